import PyProof.Rows.All
import Wide.All
import OpenK.AllK
import Wide.FinOn
import KE.KStateDown
import HandS.ForMost
import HandS.Exc
import HandS.Wide
import HandS.WideBits
import HandS.IsInst
import HandS.Style
import HandS.RaiseMore
import HandS.Defaults
import HandS.Evl
import HandS.EndBits
import HandS.Words
import HandS.WordsExc
import HandS.Head0
import HandS.Head1
import HandS.Head2
import HandS.HeadEnd
import HandS.HeadHook1
import HandS.HeadHook2
import HandS.HeadHook3
import HandS.Star
import HandS.FStr
import HandS.Text
import HandS.Walk
import KE.GoesMore
import PyProof.LongRange
import HandS.Conv
import PyProof.StrLawsRepr
import PyProof.InstSpecial
import HandS.SetBool
import HandS.Strs
import HandS.SortInts
import HandS.OwnEq
import KE.KFmtOwn
import PyProof.InstNe
import OpenK.KOps
import HandS.DeepEq
import HandS.Zip
import HandS.TupAny
import PySem.Challenge.RW_sizestacks_k34_whole_least_orders_for_a
set_option Elab.async false
set_option linter.all false
set_option maxRecDepth 100000
set_option maxHeartbeats 4000000
set_option exponentiation.threshold 20000
/-! Own base: a def by its promise, a few rules more. -/
namespace Sz
open PySem PySem.Spec PyProof.Rows L2

/-- a def of the text, by its name -/
def DefAt (K : PySem.W.Frag) (mg : Str → Option Value) (x : Str) (st : Stmt) : Prop :=
  ∃ f fd, FunD K x x (defArgs st) (defBody st) (defScope st) [] [] f fd ∧ mg x = some (.ref f)

/-- the def named x keeps the promise sp -/
structure Prom (P : Program) (w : World) (K : PySem.W.Frag) (mg : Str → Option Value) (base : Heap) (CX : CXT) (k : Nat) (x : Str) (st : Stmt) (ps : List Str) (sp : Sp) : Prop where
  ex : ∃ f fd, FnOk P w K mg base CX k f fd ps sp ∧ mg x = some (.ref f) ∧ FunD K x x (defArgs st) (defBody st) (defScope st) [] [] f fd ∧ Binds K fd ps []

section
variable {P : Program} {w : World} {K : PySem.W.Frag} {mg : Str → Option Value} {base : Heap}
theorem Prom.of {x : Str} {st : Stmt} {ps N : List Str} {sp : Sp} {k : Nat} (D : DefAt K mg x st) (S : FnScope N ps (defScope st)) (len : ∀ vs H Q E, sp vs H Q E → vs.length = ps.length)
    (hb : ∀ (kV doc pm : Value) (an : Option Addr) (cdv ct : Value) (us : List Value), us.length = ps.length → bindArgs (PySem.W.fnOf x x (defArgs st) (defBody st) (defScope st) .none kV doc pm an cdv ct) ⟨us, []⟩ = pure (ps.zip us))
    (hbody : ∀ (f : Addr) (cdv : Value) (A : Around) (outer : List Env) (s : Shared) (H : Hp) (vs : List V) (Q : VK) (E : XK), Room k (A.deeper (envOfC x (defScope st) s.heap.objs.size f cdv)) → sp vs H Q E →
      ∃ t, PSs (cxOf CX0 P w K mg base N x (defScope st) f cdv A outer s H E).nox (defBody st) t ∧ t { nx := fun _ H' => Q .non H', rt := Q } (start N vs) H) :
    Prom P w K mg base CX0 (k + 1) x st ps sp := by
  obtain ⟨f, fd, F, hm⟩ := D
  refine ⟨f, fd, F.ok S len (fun cdv A outer s H vs Q E hr hs => ?_), hm, F, F.bindsN hb⟩
  obtain ⟨t, h1, h2⟩ := hbody f cdv A outer s H vs Q E hr hs
  exact ⟨t, h1.nox, h2⟩
end

section
variable {X : Cx} {CX : CXT} {k : Nat} {x : Str} {st : Stmt} {ps : List Str} {sp : Sp} {E : XK} {e : Expr} {es : List Expr} {t tk : TA} {p pos : Pos} {kws : List Keyword} {ks : List Str}
theorem pe_callP (G : Prom X.prog X.w X.K X.mg X.base CX k x st ps sp) (hr : Room k X.A) (hg : Gl X x) (hx : Passes CX X E) (ha : PA X (e :: es) t)
    (hdb : (x == ("__debug__" : Str)) = false := by decide) (he : starEach (e :: es) X.env = (false, eval e X.env) :: starEach es X.env := by rfl) (hpl : (backTo pos (starEach es X.env)).any (·.1) = false := by rfl) :
    PE X (.Call (.Name x p) (e :: es) [] pos) (tCall sp [] E t) := by
  obtain ⟨f, fd, F, hm, D, hb⟩ := G.ex
  exact pe_call F hr hg hm D.kp hb .nil hx ha hdb he hpl
/-- f(k = v, ..), keywords alone -/
theorem pe_callKP {g : List Value → List Value → List Value} {gV : List V → List V → List V} (G : Prom X.prog X.w X.K X.mg X.base CX k x st ps sp) (hr : Room k X.A) (hg : Gl X x) 
    (hb : ∀ fd f, FunD X.K x x (defArgs st) (defBody st) (defScope st) [] [] f fd → KBinds X.K fd ps ks g gV) (hx : Passes CX X E)
    (hkw : PK X kws tk) (hall : (backToKw pos (keywordEach kws X.env)).all (·.1.isSome) = true := by rfl) (hks : (backToKw pos (keywordEach kws X.env)).filterMap (·.1) = ks := by rfl)
    (hdb : (x == ("__debug__" : Str)) = false := by decide)
    (hpl : ((backTo pos (starEach [] X.env)).any (·.1) || (backToKw pos (keywordEach kws X.env)).any (·.1.isNone)) = false := by rfl) :
    PE X (.Call (.Name x p) [] kws pos) (tCallK sp gV E tNil tk) := by
  obtain ⟨f, fd, F, hm, D, _⟩ := G.ex
  have hb := hb fd f D
  refine ⟨fun pins s σ H Q I h => ?_⟩
  refine wpAny_Call_Name_kw (ld_glob I hg hm ?_ hdb)
  refine PySem.W.callWith_KW0 (h₀ := X.base) I.ok.mod.kin D.kp hall (thn (hkw.run pos pins s σ H _ I h) fun ws s2 z => ?_) hpl
  obtain ⟨zs, H2, I2, rz, q2⟩ := z
  refine ⟨I2.kIn, ?_⟩
  rw [hks]
  exact run_fnk F hr hb hx I2 .nil rz q2
/-- the keywords' values put in the parameters' order -/
def perm {α : Type} (ix : List Nat) (us ws : List α) : List α := match us with
  | [] => if ws.length = ix.length then ix.filterMap fun i => ws[i]? else []
  | _ :: _ => []
theorem perm_vals {ix : List Nat} {vs zs : List V} {us ws : List Value} (r : Vals vs us) (z : Vals zs ws) : Vals (perm ix vs zs) (perm ix us ws) := by
  cases r with
  | cons _ _ => exact .nil
  | nil =>
    show Vals (if zs.length = ix.length then _ else _) (if ws.length = ix.length then _ else _)
    rw [z.length]
    by_cases c : ws.length = ix.length
    · rw [if_pos c, if_pos c]
      clear c
      induction ix with
      | nil => exact .nil
      | cons i ix ih =>
        rw [List.filterMap_cons, List.filterMap_cons]
        cases e : zs[i]? with
        | none =>
          rw [z.none_of e]
          exact ih
        | some v =>
          obtain ⟨u, hu, rv⟩ := z.get e
          rw [hu]
          exact .cons rv ih
    · rw [if_neg c, if_neg c]
      exact .nil
theorem kb_of {K : PySem.W.Frag} (ix : List Nat) (hne : 0 < ps.length)
    (h : ∀ (kV doc pm : Value) (an : Option Addr) (cdv ct : Value) (ws : List Value), ws.length = ix.length → bindArgs (PySem.W.fnOf x x (defArgs st) (defBody st) (defScope st) .none kV doc pm an cdv ct) ⟨[], ks.zip ws⟩ = pure (ps.zip (perm ix [] ws))) :
    ∀ fd f, FunD K x x (defArgs st) (defBody st) (defScope st) [] [] f fd → KBinds K fd ps ks (perm ix) (perm ix) := fun fd f F => by
  obtain ⟨oc, od, dV, kV, doc, pm, an, cdv, ct, osl, rfl, lk, hcd, hD, hK⟩ := F.ex
  rcases hD with ⟨_, rfl⟩ | ⟨e, _⟩
  · refine ⟨fun s us ws _ hl => ?_, fun r z => perm_vals r z⟩
    cases us with
    | cons u us =>
      have e0 : (perm ix (u :: us) ws).length = 0 := rfl
      omega
    | nil =>
      by_cases c : ws.length = ix.length
      · exact .of_eq (h kV doc pm an cdv ct ws c)
      · have e0 : perm ix [] ws = [] := if_neg c
        rw [e0] at hl
        simp at hl
        omega
  · exact absurd rfl e
/-- a constant of the module -/
theorem pe_gint {v : Int} (h : ∃ u, X.mg x = some (.int v u)) (hg : Gl X x := by rfl) (hd : (x == ("__debug__" : Str)) = false := by decide) : PE X (.Name x pos) (tC (.int v)) := by
  obtain ⟨u, hm⟩ := h
  exact pe_glob hg hm ⟨_, rfl⟩ hd
theorem op_isnotBl : OpR X (compareOp .IsNot) (fun x y H Q => ∃ b : Bool, y = .bl b ∧ Q (.bl (!decide (x = .bl b))) H) := by
  intro pins s σ H x y v u Q I rx ry h
  obtain ⟨b, rfl, q⟩ := h
  cases (show u = Value.bool b from ry)
  have key : plainIs v (Value.bool b) = true ∧ (v = Value.bool b ↔ x = .bl b) := by
    cases x with
    | non => cases (show v = Value.none from rx); exact ⟨rfl, by constructor <;> intro z <;> cases z⟩
    | bl c => cases (show v = Value.bool c from rx); exact ⟨rfl, by constructor <;> intro z <;> cases z <;> rfl⟩
    | int i => obtain ⟨t, rfl⟩ := (show ∃ t, v = Value.int i t from rx); exact ⟨rfl, by constructor <;> intro z <;> cases z⟩
    | str i => obtain ⟨t, rfl⟩ := (show ∃ t, v = Value.str i t from rx); exact ⟨rfl, by constructor <;> intro z <;> cases z⟩
    | byt i => obtain ⟨t, rfl⟩ := (show ∃ t, v = Value.bytes i t from rx); exact ⟨rfl, by constructor <;> intro z <;> cases z⟩
    | flt i => obtain ⟨t, rfl⟩ := (show ∃ t, v = Value.float i t from rx); exact ⟨rfl, by constructor <;> intro z <;> cases z⟩
    | ref a => cases (show v = Value.ref a from rx); exact ⟨rfl, by constructor <;> intro z <;> cases z⟩
    | ty n => cases (show v = Value.type n from rx); exact ⟨rfl, by constructor <;> intro z <;> cases z⟩
  by_cases e : x = .bl b
  · have ev := key.2.mpr e
    subst ev
    exact wpAny_isNot_self rfl ⟨.bl false, H, I, rfl, by simpa [e] using q⟩
  · exact wpAny_isNot_other key.1 (fun z => e (key.2.mp z)) ⟨.bl true, H, I, rfl, by simpa [e] using q⟩
/-- repr of a flat value -/
def flatShown : V → Option Str
  | .non => some "None"
  | .bl b => some (if b then "True" else "False")
  | .int i => if i.natAbs.log2 < 1920 then some (toString i) else none
  | _ => none
theorem cr_repr : CallR X (.builtin "repr") (fun xs H Q => ∃ v z, xs = [v] ∧ flatShown v = some z ∧ Q (.str z) H) := by
  intro pins s σ H xs us Q I r h
  obtain ⟨v, z, rfl, hz, q⟩ := h
  obtain ⟨u, rfl, ru⟩ := vals1 r
  cases v with
  | non =>
    cases (show u = Value.none from ru)
    obtain rfl : ("None" : Str) = z := Option.some.inj hz
    exact PySem.P.repr_of_none ⟨.str _, H, I.tok _, ⟨_, rfl⟩, q⟩
  | bl b =>
    cases (show u = Value.bool b from ru)
    obtain rfl : (if b then "True" else "False" : Str) = z := Option.some.inj hz
    exact PySem.P.repr_of_bool ⟨.str _, H, I.tok _, ⟨_, rfl⟩, q⟩
  | int i =>
    obtain ⟨t, rfl⟩ := (show ∃ t, u = Value.int i t from ru)
    have hz2 : (if i.natAbs.log2 < 1920 then some (toString i : Str) else none) = some z := hz
    by_cases c : i.natAbs.log2 < 1920
    · rw [if_pos c] at hz2
      obtain rfl := Option.some.inj hz2
      exact PySem.P.repr_of_int c ⟨.str _, H, I.tok _, ⟨_, rfl⟩, q⟩
    · rw [if_neg c] at hz2
      cases hz2
  | _ => cases hz
/-- a power of any size that the model takes -/
def CPowW (i j : Int) : Prop := 1 < i ∧ 0 < j ∧ ∃ n : Nat, i.natAbs < 2 ^ n ∧ (n : Int) * j ≤ 134217728
theorem op_powW : OpR X (binaryOp .Pow) (rI CPowW fun i j => .int (i ^ j.toNat)) := opI fun i j t u s Q E hc q => by
  obtain ⟨h1, h2, n, h3, h4⟩ := hc
  have hb : ¬ Builtin.Int.intTooBig (((Builtin.Int.intBits i : Nat) : Int) * j) = true := by
    have e : bitsLine = 134217728 := by decide
    have b := PyProof.Rows.intBits_le h3
    have m : ((Builtin.Int.intBits i : Nat) : Int) * j ≤ (n : Int) * j := Int.mul_le_mul_of_nonneg_right (by omega) (by omega)
    unfold Builtin.Int.intTooBig
    rw [decide_eq_true_eq, e]
    omega
  refine PySem.AutoIntOps.pow_4 (by omega) (by simpa using (show ¬ j = 0 by omega)) (by simpa using (show ¬ i = 0 ∧ ¬ i = 1 by omega)) (by simpa using (show ¬ i = -1 by omega)) hb ?_
  exact q
/-- divmod by a positive number of at most 30 figures -/
theorem divp_small {i j : Int} (h : 0 < j) (h2 : j ≤ 1000000000000000000000000000000) : CDivP i j := by
  refine ⟨h, PyProof.noPylong_of_log2 ?_⟩
  have h3 : j.natAbs < 2 ^ 200 := Nat.lt_of_le_of_lt (show j.natAbs ≤ 1000000000000000000000000000000 by omega) (by decide)
  exact Nat.lt_of_lt_of_le (PySem.Flt.log2_lt_of (by decide) h3) (by decide)
end
/-! ### what an if's test says -/
theorem ifd {c A B : Prop} [Decidable c] (h1 : c → A) (h2 : ¬ c → B) : if decide c = true then A else B := by
  by_cases h : c
  · rw [decide_eq_true h, if_pos rfl]; exact h1 h
  · rw [decide_eq_false h, if_neg Bool.false_ne_true]; exact h2 h
theorem ifd_pos {c A B : Prop} [Decidable c] (h : c) (hA : A) : if decide c = true then A else B := by
  rw [decide_eq_true h, if_pos rfl]; exact hA
theorem ifd_neg {c A B : Prop} [Decidable c] (h : ¬ c) (hB : B) : if decide c = true then A else B := by
  rw [decide_eq_false h, if_neg Bool.false_ne_true]; exact hB
theorem ifn {c A B : Prop} [Decidable c] (h1 : ¬ c → A) (h2 : c → B) : if (!decide c) = true then A else B := by
  by_cases h : c
  · rw [decide_eq_true h]; exact h2 h
  · rw [decide_eq_false h]; exact h1 h
/-- all but p stands as it stood -/
def Kp (p : Addr) (H H' : Hp) : Prop := ∀ b o, b ≠ p → H b = some o → H' b = some o
theorem Kp.refl (p : Addr) (H : Hp) : Kp p H H := fun _ _ _ h => h
theorem Kp.trans {p : Addr} {H H1 H2 : Hp} (a : Kp p H H1) (b : Kp p H1 H2) : Kp p H H2 := fun c o n h => b c o n (a c o n h)
theorem Kp.set {p : Addr} {H H' : Hp} {o : HO} (a : Kp p H H') : Kp p H (L2.upd H' p o) := fun b u n h => by
  rw [upd_ne n]
  exact a b u n h
theorem Kp.new {p q : Addr} {H H' : Hp} {o : HO} (a : Kp p H H') (h : H' q = none) : Kp p H (upd H' q o) := fun b u n e => by
  have e2 := a b u n e
  rw [upd_ne (ne_of_none e2 h)]
  exact e2
end Sz
namespace Sz
open PySem PySem.Spec PyProof.Rows L2
/-! ### defs that show containers: nothing is being shown around their call -/
structure FnG (P : Program) (w : World) (K : PySem.W.Frag) (mg : Str → Option Value) (base : Heap) (k : Nat) (f : Addr) (fd : FuncData) (ps : List Str) (sp : Sp) : Prop where
  len : ∀ vs H Q E, sp vs H Q E → vs.length = ps.length
  run : ∀ (A : Around) (outer : List Env) (s : Shared) (H : Hp) (args : Args) (us : List Value) (vs : List V) (Q : VK) (E : XK), Room k A → A.guards = some [] → Env0 P w K mg base A outer s H →
    BindsTo s fd args (ps.zip us) → Vals vs us → sp vs H Q E → codeAny (model P w) A (.call (.ref f) args) (CR CX0 outer P w H s Q E) s
theorem FnG.of {P : Program} {w : World} {K : PySem.W.Frag} {mg : Str → Option Value} {base : Heap} {k : Nat} {f : Addr} {fd : FuncData} {ps : List Str} {sp : Sp} (F : FnOk P w K mg base CX0 k f fd ps sp) : FnG P w K mg base k f fd ps sp :=
  ⟨F.len, fun A outer s H args us vs Q E hr _ e0 hb r h => F.run A outer s H args us vs Q E hr e0 hb r h⟩
/-- from the body -/
theorem fnG_of {P : Program} {w : World} {K : PySem.W.Frag} {mg : Str → Option Value} {base : Heap} {k : Nat} {f : Addr} {x q : Str} {pr : Arguments} {bd : List Stmt} {sc : Scope} {dvs : List V} {kws : List (Str × V)} {fd : FuncData} {N ps : List Str} {sp : Sp}
    (F : FunD K x q pr bd sc dvs kws f fd) (S : FnScope N ps sc) (len : ∀ vs H Q E, sp vs H Q E → vs.length = ps.length)
    (hbody : ∀ (cdv : Value) (A : Around) (outer : List Env) (s : Shared) (H : Hp) (vs : List V) (Q : VK) (E : XK), Room k (A.deeper (envOfC q sc s.heap.objs.size f cdv)) → (A.deeper (envOfC q sc s.heap.objs.size f cdv)).guards = some [] → sp vs H Q E →
      ∃ t, PSs (cxOf CX0 P w K mg base N q sc f cdv A outer s H E).nox bd t ∧ t { nx := fun _ H' => Q .non H', rt := Q } (start N vs) H) : FnG P w K mg base (k + 1) f fd ps sp := by
  obtain ⟨c1, c2, c3, c4, c5, c6, c7, cdv, c9, c10, rfl, look, code, _, _⟩ := F.ex
  refine ⟨len, fun A outer s H args us vs Q E room gd e0 hbind rel want => ?_⟩
  have old : ∀ b o, base.get? b = some o → s.heap.get? b = some o := fun b o e => (e0.bs b o e).1
  have inK : K.In s.heap := e0.mod.kin.keeps old
  have kinds : ∀ y ∈ ps.zip us, sc.names.lookup y.1 = some .local ∨ (sc.names.lookup y.1 = some .cell ∧ ((cellsFrom (s.heap.objs.size + 1) sc.names []).lookup y.1).isSome = true) := by
    rintro ⟨n, v⟩ hy
    have hm : n ∈ ps := (List.of_mem_zip hy).1
    cases S.par n hm with
    | inl z => exact Or.inl z
    | inr z => exact Or.inr ⟨z, PySem.W.cellsFrom_some _ _ _ (.inl z)⟩
  obtain ⟨t, dt, rt⟩ := hbody cdv A outer s H vs Q E (room.deeper _) gd want
  have dt := dt.nox
  refine codeAny_call_function room.depth (inK _ _ look) rfl S.co S.gen rfl (PySem.W.codeRec_of inK code) ?_
  refine hbind _ _ _ _ (wpAny_newFunctionEnv_cells S.kind kinds ?_)
  rintro _ rfl s1 ic
  refine ⟨(e0.mod.nolimit.keeps old).keeps ic.toInCall.keep, codeAny_func ?_⟩
  refine wpAny_mono (dt.run [] s1 (start N vs) H _ (inv_start S room.hd e0 (len _ _ _ _ want) rel ic) rt) ?_ (fun _ _ z => z)
  intro fl s' hs
  cases fl with
  | ret u => exact let ⟨v, _, H', J, rv, qv⟩ := hs; ⟨v, H', J.os, J.bare, J.base, J.hok, rv, qv⟩
  | next => exact let ⟨_, H', J, qv⟩ := hs; ⟨.non, H', J.os, J.bare, J.base, J.hok, rfl, qv⟩
  | brk => exact let ⟨_, _, _, qv⟩ := hs; False.elim qv
  | cont => exact let ⟨_, _, _, qv⟩ := hs; False.elim qv
/-- the def named x keeps the promise sp where nothing is being shown -/
structure PromG (P : Program) (w : World) (K : PySem.W.Frag) (mg : Str → Option Value) (base : Heap) (k : Nat) (x : Str) (st : Stmt) (ps : List Str) (sp : Sp) : Prop where
  ex : ∃ f fd, FnG P w K mg base k f fd ps sp ∧ mg x = some (.ref f) ∧ FunD K x x (defArgs st) (defBody st) (defScope st) [] [] f fd ∧ Binds K fd ps []
section
variable {P : Program} {w : World} {K : PySem.W.Frag} {mg : Str → Option Value} {base : Heap}
theorem PromG.of {x : Str} {st : Stmt} {ps N : List Str} {sp : Sp} {k : Nat} (D : DefAt K mg x st) (S : FnScope N ps (defScope st)) (len : ∀ vs H Q E, sp vs H Q E → vs.length = ps.length)
    (hb : ∀ (kV doc pm : Value) (an : Option Addr) (cdv ct : Value) (us : List Value), us.length = ps.length → bindArgs (PySem.W.fnOf x x (defArgs st) (defBody st) (defScope st) .none kV doc pm an cdv ct) ⟨us, []⟩ = pure (ps.zip us))
    (hbody : ∀ (f : Addr) (cdv : Value) (A : Around) (outer : List Env) (s : Shared) (H : Hp) (vs : List V) (Q : VK) (E : XK), Room k (A.deeper (envOfC x (defScope st) s.heap.objs.size f cdv)) → (A.deeper (envOfC x (defScope st) s.heap.objs.size f cdv)).guards = some [] → sp vs H Q E →
      ∃ t, PSs (cxOf CX0 P w K mg base N x (defScope st) f cdv A outer s H E).nox (defBody st) t ∧ t { nx := fun _ H' => Q .non H', rt := Q } (start N vs) H) :
    PromG P w K mg base (k + 1) x st ps sp := by
  obtain ⟨f, fd, F, hm⟩ := D
  exact ⟨f, fd, fnG_of F S len (fun cdv A outer s H vs Q E hr hg hs => hbody f cdv A outer s H vs Q E hr hg hs), hm, F, F.bindsN hb⟩
theorem Prom.g {x : Str} {st : Stmt} {ps : List Str} {sp : Sp} {k : Nat} (G : Prom P w K mg base CX0 k x st ps sp) : PromG P w K mg base k x st ps sp := by
  obtain ⟨f, fd, F, r⟩ := G.ex
  exact ⟨f, fd, FnG.of F, r⟩
end
section
variable {X : Cx} {k : Nat} {x : Str} {st : Stmt} {ps : List Str} {sp : Sp} {e : Expr} {es : List Expr} {t : TA} {p pos : Pos}
/-- f(..) of such a def -/
theorem pe_callG (G : PromG X.prog X.w X.K X.mg X.base k x st ps sp) (gd : X.A.guards = some []) (hr : Room k X.A) (hg : Gl X x) (ha : PA X (e :: es) t)
    (hdb : (x == ("__debug__" : Str)) = false := by decide) (he : starEach (e :: es) X.env = (false, eval e X.env) :: starEach es X.env := by rfl) (hpl : (backTo pos (starEach es X.env)).any (·.1) = false := by rfl) :
    PE X (.Call (.Name x p) (e :: es) [] pos) (tCall sp [] E0 t) := by
  obtain ⟨f, fd, F, hm, D, hb⟩ := G.ex
  constructor
  intro pins s σ H Q I h
  refine wpAny_Call_Name_kw (ld_glob I hg hm (PySem.W.callWith_K (h₀ := X.base) I.ok.mod.kin D.kp (thn (ha.run pos pins s σ H _ I h) ?_) he hpl) hdb)
  rintro us s1 ⟨vs, H1, I1, rel, want⟩
  refine ⟨I1.kIn, wpAny_call (codeAny_mono (F.run X.A X.stack s1 H1 ⟨us, []⟩ (us ++ []) (vs ++ []) Q E0 hr gd I1.env0 (hb s1 us I1.kIn ?_) (rel.append .nil) want) ?_)⟩
  · rw [← (rel.append Paired.nil).length]
    exact F.len _ _ _ _ want
  · intro r s' hq
    cases r with
    | error z => exact False.elim hq
    | ok fl =>
      cases fl with
      | ret u => exact I1.after hq
      | next => exact False.elim hq
      | brk => exact False.elim hq
      | cont => exact False.elim hq
/-- repr of data at any depth -/
theorem cr_reprD (gd : X.A.guards = some []) (hu : X.A.units + 64 < cLine) : CallR X (.builtin "repr") (fun xs H Q => ∃ (a : Addr) (d : PyData), xs = [.ref a] ∧ Dp X.K H (.ref a) d ∧ d.showable = true ∧ d.hasDict = false ∧ d.depth ≤ 40 ∧ d.shown.length ≤ sizeLine ∧ Q (.str d.shown) H) := by
  intro pins s σ H xs us Q I r h
  obtain ⟨a, d, rfl, hd, h1, h2, h3, h4, q⟩ := h
  obtain ⟨u, rfl, ru⟩ := vals1 r
  obtain ⟨as, rd⟩ := Dp.reads I d _ u hd ru
  cases (show u = Value.ref a from ru)
  refine repr_of_reads' rd h1 (PyData.noDict_hsm h2) gd (by omega) (fun _ _ z => z) (fun h' tok tk kept => ?_) h4
  exact ⟨.str d.shown, H, I.kept (t' := tk) kept, ⟨_, rfl⟩, q⟩
end
/-! ### the law's call -/
section
variable {P : Program} {w : World} {K : PySem.W.Frag} {mg mb : Str → Option Value} {k : Nat} {fa a : Addr} {fd : FuncData} {x : Str} {sp : Sp} {st : Shared} {vs : List Value} {ns : List Int}
/-- the script as the law finds it -/
def scriptHp (K : PySem.W.Frag) (a : Addr) (vs : List Value) (ns : List Int) : Hp := fun b => if b = a ∧ K.lookup a = none then some (.frz { cls := .type "list", data := .seq vs.toArray } (.lst (ns.map V.int))) else none
theorem scriptHp_some {b : Addr} {u : HO} (h : scriptHp K a vs ns b = some u) : b = a ∧ K.lookup a = none ∧ u = .frz { cls := .type "list", data := .seq vs.toArray } (.lst (ns.map V.int)) := by
  unfold scriptHp at h
  by_cases c : b = a ∧ K.lookup a = none
  · rw [if_pos c] at h
    exact ⟨c.1, c.2, (Option.some.inj h).symm⟩
  · rw [if_neg c] at h
    cases h
theorem scriptHp_none {b : Addr} (h : b ≠ a) : scriptHp K a vs ns b = none := if_neg fun z => h z.1
theorem law_callG (KX : K.In st.heap) (gl : st.heap.Ns mainGlobals mg) (bl : st.heap.Ns builtinsNs mb) (bb : ∀ y : Str, y ≠ "__name__" → mb y = bootBuiltins y) (nl : st.heap.NoLimit) (gn : st.gens = #[])
    (ha : st.heap.get? a = some { cls := .type "list", data := .seq vs.toArray }) (hi : IntsAre vs ns) (hl : ns.length ≤ sizeLine) (room : Room k callerA)
    (F : ∀ base : Heap, K.In base → base.Ns mainGlobals mg → FnG P w K mg base k fa fd [x] sp) (bind1 : ∀ (s : Shared) (u : Value), BindsTo s fd ⟨[u], []⟩ [(x, u)])
    (want : ∀ H : Hp, SqL K H a (ns.map V.int) → sp [.ref a] H (fun v _ => v = .bl true) fun _ _ _ => False) :
    codeAny (model P w) callerA (.call (.ref fa) ⟨[.ref a], []⟩) (fun r s' => r = .ok (.ret (.bool true)) ∧ OldK st.heap s'.heap ∧ s'.os = st.os ∧ AllBare s'.gens) st := by
  have rel : Vals (ns.map V.int) vs := vals_ints hi
  have len : (ns.map V.int).length ≤ sizeLine := by rw [List.length_map]; exact hl
  generalize hH : scriptHp K a vs ns = H
  have sm : ∀ {b u}, H b = some u → b = a ∧ K.lookup a = none ∧ u = .frz { cls := .type "list", data := .seq vs.toArray } (.lst (ns.map V.int)) := fun {b u} e => by
    rw [← hH] at e
    exact scriptHp_some e
  have ok : HOk P w H st.heap := fun b u e => by
    obtain ⟨rfl, _, rfl⟩ := sm e
    exact ⟨ha, len, vs, _, rel, ha⟩
  have sq : SqL K H a (ns.map V.int) := by
    cases lk : K.lookup a with
    | none => exact Or.inl (Or.inr ⟨_, by rw [← hH]; exact if_pos ⟨rfl, lk⟩⟩)
    | some o =>
      have e := (KX a o lk).symm.trans ha
      cases e
      exact Or.inr ⟨_, vs.toArray, _, lk, rfl, rfl, rfl, by rw [List.size_toArray, ← rel.length]; exact len, by simpa using rel⟩
  have hid : ∀ {b o}, st.heap.get? b = some o → H b = none → (hidT st.heap H).get? b = some o := fun e n => hidT_get e n
  have free : ∀ {b : Addr} {m}, st.heap.Ns b m → H b = none := fun {b m} hn => by
    cases e : H b with
    | none => rfl
    | some u =>
      obtain ⟨rfl, _, _⟩ := sm e
      obtain ⟨o, es, ep, e1, e2, _⟩ := hn
      have z := ha.symm.trans e1
      cases z
      cases e2
  have ns1 : ∀ {b : Addr} {m}, st.heap.Ns b m → (hidT st.heap H).Ns b m := fun {b m} hn => by
    have fr := free hn
    obtain ⟨o, es, ep, e1, e2⟩ := hn
    exact ⟨o, es, ep, hid e1 fr, e2⟩
  have inB : K.In (hidT st.heap H) := fun b o e => hid (KX b o e) (by
    cases z : H b with
    | none => rfl
    | some u =>
      obtain ⟨rfl, z2, _⟩ := sm z
      rw [z2] at e
      cases e)
  have md : Mod K mg (hidT st.heap H) := ⟨inB, ns1 gl, ⟨mb, ns1 bl, bb⟩, let ⟨mc, c1, c2⟩ := nl; ⟨mc, ns1 c1, c2⟩⟩
  have env : Env0 P w K mg (hidT st.heap H) callerA [] st H := ⟨rfl, md, fun _ _ e => of_hidT e, Nat.le_of_eq (hidT_size _ _), trivial, fun b z => absurd (show b ∈ ([] : List Addr) from z) (by simp), ok, .of_eq gn⟩
  refine codeAny_mono ((F _ inB (ns1 gl)).run callerA [] st H ⟨[.ref a], []⟩ [.ref a] [.ref a] _ _ room rfl env (bind1 st (.ref a)) (.cons rfl .nil) (want H sq)) fun r s' h => ?_
  cases r with
  | error z => exact False.elim h
  | ok fl =>
    cases fl with
    | next => exact False.elim h
    | brk => exact False.elim h
    | cont => exact False.elim h
    | ret u =>
      obtain ⟨v, H', os, bare, un, ok', ru, qv⟩ := h
      cases (show v = .bl true from qv)
      cases (show u = Value.bool true from ru)
      refine ⟨rfl, OldK.of_keep ?_, os, bare⟩
      intro b o e
      cases z : H b with
      | none => exact un.keep b o e z (by intro y; exact absurd (show b ∈ ([] : List Addr) from y) (by simp)) (by simp)
      | some t =>
        obtain ⟨rfl, _, rfl⟩ := sm z
        have e2 := (ok' _ _ (un.frzs _ _ _ z)).1
        have e3 := ha.symm.trans e
        cases e3
        exact e2
end
/-- a law whose def is a PromG -/
theorem walk_ofG {l : PySem.W.OpenLaw} {n k : Nat} {q : Program} {loose : List Str} {XP : (Str → Option Value) → Heap → Prop} {YP : World → Heap → Prop} {d : DefRec} {x : Str}
    (hn : l.most = some n) (hn2 : n ≤ sizeLine) (hdf : d.params.defaults = []) (room : Room k callerA)
    (F : ∀ (w : World) (mg : Str → Option Value) (fa : Addr) (h : Heap), YP w h → h.Ns mainGlobals mg → mg d.name = some (.ref fa) →
      ∃ (K : PySem.W.Frag) (fd : FuncData) (sp : Sp), K.In h ∧ (∀ (s : Shared) (u : Value), BindsTo s fd ⟨[u], []⟩ [(x, u)]) ∧
        (∀ (H : Hp) (a : Addr) (ns : List Int), ns.length ≤ n → (∀ z ∈ ns, Builtin.Int.intBits z ≤ 1048576) → SqL K H a (ns.map V.int) → sp [.ref a] H (fun v _ => v = .bl true) fun _ _ _ => False) ∧
        ∀ base : Heap, K.In base → base.Ns mainGlobals mg → FnG l.prog w K mg base k fa fd [x] sp) :
    PySem.W.WalkO q loose XP YP l.row.toRowW d [] (fun f vs => PySem.call f vs) := by
  refine Att.attach_callB hn hdf fun w sA sB mg mb fa o pm cd doc a vs ns G Y ho hd hcd hmg hobj hints hlen hbits hg => ?_
  obtain ⟨K, fd, sp, KX, b1, want, hF⟩ := F w mg fa _ Y G.T.g hmg
  exact law_callG KX G.T.g G.T.b G.T.builtins G.T.nolimit hg hobj hints (Nat.le_trans hlen hn2) room hF b1 (fun H hS => want H a ns hlen hbits hS)
end Sz
namespace Sz
/-! ### powers -/
theorem pow_pos {b : Int} (hb : 1 ≤ b) : ∀ j : Nat, 1 ≤ b ^ j
  | 0 => by rw [Int.pow_zero]; exact Int.le_refl 1
  | j + 1 => by
    rw [Int.pow_succ]
    have ih := pow_pos hb j
    have h := Int.mul_le_mul ih hb (by omega) (by omega)
    omega
theorem pow_one (b : Int) : b ^ (0 + 1) = b := by rw [Int.pow_succ, Int.pow_zero, Int.one_mul]
theorem pow_step {b : Int} (hb : 1 ≤ b) (j : Nat) : b ^ j ≤ b ^ (j + 1) := by
  rw [Int.pow_succ]
  have h := Int.mul_le_mul_of_nonneg_left hb (show 0 ≤ b ^ j by have := pow_pos hb j; omega)
  omega
theorem pow_mono {b : Int} (hb : 1 ≤ b) {i : Nat} : ∀ {j : Nat}, i ≤ j → b ^ i ≤ b ^ j
  | 0, h => by
    have e : i = 0 := by omega
    rw [e]
    exact Int.le_refl _
  | j + 1, h => by
    by_cases e : i = j + 1
    · rw [e]
      exact Int.le_refl _
    · exact Int.le_trans (pow_mono hb (j := j) (by omega)) (pow_step hb j)
theorem pow_lt {b : Int} (hb : 2 ≤ b) (j : Nat) : b ^ j < b ^ (j + 1) := by
  rw [Int.pow_succ]
  have h1 := pow_pos (show 1 ≤ b by omega) j
  have h := Int.mul_le_mul_of_nonneg_left hb (show 0 ≤ b ^ j by omega)
  omega
/-- an integer is below the power with its own number -/
theorem lt_pow {b : Int} (hb : 2 ≤ b) : ∀ j : Nat, (j : Int) < b ^ j
  | 0 => by rw [Int.pow_zero]; decide
  | j + 1 => by
    have h1 := lt_pow hb j
    have h2 := pow_lt hb j
    omega
/-! ### figures -/
/-- k is the number of figures of n in the base b -/
def IsF (b n k : Int) : Prop := ∃ j : Nat, k = (j : Int) + 1 ∧ n < b ^ (j + 1) ∧ (j = 0 ∨ b ^ j ≤ n)
theorem isF_le {b n m k l : Int} (hb : 2 ≤ b) (h : n ≤ m) (hk : IsF b n k) (hl : IsF b m l) : k ≤ l := by
  obtain ⟨i, rfl, h1, h2⟩ := hk
  obtain ⟨j, rfl, h3, h4⟩ := hl
  by_cases c : i ≤ j
  · omega
  · rcases h2 with h2 | h2
    · omega
    · have h5 := pow_mono (show 1 ≤ b by omega) (show j + 1 ≤ i by omega)
      omega
theorem isF_eq {b n k l : Int} (hb : 2 ≤ b) (hk : IsF b n k) (hl : IsF b n l) : k = l :=
  Int.le_antisymm (isF_le hb (Int.le_refl n) hk hl) (isF_le hb (Int.le_refl n) hl hk)
theorem isF_pos {b n k : Int} (h : IsF b n k) : 1 ≤ k := by
  obtain ⟨j, rfl, _⟩ := h
  omega
/-- there is such a number -/
theorem isF_ex {b : Int} (hb : 2 ≤ b) (n : Int) : ∃ k, IsF b n k := by
  have key : ∀ m : Nat, ∀ n : Int, n < b ^ (m + 1) → ∃ k, IsF b n k := by
    intro m
    induction m with
    | zero => exact fun n h => ⟨1, 0, rfl, h, .inl rfl⟩
    | succ m ih =>
      intro n h
      by_cases c : n < b ^ (m + 1)
      · exact ih n c
      · exact ⟨(m + 1 : Nat) + 1, m + 1, rfl, h, .inr (by omega)⟩
  refine key n.toNat n ?_
  have h1 := lt_pow hb (n.toNat + 1)
  omega
/-- a bound for the figures -/
theorem isF_bound {b n k : Int} (hb : 2 ≤ b) (m : Nat) (hn : n < 2 ^ m) (h : IsF b n k) : k ≤ (m : Int) + 1 := by
  obtain ⟨j, rfl, h1, h2⟩ := h
  rcases h2 with h2 | h2
  · omega
  · by_cases c : j ≤ m
    · omega
    · exfalso
      have h3 : (2 : Int) ^ j ≤ b ^ j := by
        clear h1 h2 c
        induction j with
        | zero => rw [Int.pow_zero, Int.pow_zero]; exact Int.le_refl 1
        | succ j ih =>
          rw [Int.pow_succ, Int.pow_succ]
          exact Int.mul_le_mul ih hb (by decide) (by have := pow_pos (show 1 ≤ b by omega) j; omega)
      have h4 := pow_mono (show (1 : Int) ≤ 2 by decide) (show m ≤ j by omega)
      omega
end Sz
namespace Sz
/-! ### totals that count their own figures -/
theorem isF_upper {b x g : Int} (hb : 2 ≤ b) {m : Nat} (h : x < b ^ (m + 1)) (hg : IsF b x g) : g ≤ (m : Int) + 1 := by
  obtain ⟨i, rfl, h1, h2⟩ := hg
  by_cases c : i ≤ m
  · omega
  · rcases h2 with h2 | h2
    · omega
    · have := pow_mono (show 1 ≤ b by omega) (show m + 1 ≤ i by omega)
      omega
/-- adding its figures to a number makes one figure more at most -/
theorem fig_grow {b n f g : Int} (hb : 2 ≤ b) (hn : 0 ≤ n) (hf : IsF b n f) (hg : IsF b (n + f) g) : g = f ∨ g = f + 1 := by
  have h1 := isF_le hb (show n ≤ n + f by have := isF_pos hf; omega) hf hg
  obtain ⟨j, rfl, h2, h3⟩ := hf
  have h4 := lt_pow hb (j + 1)
  have h5 : b ^ (j + 1 + 1) = b ^ (j + 1) * b := Int.pow_succ b (j + 1)
  have h6 := Int.mul_le_mul_of_nonneg_left hb (show 0 ≤ b ^ (j + 1) by omega)
  have h7 := isF_upper (m := j + 1) hb (show n + ((j : Int) + 1) < b ^ (j + 1 + 1) by omega) hg
  omega
/-- and then this is the number of figures -/
theorem fig_next {b n f : Int} (hb : 2 ≤ b) (hn : 0 ≤ n) (hf : IsF b n f) (hg : IsF b (n + f) (f + 1)) : IsF b (n + f + 1) (f + 1) := by
  obtain ⟨j, rfl, h2, h3⟩ := hf
  obtain ⟨i, e, h4, h5⟩ := hg
  have e2 : i = j + 1 := by omega
  subst e2
  have h6 := lt_pow hb (j + 1)
  have h7 : b ^ (j + 1 + 1) = b ^ (j + 1) * b := Int.pow_succ b (j + 1)
  have h8 := Int.mul_le_mul_of_nonneg_left hb (show 0 ≤ b ^ (j + 1) by omega)
  refine ⟨j + 1, by omega, by omega, Or.inr ?_⟩
  rcases h5 with h5 | h5
  · omega
  · omega
/-- s is a total of N -/
def Tot (b N s : Int) : Prop := IsF b s (s - N)
structure IsTot (b N s : Int) : Prop where
  tot : Tot b N s
  least : ∀ t, Tot b N t → s ≤ t
theorem isTot_pos {b N s : Int} (h : Tot b N s) : N + 1 ≤ s := by
  have := isF_pos h
  omega
theorem isTot_first {b n f : Int} (hb : 2 ≤ b) (hf : IsF b n f) (hg : IsF b (n + f) f) : IsTot b n (n + f) := by
  refine ⟨?_, fun t ht => ?_⟩
  · have e : n + f - n = f := by omega
    show IsF b (n + f) (n + f - n)
    rw [e]
    exact hg
  · have h1 := isTot_pos ht
    have h2 := isF_le hb (show n ≤ t by omega) hf ht
    omega
theorem isTot_second {b n f : Int} (hb : 2 ≤ b) (hn : 0 ≤ n) (hf : IsF b n f) (hg : IsF b (n + f) (f + 1)) : IsTot b n (n + f + 1) := by
  refine ⟨?_, fun t ht => ?_⟩
  · have e : n + f + 1 - n = f + 1 := by omega
    show IsF b (n + f + 1) (n + f + 1 - n)
    rw [e]
    exact fig_next hb hn hf hg
  · have h1 := isTot_pos ht
    have h2 := isF_le hb (show n ≤ t by omega) hf ht
    by_cases c : t = n + f
    · subst c
      have ht2 : IsF b (n + f) (n + f - n) := ht
      have e : n + f - n = f := by omega
      rw [e] at ht2
      have := isF_eq hb ht2 hg
      omega
    · omega
theorem isTot_eq {b N s t : Int} (h : IsTot b N s) (h2 : IsTot b N t) : s = t := Int.le_antisymm (h.least t h2.tot) (h2.least s h.tot)
/-- two totals lie beside one another -/
theorem tot_near {b N s t : Int} (hb : 2 ≤ b) (hN : 0 ≤ N) (h : Tot b N s) (h2 : Tot b N t) (hst : s ≤ t) : t ≤ s + 1 := by
  obtain ⟨i, e1, h3, h4⟩ := h
  obtain ⟨j, e2, h5, h6⟩ := h2
  by_cases c : t ≤ s + 1
  · exact c
  · exfalso
    have hj : b ^ j ≤ t := by
      rcases h6 with h6 | h6
      · omega
      · exact h6
    obtain ⟨m, hm⟩ : ∃ m : Nat, j = i + 1 + (m + 1) := ⟨j - i - 2, by omega⟩
    have e3 : b ^ j = b ^ (i + 1) * b ^ (m + 1) := by rw [hm, Int.pow_add]
    have p1 := pow_pos (show 1 ≤ b by omega) (i + 1)
    have p0 : 2 ≤ b ^ (i + 1) := by
      have := pow_mono (show 1 ≤ b by omega) (show 0 + 1 ≤ i + 1 by omega)
      rw [pow_one] at this
      omega
    have l1 := lt_pow hb (m + 1)
    have l2 := Int.mul_le_mul_of_nonneg_left (show ((m + 1 : Nat) : Int) + 1 ≤ b ^ (m + 1) by omega) (show 0 ≤ b ^ (i + 1) by omega)
    have l3 : b ^ (i + 1) * (((m + 1 : Nat) : Int) + 1) = b ^ (i + 1) * ((m + 1 : Nat) : Int) + b ^ (i + 1) := by rw [Int.mul_add, Int.mul_one]
    have l4 := Int.mul_le_mul_of_nonneg_right p0 (show 0 ≤ ((m + 1 : Nat) : Int) by omega)
    omega
/-- whether the next integer is a total, too -/
theorem tot_two {b N s g h : Int} (hb : 2 ≤ b) (ht : Tot b N s) (hg : IsF b s g) (hh : IsF b (s + 1) h) : (h > g ↔ Tot b N (s + 1)) := by
  have e1 : g = s - N := isF_eq hb hg ht
  constructor
  · intro c
    have h1 : h = g + 1 := by
      obtain ⟨j, rfl, h2, h3⟩ := hg
      have h4 := isF_upper (m := j + 1) hb (show s + 1 < b ^ (j + 1 + 1) by have := pow_lt hb (j + 1); omega) hh
      omega
    show IsF b (s + 1) (s + 1 - N)
    have e2 : s + 1 - N = h := by omega
    rw [e2]
    exact hh
  · intro c
    have e2 : h = s + 1 - N := isF_eq hb hh c
    omega
theorem isTot_ex {b n : Int} (hb : 2 ≤ b) (hn : 0 ≤ n) : ∃ s, IsTot b n s := by
  obtain ⟨f, hf⟩ := isF_ex hb n
  obtain ⟨g, hg⟩ := isF_ex hb (n + f)
  rcases fig_grow hb hn hf hg with e | e
  · exact ⟨_, isTot_first hb hf (by rw [← e]; rw [e] at hg ⊢; exact hg)⟩
  · exact ⟨_, isTot_second hb hn hf (by rw [← e]; exact hg)⟩
theorem pow_add_le {b : Int} (hb : 2 ≤ b) (j d : Nat) : b ^ j + d ≤ b ^ (j + d) := by
  induction d with
  | zero => simp
  | succ d ih =>
    have := pow_lt hb (j + d)
    have e : j + (d + 1) = j + d + 1 := by omega
    rw [e]
    omega
theorem two_mul_le {b : Int} (hb : 2 ≤ b) : ∀ j : Nat, 2 * (j : Int) ≤ b ^ j + 1
  | 0 => by simp
  | 1 => by rw [show (1 : Nat) = 0 + 1 from rfl, pow_one]; omega
  | j + 2 => by
    have h1 := two_mul_le hb (j + 1)
    have h2 : b ^ (j + 2) = b ^ (j + 1) * b := Int.pow_succ b (j + 1)
    have h3 := pow_mono (show 1 ≤ b by omega) (show 0 + 1 ≤ j + 1 by omega)
    rw [pow_one] at h3
    have h4 := Int.mul_le_mul_of_nonneg_left hb (show 0 ≤ b ^ (j + 1) by omega)
    omega
/-- the totals found ahead of the number k of figures -/
def totA (N s : Int) (two : Bool) (k : Int) : List Int := if k ≤ s - N then [] else if k = s - N + 1 ∨ two = false then [s] else [s, s + 1]
theorem totA_start {b N s : Int} {two : Bool} (h : IsTot b N s) : totA N s two 1 = [] := if_pos (by have := isTot_pos h.tot; omega)
/-- the one with k figures is a total -/
theorem totA_yes {b N s k : Int} {two : Bool} (hb : 2 ≤ b) (hN : 0 ≤ N) (h : IsTot b N s) (h2 : two = true ↔ Tot b N (s + 1)) (hk : Tot b N (N + k)) : totA N s two (k + 1) = totA N s two k ++ [N + k] := by
  have a := h.least _ hk
  have c := tot_near hb hN h.tot hk a
  by_cases e : N + k = s
  · have e1 : totA N s two k = [] := if_pos (by omega)
    have e2 : totA N s two (k + 1) = [s] := by
      unfold totA
      rw [if_neg (by omega), if_pos (Or.inl (by omega))]
    rw [e1, e2, e]
    rfl
  · have e0 : N + k = s + 1 := by omega
    have ht : two = true := h2.mpr (by rw [← e0]; exact hk)
    have e1 : totA N s two k = [s] := by
      unfold totA
      rw [if_neg (by omega), if_pos (Or.inl (by omega))]
    have e2 : totA N s two (k + 1) = [s, s + 1] := by
      unfold totA
      rw [if_neg (by omega), if_neg (by rw [ht]; simp; omega)]
    rw [e1, e2, e0]
    rfl
theorem totA_no {b N s k : Int} {two : Bool} (h : IsTot b N s) (h2 : two = true ↔ Tot b N (s + 1)) (hk : ¬ Tot b N (N + k)) : totA N s two (k + 1) = totA N s two k := by
  have e : N + k ≠ s := fun z => hk (by rw [z]; exact h.tot)
  unfold totA
  by_cases c : k ≤ s - N
  · rw [if_pos c, if_pos (by omega)]
  · rw [if_neg c, if_neg (by omega)]
    by_cases d : k = s - N + 1
    · have d0 : N + k = s + 1 := by omega
      have ht : two = false := by
        cases q : two with
        | false => rfl
        | true => exact absurd (by rw [d0]; exact h2.mp q) hk
      rw [if_pos (Or.inr ht), if_pos (Or.inr ht)]
    · by_cases ht : two = false
      · rw [if_pos (Or.inr ht), if_pos (Or.inr ht)]
      · rw [if_neg (fun z => z.elim (by omega) ht), if_neg (fun z => z.elim (by omega) ht)]
theorem totA_end {b N s : Int} {j : Nat} {two : Bool} (hb : 2 ≤ b) (hN : 0 ≤ N) (h : IsTot b N s) (h2 : two = true ↔ Tot b N (s + 1)) (hj : ¬ b ^ j ≤ N + ((j : Int) + 1)) : totA N s two ((j : Int) + 1) = if two then [s, s + 1] else [s] := by
  have far : ∀ t, Tot b N t → t - N < (j : Int) + 1 := fun t ht => by
    obtain ⟨i, e, h3, h4⟩ := ht
    by_cases c : i < j
    · omega
    · exfalso
      obtain ⟨d, hd⟩ : ∃ d, i = j + d := ⟨i - j, by omega⟩
      have h5 := pow_add_le hb j d
      rw [← hd] at h5
      rcases h4 with h4 | h4
      · have e0 : j = 0 := by omega
        rw [e0] at hj h5
        have : N + 1 ≤ t := by omega
        have e1 : d = 0 := by omega
        rw [e1] at h5
        simp at hj h5
        omega
      · omega
  have f1 := far s h.tot
  unfold totA
  rw [if_neg (by omega)]
  cases ht : two with
  | false => simp
  | true =>
    have f2 := far _ (h2.mp ht)
    rw [if_neg (by simp; omega)]
    rfl
/-- figures grow no faster than numbers -/
theorem fig_lip {b x y f g : Int} (hb : 2 ≤ b) (h : x ≤ y) (hf : IsF b x f) (hg : IsF b y g) : g ≤ f + (y - x) := by
  obtain ⟨j, rfl, h1, h2⟩ := hf
  obtain ⟨d, hd⟩ : ∃ d : Nat, y = x + d := ⟨(y - x).toNat, by omega⟩
  have h3 := pow_add_le hb (j + 1) d
  have h4 := isF_upper (m := j + d) hb (show y < b ^ (j + d + 1) by rw [show j + d + 1 = j + 1 + d by omega]; omega) hg
  omega
/-- the least total of the next one stands right behind the last total -/
theorem tot_step {b N s : Int} {two : Bool} (hb : 2 ≤ b) (hN : 0 ≤ N) (h : IsTot b N s) (h2 : two = true ↔ Tot b N (s + 1)) : IsTot b (N + 1) (s + (if two then [s, s + 1] else [s]).length) := by
  have last : ∃ e : Int, s + (if two then [s, s + 1] else [s]).length = e + 1 ∧ Tot b N e ∧ ¬ Tot b N (e + 1) := by
    cases q : two with
    | false => exact ⟨s, by simp, h.tot, fun z => by rw [q] at h2; have := h2.mpr z; cases this⟩
    | true =>
      refine ⟨s + 1, by simp; omega, h2.mp q, fun z => ?_⟩
      have := tot_near hb hN h.tot z (by omega)
      omega
  obtain ⟨e, e0, e1, e2⟩ := last
  rw [e0]
  obtain ⟨f, hf⟩ := isF_ex hb (e + 1)
  have f1 := isF_le hb (show e ≤ e + 1 by omega) e1 hf
  have f2 := fig_lip hb (show e ≤ e + 1 by omega) e1 hf
  have f3 : f ≠ e + 1 - N := fun z => e2 (by show IsF b (e + 1) (e + 1 - N); rw [← z]; exact hf)
  refine ⟨?_, fun t ht => ?_⟩
  · show IsF b (e + 1) (e + 1 - (N + 1))
    have : f = e + 1 - (N + 1) := by omega
    rw [← this]
    exact hf
  · by_cases c : e + 1 ≤ t
    · exact c
    · have := fig_lip hb (show t ≤ e by omega) ht e1
      omega
/-- the integer ahead of the least total is one of the length ahead -/
theorem tot_ahead {b N s f : Int} (hb : 2 ≤ b) (h : IsTot b N s) (hf : IsF b (s - 1) f) : s - 1 - f = N - 1 := by
  have h1 := fig_lip hb (show s - 1 ≤ s by omega) hf h.tot
  have h2 := isF_le hb (show s - 1 ≤ s by omega) hf h.tot
  have h3 : f ≠ s - 1 - N := fun z => by
    have := h.least (s - 1) (by show IsF b (s - 1) (s - 1 - N); rw [← z]; exact hf)
    omega
  omega
/-- so many integers from one on -/
def irun (s : Int) (n : Nat) : List Int := (List.range n).map fun (i : Nat) => s + (i : Int)
theorem irun_len (s : Int) (n : Nat) : (irun s n).length = n := by
  unfold irun
  simp
theorem irun_app (s : Int) (n : Nat) (two : Bool) : irun s n ++ (if two then [s + n, s + n + 1] else [s + n]) = irun s (n + (if two then [s, s + 1] else [s]).length) := by
  unfold irun
  cases two with
  | false => simp [List.range_succ]
  | true =>
    simp [List.range_succ]
    omega
/-- a total by its power -/
theorem tot_iff {b N : Int} {j : Nat} (hN : 0 ≤ N) (hj : b ^ j ≤ N + ((j : Int) + 1)) : Tot b N (N + ((j : Int) + 1)) ↔ N + ((j : Int) + 1) < b ^ (j + 1) := by
  have e : N + ((j : Int) + 1) - N = (j : Int) + 1 := by omega
  constructor
  · rintro ⟨i, e1, h1, _⟩
    have : i = j := by omega
    rw [this] at h1
    exact h1
  · intro h
    exact ⟨j, e, h, Or.inr hj⟩
end Sz
namespace Sz
/-! ### what wraps make of lengths -/
open Classical in
/-- how many figures -/
noncomputable def figF (b n : Int) : Int := if h : 2 ≤ b then choose (isF_ex h n) else 0
theorem figF_is {b n : Int} (h : 2 ≤ b) : IsF b n (figF b n) := by
  unfold figF
  rw [dif_pos h]
  exact Classical.choose_spec (isF_ex h n)
theorem figF_eq {b n k : Int} (hb : 2 ≤ b) (h : IsF b n k) : k = figF b n := isF_eq hb h (figF_is hb)
theorem figF_pos {b n : Int} (hb : 2 ≤ b) : 1 ≤ figF b n := isF_pos (figF_is hb)
theorem figF_mono {b n m : Int} (hb : 2 ≤ b) (h : n ≤ m) : figF b n ≤ figF b m := isF_le hb h (figF_is hb) (figF_is hb)
theorem figF_lip {b n m : Int} (hb : 2 ≤ b) (h : n ≤ m) : figF b m ≤ figF b n + (m - n) := fig_lip hb h (figF_is hb) (figF_is hb)
open Classical in
/-- the least total -/
noncomputable def totF (b n : Int) : Int := if h : 2 ≤ b ∧ 0 ≤ n then choose (isTot_ex h.1 h.2) else 0
theorem totF_is {b n : Int} (h : 2 ≤ b) (h2 : 0 ≤ n) : IsTot b n (totF b n) := by
  unfold totF
  rw [dif_pos ⟨h, h2⟩]
  exact Classical.choose_spec (isTot_ex h h2)
theorem totF_eq {b n k : Int} (hb : 2 ≤ b) (hn : 0 ≤ n) (h : IsTot b n k) : k = totF b n := isTot_eq h (totF_is hb hn)
/-- how many parts of a size a length begins -/
def beg (n m : Int) : Int := (n + m - 1) / m
inductive Wr where
  | plus (c : Int)
  | told (c : Int)
  | whole (c : Int)
  | pieces (m c : Int)
  | cut (m c : Int)
  | coded (m c : Int)
  | filled (m : Int)
def Wr.kind : Wr → PySem.Str
  | .plus _ => "plus"
  | .told _ => "told"
  | .whole _ => "whole"
  | .pieces _ _ => "pieces"
  | .cut _ _ => "cut"
  | .coded _ _ => "coded"
  | .filled _ => "filled"
def Wr.nums : Wr → List Int
  | .plus c => [c]
  | .told c => [c]
  | .whole c => [c]
  | .pieces m c => [m, c]
  | .cut m c => [m, c]
  | .coded m c => [m, c]
  | .filled m => [m]
def Wr.rng : Wr → List (Int × Int)
  | .plus _ => [(0, 1000)]
  | .told _ => [(0, 1000)]
  | .whole _ => [(0, 1000)]
  | .pieces _ _ => [(1, 60), (0, 60)]
  | .cut _ _ => [(1, 60), (0, 60)]
  | .coded _ _ => [(1, 60), (1, 120)]
  | .filled _ => [(1, 60)]
def Wr.ok : Wr → Prop
  | .plus c => 0 ≤ c ∧ c ≤ 1000
  | .told c => 0 ≤ c ∧ c ≤ 1000
  | .whole c => 0 ≤ c ∧ c ≤ 1000
  | .pieces m c => 1 ≤ m ∧ m ≤ 60 ∧ 0 ≤ c ∧ c ≤ 60
  | .cut m c => 1 ≤ m ∧ m ≤ 60 ∧ 0 ≤ c ∧ c ≤ 60
  | .coded m c => 1 ≤ m ∧ m ≤ 60 ∧ m ≤ c ∧ c ≤ 120
  | .filled m => 1 ≤ m ∧ m ≤ 60
/-- the size that a wrap makes of a length -/
noncomputable def Wr.gr (b : Int) : Wr → Int → Int
  | .plus c, n => n + c
  | .told c, n => n + c + figF b n
  | .whole c, n => totF b (n + c)
  | .pieces m c, n => n / m * (m + c + figF b m) + (if 0 < n % m then n % m + c + figF b (n % m) else 0) + c + 1
  | .cut m c, n => n + beg n m * c
  | .coded m c, n => beg n m * c
  | .filled m, n => beg n m * m
theorem nums_len {w : Wr} : w.nums.length = w.rng.length := by cases w <;> rfl
theorem nums_small {w : Wr} (h : w.ok) : ∀ x ∈ w.nums, 0 ≤ x ∧ x ≤ 1000 := by
  cases w <;> simp only [Wr.ok] at h <;> simp [Wr.nums] <;> omega
theorem beg_le {n m : Int} (hn : 0 ≤ n) (hm : 1 ≤ m) : beg n m ≤ n ∧ 0 ≤ beg n m := by
  unfold beg
  constructor
  · refine Int.le_of_lt_add_one (Int.ediv_lt_of_lt_mul (by omega) ?_)
    have := Int.mul_le_mul_of_nonneg_left hm (show 0 ≤ n by omega)
    have e : (n + 1) * m = n * m + m := by rw [Int.add_mul, Int.one_mul]
    omega
  · exact Int.ediv_nonneg (by omega) (by omega)
theorem fig_small {b m : Int} (hb : 2 ≤ b) (hm : m ≤ 60) : figF b m ≤ 6 := by
  have h : m < b ^ (5 + 1) := by
    have h1 := pow_pos (show 1 ≤ b by omega) 5
    have h2 : (64 : Int) ≤ b ^ 6 := by
      have : ∀ j : Nat, (2 : Int) ^ j ≤ b ^ j := fun j => by
        induction j with
        | zero => simp
        | succ j ih =>
          rw [Int.pow_succ, Int.pow_succ]
          exact Int.mul_le_mul ih hb (by decide) (by have := pow_pos (show 1 ≤ b by omega) j; omega)
      have := this 6
      omega
    show m < b ^ 6
    omega
  have := isF_upper (m := 5) hb h (figF_is hb)
  omega
theorem figF_le {b n : Int} (hb : 2 ≤ b) (hn : 0 ≤ n) : figF b n ≤ n + 1 := by
  have h1 := figF_lip (b := b) hb hn
  have h2 : figF b 0 ≤ 1 := by
    have := isF_upper (m := 0) hb (show (0 : Int) < b ^ (0 + 1) by rw [pow_one]; omega) (figF_is hb)
    omega
  omega
/-- a size is no less than 0, and not too great -/
theorem gr_le {b : Int} {w : Wr} (hb : 2 ≤ b) (h : w.ok) {n : Int} (hn : 0 ≤ n) : 0 ≤ w.gr b n ∧ w.gr b n ≤ 128 * n + 4096 := by
  cases w with
  | plus c =>
    simp only [Wr.ok] at h
    simp only [Wr.gr]
    omega
  | told c =>
    simp only [Wr.ok] at h
    simp only [Wr.gr]
    have h1 := figF_le (b := b) hb hn
    have h2 := figF_pos (b := b) (n := n) hb
    omega
  | whole c =>
    simp only [Wr.ok] at h
    simp only [Wr.gr]
    have t := totF_is hb (show 0 ≤ n + c by omega)
    have h1 := isTot_pos t.tot
    have f := figF_is (b := b) (n := n + c) hb
    have g := figF_is (b := b) (n := n + c + figF b (n + c)) hb
    have fl := figF_le (b := b) (n := n + c) hb (by omega)
    rcases fig_grow hb (show 0 ≤ n + c by omega) f g with e | e
    · have := t.least _ (isTot_first hb f (by rw [e] at g; exact g)).tot
      omega
    · have := t.least _ (isTot_second hb (show 0 ≤ n + c by omega) f (by rw [← e]; exact g)).tot
      omega
  | pieces m c =>
    simp only [Wr.ok] at h
    simp only [Wr.gr]
    have f1 := fig_small (b := b) (m := m) hb h.2.1
    have f2 := figF_pos (b := b) (n := m) hb
    have q0 := Int.ediv_nonneg hn (show 0 ≤ m by omega)
    have q1 : n / m ≤ n := Int.ediv_le_self _ hn
    have r0 := Int.emod_nonneg n (show m ≠ 0 by omega)
    have r1 := Int.emod_lt_of_pos n (show 0 < m by omega)
    have f3 := fig_small (b := b) (m := n % m) hb (by omega)
    have f4 := figF_pos (b := b) (n := n % m) hb
    have p0 := Int.mul_nonneg q0 (show 0 ≤ m + c + figF b m by omega)
    have p1 := Int.mul_le_mul q1 (show m + c + figF b m ≤ 126 by omega) (by omega) hn
    split <;> omega
  | cut m c =>
    simp only [Wr.ok] at h
    simp only [Wr.gr]
    have q := beg_le hn h.1
    have p0 := Int.mul_nonneg q.2 (show 0 ≤ c by omega)
    have p1 := Int.mul_le_mul q.1 (show c ≤ 60 by omega) (by omega) hn
    omega
  | coded m c =>
    simp only [Wr.ok] at h
    simp only [Wr.gr]
    have q := beg_le hn h.1
    have p0 := Int.mul_nonneg q.2 (show 0 ≤ c by omega)
    have p1 := Int.mul_le_mul q.1 (show c ≤ 120 by omega) (by omega) hn
    omega
  | filled m =>
    simp only [Wr.ok] at h
    simp only [Wr.gr]
    have q := beg_le hn h.1
    have p0 := Int.mul_nonneg q.2 (show 0 ≤ m by omega)
    have p1 := Int.mul_le_mul q.1 (show m ≤ 60 by omega) (by omega) hn
    omega
end Sz
/-! a hook that looks at whatever one wants besides, and the table of ranges -/
namespace Sz
open PySem PySem.Spec PyProof.Rows L2
abbrev AlX : Type := Bool × He.AlT
/-- what an object names, its class's line left out: what the module names is there already -/
def refsX (o : Obj) : List Addr := match o.data with
  | .seq its _ => its.toList.flatMap He.refV
  | .dict es _ => es.toList.flatMap fun e => He.refV e.val
  | .func fd => He.refV fd.code ++ (He.refV fd.defaults ++ (He.refV fd.kwdefaults ++ fd.closure.map (·.2)))
  | .cls cd => [cd.ns]
  | .fields vs => vs.toList.flatMap He.refV
  | .cell (some v) => He.refV v
  | _ => []
def layerX (g : Addr → Option Obj) (as : List Addr) : List Addr := as.flatMap fun a => match g a with
  | some o => refsX o
  | none => []
/-- layer by layer, nothing looked at twice -/
def layersX (g : Addr → Option Obj) : Nat → List Addr → List Addr
  | 0, l => l
  | n + 1, l => l ++ layersX g n (layerX g l)
def asX (g : Addr → Option Obj) (n : Nat) : List Addr := layersX g n [mainGlobals]
def obsX (fb : PySem.W.Frag → Bool) (fa : List He.Fa) (fn : List He.DefD) (ts : List He.Tab) (K : PySem.W.Frag) : AlX := (fb K, He.obsT fa fn ts K)
def valX (fn : List He.DefD) (ts : List He.Tab) (w : World) : AlX := (true, He.valT fn ts w)
def obsXG (n : Nat) (fb : PySem.W.Frag → Bool) (fa : List He.Fa) (fn : List He.DefD) (ts : List He.Tab) (g : Addr → Option Obj) : AlX := obsX fb fa fn ts (He.frG g (asX g n))
def SaysX (fb : PySem.W.Frag → Bool) (fa : List He.Fa) (fn : List He.DefD) (ts : List He.Tab) (w : World) (K : PySem.W.Frag) : Prop := obsX fb fa fn ts K = valX fn ts w
def hookX (n : Nat) (fb : PySem.W.Frag → Bool) (fa : List He.Fa) (fn : List He.DefD) (ts : List He.Tab) : PySem.W.Hook where
  α := AlX
  obs := fun s => obsXG n fb fa fn ts s.heap.get?
  val := fun w => valX fn ts w
  says := fun w h => ∃ K : PySem.W.Frag, K.In h ∧ SaysX fb fa fn ts w K
  of := fun _ _ e => ⟨_, He.frG_in, e⟩
  keeps := fun _ _ _ ⟨K, hK, c⟩ k => ⟨K, PySem.W.Frag.In.keeps hK k, c⟩
theorem obsXG_eq {n : Nat} {fb : PySem.W.Frag → Bool} {fa : List He.Fa} {fn : List He.DefD} {ts : List He.Tab} {g : Addr → Option Obj} {s : Shared} (h : ∀ a, g a = s.heap.get? a) : obsXG n fb fa fn ts g = (hookX n fb fa fn ts).obs s := by
  rw [show g = s.heap.get? from funext h]
  rfl
section
variable {fb : PySem.W.Frag → Bool} {fa : List He.Fa} {fn : List He.DefD} {ts : List He.Tab} {w : World} {K : PySem.W.Frag}
theorem SaysX.t (c : SaysX fb fa fn ts w K) : He.SaysT fa fn ts w K := congrArg (fun z : AlX => z.2) c
theorem SaysX.b (c : SaysX fb fa fn ts w K) : fb K = true := congrArg (fun z : AlX => z.1) c
end
/-! ### the table of ranges: tuples of pairs -/
def pairB (K : PySem.W.Frag) (u : Value) (q : Int × Int) : Bool := match u with
  | .ref a => (match K.lookup a with
    | some ⟨.type c, _, .seq its _, _⟩ => decide (c = "tuple") && (decide (its.size ≤ sizeLine) && He.relAll [.int q.1, .int q.2] its.toList)
    | _ => false)
  | _ => false
def pairsB (K : PySem.W.Frag) : List Value → List (Int × Int) → Bool
  | [], [] => true
  | u :: us, q :: qs => pairB K u q && pairsB K us qs
  | _, _ => false
def rngB (K : PySem.W.Frag) (D : Addr) (kd : Str) (qs : List (Int × Int)) : Bool := match PySem.W.nsIn K D kd with
  | some (some (.ref b)) => (match K.lookup b with
    | some ⟨.type c, _, .seq its _, _⟩ => decide (c = "tuple") && (decide (its.size ≤ sizeLine) && pairsB K its.toList qs)
    | _ => false)
  | _ => false
inductive Pairs (K : PySem.W.Frag) : List V → List (Int × Int) → Prop where
  | nil : Pairs K [] []
  | cons {a : Addr} {xs : List V} {q : Int × Int} {qs : List (Int × Int)} (h : ∀ H, SqT K H a [.int q.1, .int q.2]) (r : Pairs K xs qs) : Pairs K (.ref a :: xs) (q :: qs)
theorem Pairs.len {K : PySem.W.Frag} {xs : List V} {qs : List (Int × Int)} (h : Pairs K xs qs) : xs.length = qs.length := by
  induction h with
  | nil => rfl
  | cons _ _ ih => exact congrArg (· + 1) ih
theorem Pairs.get {K : PySem.W.Frag} {xs : List V} {qs : List (Int × Int)} (h : Pairs K xs qs) : ∀ {i : Nat} {x : V}, xs[i]? = some x → ∃ (a : Addr) (q : Int × Int), x = .ref a ∧ qs[i]? = some q ∧ ∀ H, SqT K H a [.int q.1, .int q.2] := by
  induction h with
  | nil =>
    intro i x e
    simp at e
  | cons h _ ih =>
    intro i x e
    cases i with
    | zero =>
      simp at e
      exact ⟨_, _, e.symm, rfl, h⟩
    | succ i => exact ih (by simpa using e)
theorem pairB_ok {K : PySem.W.Frag} {u : Value} {q : Int × Int} (h : pairB K u q = true) : ∃ a, u = .ref a ∧ ∀ H, SqT K H a [.int q.1, .int q.2] := by
  cases u with
  | ref a =>
    refine ⟨a, rfl, fun H => ?_⟩
    have h : (match K.lookup a with
      | some ⟨.type c, _, .seq its _, _⟩ => decide (c = "tuple") && (decide (its.size ≤ sizeLine) && He.relAll [.int q.1, .int q.2] its.toList)
      | _ => false) = true := h
    cases e : K.lookup a with
    | none =>
      rw [e] at h
      cases h
    | some o =>
      obtain ⟨oc, od, dt, osl⟩ := o
      rw [e] at h
      cases oc with
      | type c =>
        cases dt with
        | seq its n =>
          obtain ⟨h1, h2⟩ := He.ba h
          obtain ⟨h3, h4⟩ := He.ba h2
          exact .inr ⟨_, its, n, e, congrArg Value.type (of_decide_eq_true h1), rfl, of_decide_eq_true h3, He.relAll_ok h4⟩
        | _ => cases h
      | _ => cases dt <;> cases h
  | _ => cases h
theorem pairsB_ok {K : PySem.W.Frag} : ∀ {us : List Value} {qs : List (Int × Int)}, pairsB K us qs = true → ∃ xs, Vals xs us ∧ Pairs K xs qs
  | [], [], _ => ⟨[], .nil, .nil⟩
  | [], _ :: _, h => by cases h
  | _ :: _, [], h => by cases h
  | u :: us, q :: qs, h => by
    obtain ⟨h1, h2⟩ := He.ba (show (pairB K u q && pairsB K us qs) = true from h)
    obtain ⟨a, rfl, ha⟩ := pairB_ok h1
    obtain ⟨xs, r, p⟩ := pairsB_ok h2
    exact ⟨.ref a :: xs, .cons rfl r, .cons ha p⟩
/-- the kind kd has these ranges -/
def Rng (K : PySem.W.Frag) (D : Addr) (kd : Str) (qs : List (Int × Int)) : Prop := ∃ b xs, PySem.W.nsIn K D kd = some (some (.ref b)) ∧ (∀ H, SqT K H b xs) ∧ Pairs K xs qs
theorem rngB_ok {K : PySem.W.Frag} {D : Addr} {kd : Str} {qs : List (Int × Int)} (h : rngB K D kd qs = true) : Rng K D kd qs := by
  unfold rngB at h
  cases e : PySem.W.nsIn K D kd with
  | none =>
    rw [e] at h
    cases h
  | some r =>
    rw [e] at h
    cases r with
    | none => cases h
    | some u =>
      cases u with
      | ref b =>
        have h : (match K.lookup b with
          | some ⟨.type c, _, .seq its _, _⟩ => decide (c = "tuple") && (decide (its.size ≤ sizeLine) && pairsB K its.toList qs)
          | _ => false) = true := h
        cases e2 : K.lookup b with
        | none =>
          rw [e2] at h
          cases h
        | some o =>
          obtain ⟨oc, od, dt, osl⟩ := o
          rw [e2] at h
          cases oc with
          | type c =>
            cases dt with
            | seq its n =>
              obtain ⟨h1, h2⟩ := He.ba h
              obtain ⟨h3, h4⟩ := He.ba h2
              obtain ⟨xs, r, p⟩ := pairsB_ok h4
              exact ⟨b, xs, e, fun H => .inr ⟨_, its, n, e2, congrArg Value.type (of_decide_eq_true h1), rfl, of_decide_eq_true h3, r⟩, p⟩
            | _ => cases h
          | _ => cases dt <;> cases h
      | _ => cases h
/-- RANGES[kind] -/
theorem ix_kd {X : Cx} {d : Addr} {es : Array DictEntry} {n : Nat} (D : KDict X.K X.w d es n) : True := trivial
end Sz
/-! own classes: methods and makers by their promises -/
namespace Sz
open PySem PySem.Spec PyProof.Rows L2
/-- a method's def by its class -/
def DefAtM (K : PySem.W.Frag) (C m q : Str) (st : Stmt) : Prop := ∃ fd, FunD K m q (defArgs st) (defBody st) (defScope st) [] [] (He.ma K (He.ga K C) m) fd
/-- the method m of C keeps the promise sp (the receiver stands first) -/
structure PromM (P : Program) (w : World) (K : PySem.W.Frag) (mg : Str → Option Value) (base : Heap) (CX : CXT) (k : Nat) (C m : Str) (ps : List Str) (sp : Sp) : Prop where
  cl : Cls K (He.ga K C)
  me : Meth K (He.ga K C) m (He.ma K (He.ga K C) m)
  ex : ∃ fd, FnOk P w K mg base CX k (He.ma K (He.ga K C) m) fd ps sp ∧ Binds K fd ps []
/-- C(..) keeps the promise sp: what is told of the values handed in -/
structure PromC (P : Program) (w : World) (K : PySem.W.Frag) (mg : Str → Option Value) (base : Heap) (CX : CXT) (k : Nat) (C : Str) (sp : Sp) : Prop where
  make : Mk K (He.ga K C) (He.ma K (He.ga K C) "__init__")
  mg_ : mg C = some (.ref (He.ga K C))
  ex : ∃ sp0, FnR P w K mg base CX k (He.ma K (He.ga K C) "__init__") sp0 ∧ ∀ vs H Q E, sp vs H Q E → ∀ x dx, H x = none → H dx = none → dx ≠ x →
    sp0 (V.ref x :: vs) (upd (upd H dx (.own x)) x (.ins (He.ga K C) dx [])) (fun v H2 => v = .non ∧ Q (.ref x) H2) E
section
variable {P : Program} {w : World} {K : PySem.W.Frag} {mg : Str → Option Value} {base : Heap}
theorem PromM.of {C m q : Str} {st : Stmt} {ps N : List Str} {sp : Sp} {k : Nat} (cl : Cls K (He.ga K C)) (me : Meth K (He.ga K C) m (He.ma K (He.ga K C) m)) (D : DefAtM K C m q st) (S : FnScope N ps (defScope st)) (len : ∀ vs H Q E, sp vs H Q E → vs.length = ps.length)
    (hb : ∀ (kV doc pm : Value) (an : Option Addr) (cdv ct : Value) (us : List Value), us.length = ps.length → bindArgs (PySem.W.fnOf m q (defArgs st) (defBody st) (defScope st) .none kV doc pm an cdv ct) ⟨us, []⟩ = pure (ps.zip us))
    (hbody : ∀ (f : Addr) (cdv : Value) (A : Around) (outer : List Env) (s : Shared) (H : Hp) (vs : List V) (Q : VK) (E : XK), Room k (A.deeper (envOfC q (defScope st) s.heap.objs.size f cdv)) → sp vs H Q E →
      ∃ t, PSs (cxOf CX0 P w K mg base N q (defScope st) f cdv A outer s H E).nox (defBody st) t ∧ t { nx := fun _ H' => Q .non H', rt := Q } (start N vs) H) :
    PromM P w K mg base CX0 (k + 1) C m ps sp := by
  obtain ⟨fd, F⟩ := D
  refine ⟨cl, me, fd, F.ok S len (fun cdv A outer s H vs Q E hr hs => ?_), F.bindsN hb⟩
  obtain ⟨t, h1, h2⟩ := hbody _ cdv A outer s H vs Q E hr hs
  exact ⟨t, h1.nox, h2⟩
/-- a class whose __init__ takes (self, one, *rest) -/
theorem PromC.star {C q p0 p1 pv : Str} {st : Stmt} {N : List Str} {sp sp0 : Sp} {k : Nat} (mk : Mk K (He.ga K C) (He.ma K (He.ga K C) "__init__")) (hm : mg C = some (.ref (He.ga K C))) (D : DefAtM K C "__init__" q st) (S : FnScope N [p0, p1, pv] (defScope st))
    (h0 : ∀ (kV doc pm : Value) (an : Option Addr) (cdv ct a b : Value), bindArgs (PySem.W.fnOf "__init__" q (defArgs st) (defBody st) (defScope st) .none kV doc pm an cdv ct) ⟨[a, b], []⟩ = (newTuple [] >>= fun t => pure [(p0, a), (p1, b), (pv, t)]))
    (h1 : ∀ (kV doc pm : Value) (an : Option Addr) (cdv ct a b r : Value) (rs : List Value), bindArgs (PySem.W.fnOf "__init__" q (defArgs st) (defBody st) (defScope st) .none kV doc pm an cdv ct) ⟨a :: b :: r :: rs, []⟩ = (newTuple (r :: rs) >>= fun t => pure [(p0, a), (p1, b), (pv, t)]))
    (hbody : ∀ (f : Addr) (cdv : Value) (A : Around) (outer : List Env) (s : Shared) (H : Hp) (vs : List V) (Q : VK) (E : XK), Room k (A.deeper (envOfC q (defScope st) s.heap.objs.size f cdv)) → sp0 vs H Q E →
      ∃ t, PSs (cxOf CX0 P w K mg base N q (defScope st) f cdv A outer s H E).nox (defBody st) t ∧ t { nx := fun _ H' => Q .non H', rt := Q } (start N vs) H)
    (hsp : ∀ vs H Q E, sp vs H Q E → ∃ v rest, vs = v :: rest ∧ rest.length ≤ sizeLine ∧ ∀ x dx p, H x = none → H dx = none → dx ≠ x → p ≠ x → p ≠ dx → H p = none →
      sp0 [.ref x, v, .ref p] (upd (upd (upd H dx (.own x)) x (.ins (He.ga K C) dx [])) p (.tup rest)) (fun u H2 => u = .non ∧ Q (.ref x) H2) E) :
    PromC P w K mg base CX0 (k + 1) C sp := by
  obtain ⟨fd, F⟩ := D
  obtain ⟨oc, od, dV, kV, doc, pm, an, cdv, ct, osl, rfl, lk, hcd, hD, hK⟩ := F.ex
  rcases hD with ⟨_, rfl⟩ | ⟨e, _⟩
  · refine ⟨mk, hm, _, StX.fn_star (ps := [p0, p1]) (pv := pv) (sp := sp0) lk hcd S StX.cxUp_none (StX.bind_star2 (B := fun us => bindArgs _ ⟨us, []⟩) (fun a b => h0 kV doc pm an cdv ct a b) fun a b r rs => h1 kV doc pm an cdv ct a b r rs) (fun A outer s H vs Q E hr hs => ?_), fun vs H Q E hs x dx hx hdx ne => ?_⟩
    · obtain ⟨t, h1, h2⟩ := hbody _ cdv A outer s H vs Q E hr hs
      exact ⟨t, h1.nox, h2⟩
    · obtain ⟨v, rest, rfl, hl, hq⟩ := hsp vs H Q E hs
      refine ⟨[.ref x, v], rest, rfl, rfl, hl, fun p hp => ?_⟩
      have nx : p ≠ x := fun z => by rw [z, upd_same] at hp; cases hp
      rw [upd_ne nx] at hp
      have nd : p ≠ dx := fun z => by rw [z, upd_same] at hp; cases hp
      rw [upd_ne nd] at hp
      exact hq x dx p hx hdx ne nx nd hp
  · exact absurd rfl e
end
section
variable {X : Cx} {CX : CXT} {k : Nat} {x C m : Str} {ps : List Str} {sp : Sp} {E : XK} {e o : Expr} {es : List Expr} {ta : TE} {t : TA} {p pos apos : Pos}
theorem pe_methP {pl : Sem Bool} (G : PromM X.prog X.w X.K X.mg X.base CX k C m ps sp) (hr : Room k X.A) (hx : Passes CX X E) (he : PE X o ta) (ha : PA X (e :: es) t)
    (hst : starEach (e :: es) X.env = (false, eval e X.env) :: starEach es X.env := by rfl) (hpl : (backTo pos (starEach es X.env)).any (·.1) = false := by rfl)
    (ht : eval (.Call (.Attribute o m apos) (e :: es) [] pos) X.env = (do
      let ov ← eval o X.env
      standAt apos.atName
      let (f, first) ← holding [ov] (getMethod ov m pl)
      callWith pos f first (backTo pos (starEach (e :: es) X.env)) (backToKw pos (keywordEach [] X.env))) := by rfl) : PE X (.Call (.Attribute o m apos) (e :: es) [] pos) (tMeth (He.ga X.K C) m sp [] E ta t) := by
  obtain ⟨fd, F, b⟩ := G.ex
  exact pe_meth he G.cl G.me F hr b .nil hx ha hst hpl ht
theorem pe_methP0 {pl : Sem Bool} (G : PromM X.prog X.w X.K X.mg X.base CX k C m ps sp) (hr : Room k X.A) (hx : Passes CX X E) (he : PE X o ta)
    (ht : eval (.Call (.Attribute o m apos) [] [] pos) X.env = (do
      let ov ← eval o X.env
      standAt apos.atName
      let (f, first) ← holding [ov] (getMethod ov m pl)
      callWith pos f first (backTo pos (starEach [] X.env)) (backToKw pos (keywordEach [] X.env))) := by rfl) : PE X (.Call (.Attribute o m apos) [] [] pos) (tMeth (He.ga X.K C) m sp [] E ta tNil) := by
  obtain ⟨fd, F, b⟩ := G.ex
  exact pe_meth0 he G.cl G.me F hr b .nil hx ht
/-- C(e, ..) by what is promised of it -/
def tNew (sp : Sp) (E : XK) (t : TA) : TE := fun σ H Q => t σ H fun vs H1 => sp vs H1 Q E
theorem pe_newP (G : PromC X.prog X.w X.K X.mg X.base CX k x sp) (hr : Room (k + 1) X.A) (hg : Gl X x) (hx : Passes CX X E) (ha : PA X (e :: es) t)
    (hdb : (x == ("__debug__" : Str)) = false := by decide) (he : starEach (e :: es) X.env = (false, eval e X.env) :: starEach es X.env := by rfl) (hpl : (backTo pos (starEach es X.env)).any (·.1) = false := by rfl) :
    PE X (.Call (.Name x p) (e :: es) [] pos) (tNew sp E t) := by
  obtain ⟨sp0, F, hs⟩ := G.ex
  refine ⟨fun pins s σ H Q I h => wpAny_Call_Name_kw (ld_glob I hg G.mg_ (PySem.W.callWith_K (h₀ := X.base) I.ok.mod.kin G.make.kp (thn (ha.run pos pins s σ H _ I h) fun us s1 ⟨vs, H1, I1, r, q⟩ => ⟨I1.kIn, ?_⟩) he hpl) hdb)⟩
  exact StX.run_makeR G.make F hr hx I1 r fun a dx h1 h2 h3 => hs vs H1 Q E q a dx h1 h2 h3
/-- C(e, .., *y) -/
theorem pe_newS (G : PromC X.prog X.w X.K X.mg X.base CX k x sp) (hr : Room (k + 1) X.A) (hg : Gl X x) (hx : Passes CX X E) (ha : PA X (e :: es) t)
    (hdb : (x == ("__debug__" : Str)) = false := by decide) (he : starEach (e :: es) X.env = (false, eval e X.env) :: starEach es X.env := by rfl) (hst : (backTo pos (starEach es X.env)).any (·.1) = true := by rfl) :
    PE X (.Call (.Name x p) (e :: es) [] pos) (tNew sp E t) := by
  obtain ⟨sp0, F, hs⟩ := G.ex
  refine ⟨fun pins s σ H Q I h => wpAny_Call_Name_kw (ld_glob I hg G.mg_ (PySem.W.callWith_S2 (h₀ := X.base) I.ok.mod.kin G.make.kp (thn (ha.run pos pins s σ H _ I h) fun us s1 ⟨vs, H1, I1, r, q⟩ => ⟨I1.kIn, ?_⟩) he hst) hdb)⟩
  exact StX.run_makeR G.make F hr hx I1 r fun a dx h1 h2 h3 => hs vs H1 Q E q a dx h1 h2 h3
end
/-- s[i], s a list or a tuple -/
theorem ix_any {X : Cx} : IxR X (fun x y H Q => rIxL X.K x y H Q ∨ rIxT X.K x y H Q) := by
  intro value slice pins s σ H x y v u Q I rx ry h hs
  rcases h with h | h
  · exact ix_list value slice pins s σ H x y v u Q I rx ry h hs
  · exact ix_tup value slice pins s σ H x y v u Q I rx ry h hs
theorem pe_gstr {X : Cx} {x : Str} {pos : Pos} {v : Str} (h : ∃ u, X.mg x = some (.str v u)) (hg : Gl X x := by rfl) (hd : (x == ("__debug__" : Str)) = false := by decide) : PE X (.Name x pos) (tC (.str v)) := by
  obtain ⟨u, hm⟩ := h
  exact pe_glob hg hm ⟨_, rfl⟩ hd
/-- what isinstance asks of an own class -/
structure IsiK (K : PySem.W.Frag) (C : Addr) : Prop where
  cl : Cls K C
  ha : PySem.W.findIn K (.ref C) "__class__" = some (some (.builtin "object.__class__"))
  hn : PySem.W.specialIn K (.builtin "object.__class__") "__get__" = some (some (.builtin "getset_descriptor.__get__"))
  htk : PySem.W.takesIn K (.builtin "object.__class__") = some true
  hm : PySem.W.mroIn K C (.type "object") = some true
def isiB (K : PySem.W.Frag) (C : Addr) : Bool := He.eqO (PySem.W.findIn K (.ref C) "__class__") (some (some (.builtin "object.__class__"))) && (He.eqO (PySem.W.specialIn K (.builtin "object.__class__") "__get__") (some (some (.builtin "getset_descriptor.__get__"))) &&
  (decide (PySem.W.takesIn K (.builtin "object.__class__") = some true) && decide (PySem.W.mroIn K C (.type "object") = some true)))
theorem isiB_ok {K : PySem.W.Frag} {C : Addr} (cl : Cls K C) (h : isiB K C = true) : IsiK K C := by
  obtain ⟨h1, h⟩ := He.ba h
  obtain ⟨h2, h⟩ := He.ba h
  obtain ⟨h3, h4⟩ := He.ba h
  exact ⟨cl, He.eqO_ok h1, He.eqO_ok h2, of_decide_eq_true h3, of_decide_eq_true h4⟩
theorem IsiK.ty {K : PySem.W.Frag} {C : Addr} (i : IsiK K C) {H : Hp} {a dx : Addr} {fs : List (Str × V)} (h : H a = some (.ins C dx fs)) : TyX K H (.ref a) (.ref C) := .base (.ins h i.cl i.ha i.hn i.htk i.hm)
theorem kit_self {K : PySem.W.Frag} {t : Value} : PySem.W.kitOne K t t = some true := by
  unfold PySem.W.kitOne
  rw [if_pos (by simp)]
end Sz
/-! enumerate over a tuple (the hand layer has it for lists): by what the tuple's iterator draws -/
namespace Sz
open PySem PySem.Spec PyProof.Rows L2
/-- enumerate(v) where iter(v) begins an object o -/
theorem meets_enum1 {v : Value} {o : Obj} {Hh : Heap → Prop} (B : Begins v o Hh) : Meets (Builtin.«enumerate.__new__» ⟨[.type "enumerate", v], []⟩) (fun _ R s => Hh s.heap ∧ R (.ok (.ret (.ref (s.heap.push o).objs.size)))
    { s with heap := (s.heap.push o).push { cls := .type "enumerate", data := .fields #[.none, .bool false, .ref s.heap.objs.size, rawInt 0, .none, .none] } }) := .of_wp fun prog w A R s h => by
  obtain ⟨hp, g, d, tk, os⟩ := s
  have hsub := sub_enumerate
  have it1 : ∀ {A' : Around} {Ex : Value → Shared → Prop} {Q : Value → Shared → Prop}, Q (.ref hp.objs.size) ⟨hp.push o, g, d, tk, os⟩ → wpAny (model prog w) A' (pyIter v) Q Ex ⟨hp, g, d, tk, os⟩ := fun q => B.iter prog w _ _ ⟨hp, g, d, tk, os⟩ _ h.1 q
  wp_walk using it1
  refine wpAny_stack_any (fun st => wpAny_pure ?_)
  split
  · rename_i c _ _ _ _ _
    cases (c == Value.type "enumerate") <;> (wp_walk using it1; exact ⟨_, rfl, h.2⟩)
  · wp_walk using it1
    exact ⟨_, rfl, h.2⟩
theorem call_enum1 {prog : Program} {w : World} {A : Around} {Ex : Value → Shared → Prop} {s : Shared} {v : Value} {o : Obj} {Hh : Heap → Prop} {Q : Value → Shared → Prop} (B : Begins v o Hh) (h1 : Hh s.heap)
    (k : ∀ h', IsEnum h' (s.heap.objs.size + 1) s.heap.objs.size 0 .none → h'.get? s.heap.objs.size = some o → (∀ b u, s.heap.get? b = some u → h'.get? b = some u) → Q (.ref (s.heap.objs.size + 1)) { s with heap := h' }) :
    wpAny (model prog w) A (call (.type "enumerate") [v]) Q Ex s := by
  refine callType_new F.called_enumerate (by decide) (F.typeCall_enumerate_1 _) (F.newCall_enumerate_1 _) (fun obj => F.args_object_init_2 obj _) F.entry_enumerate_new (meets_enum1 B) ⟨h1, ?_⟩
  have z : (s.heap.push o).objs.size = s.heap.objs.size + 1 := Heap.size_push ..
  have e := Heap.get?_push_size (s.heap.push o) (o := { cls := .type "enumerate", data := .fields #[.none, .bool false, .ref s.heap.objs.size, rawInt 0, .none, .none] }) rfl
  rw [z] at e
  show _ ∧ _
  rw [z]
  exact ⟨⟨_, e, rfl⟩, k _ e (Heap.get?_push_of_some _ (Heap.get?_push_size _ B.free)) fun b u x => Heap.get?_push_of_some _ (Heap.get?_push_of_some _ x)⟩

/-- the tuple at a, each item in a new pair -/
def IteT (K : PySem.W.Frag) (a : Addr) : It where
  go := fun i H => ∃ (xs : List V) (x : V), SqT K H a xs ∧ xs[i]? = some x
  yld := fun i H v H' => ∃ T x, v = .ref T ∧ H T = none ∧ H' = upd H T (.tup [.int (i : Nat), x]) ∧ ∀ xs, SqT K H a xs → xs[i]? = some x
  stop := fun i H => ∃ xs : List V, SqT K H a xs ∧ xs.length ≤ i
section
variable {X : Cx} {pins : List (Addr × Obj)} {σ : L2.St} {H : Hp} {s : Shared} {a e it : Addr} {i : Nat} {old : Value} {its : List Value}
theorem enumT_walks (hd : X.A.handled = none) (he : IsEnum s.heap e it ((i : Nat) : Int) old) (hit : s.heap.IsTupleIter it a i) (hne : e ≠ it) (p : s.heap.IsTuple a its.toArray) :
    WalksT X.prog X.w X.A e [e, it, a] [e, it] its.toArray.size (fun i vals => ∃ t x, its.toArray[i]? = some x ∧ vals = #[.int i t, x]) (fun i h => (∃ old, IsEnum h e it i old) ∧ h.IsTupleIter it a i ∧ h.IsTuple a its.toArray)
      (fun i T h => (∃ x, IsEnumOut h e it ((i : Int) + 1) x T) ∧ (h.IsTupleIter it a (i + 1) ∧ h.IsTuple a its.toArray) ∧ T ≠ e ∧ T ≠ it) := by
  have n1 : a ≠ it := fun z => by
    obtain ⟨o1, q1, c1, _⟩ := p
    obtain ⟨o2, q2, c2, _⟩ := hit
    rw [z, q2] at q1
    cases q1
    exact absurd (c2.symm.trans c1) (by decide)
  have n2 : e ≠ a := fun z => by
    obtain ⟨o1, q1, c1, _⟩ := p
    have he' : s.heap.get? e = _ := he
    rw [z, q1] at he'
    cases he'
    have c1 : Value.type "enumerate" = Value.type "tuple" := c1
    exact absurd c1 (by decide)
  exact WalksT.enumerateD (A := X.A) (Draws.tuple (A := X.A.in1) hd it a n1 its.toArray) e hne (by simp [hne, n2]) (by simp)
end
theorem enumT_done {prog : Program} {w : World} {A : Around} {Ex : Value → Shared → Prop} {s : Shared} {a e it : Addr} {i : Nat} {old : Value} {items : Array Value} {Q : Option Value → Shared → Prop} (hh : A.handled = none) (he : IsEnum s.heap e it ((i : Nat) : Int) old)
    (hit : s.heap.IsTupleIter it a i) (p : s.heap.IsTuple a items) (hx : items[i]? = none) (k : ∀ h', Heap.ExtBut it s.heap h' → Q none { s with heap := h' }) : wpAny (model prog w) A (pyNext (.ref e)) Q Ex s := by
  unfold pyNext
  refine wpAny_bind (wpAny_attempt (wpAny_callSpecial?_slot (name := Str.ofString "__next__") ⟨_, he, rfl⟩ F.slot_enumerate_next (wpAny_call_entry F.slot_enumerate_next ⟨_, he, rfl⟩ F.entry_enumerate_next ?_ (F.args_enumerate_next_1 _))))
  show wpAny _ _ (field (.ref e) 2 >>= _) _ _ s
  refine wpAny_bind (wpAny_field he rfl (x := .ref it) rfl (wpAny_bind (wpAny_nextOf_tuple_end hh hit p hx fun h' x ext ⟨o, ho, hc⟩ => ?_)))
  exact wpAny_bind (wpAny_isInstance (T := "StopIteration") (b := true) ⟨o, ho, hc⟩ isSubtype_stop (wpAny_pure (k _ ext)))
theorem turn_enumT {P : Program} {w : World} {K : PySem.W.Frag} {elts : List Expr} {kk : Nat} {tpos : Pos} (a e it : Addr) :
    Turn P w K (.Tuple elts kk tpos) (IteT K a) [e, it] e (fun i h => (∃ old, IsEnum h e it ((i : Nat) : Int) old) ∧ h.IsTupleIter it a i ∧ e ≠ it) where
  mem := List.mem_cons_self ..
  obj := fun i h st b hb => by
    obtain ⟨⟨old, he⟩, ⟨o, ho, _, hd⟩, _⟩ := st
    rcases List.mem_cons.mp hb with z | z
    · subst z
      exact ⟨_, he, fun v q => nomatch q⟩
    · rw [List.mem_singleton.mp z]
      exact ⟨o, ho, fun v q => by rw [hd] at q; cases q⟩
  keep := fun i h h' ⟨⟨old, he⟩, hi, hne⟩ k => ⟨⟨old, k e (List.mem_cons_self ..) _ he⟩, hi.at fun o q => k it (List.mem_cons_of_mem _ (List.mem_cons_self ..)) o q, hne⟩
  item := by
    intro X hP hw hK hc i pins s σ H E I hf ⟨⟨old, he⟩, hit, hne⟩ ⟨xs, x, hq, hx⟩
    subst hP hw hK
    obtain ⟨its, rv, p, hz⟩ := I.tuple hq
    obtain ⟨u, hu, ru⟩ := rv.get hx
    have p' : s.heap.IsTuple a its.toArray := p
    have W := enumT_walks (X := X) (I.ok.hd hc) he hit hne p'
    have hlt : i < its.toArray.size := by simpa using (List.getElem?_eq_some_iff.mp hu).1
    refine W.item i s _ E hlt ⟨⟨old, he⟩, hit, p'⟩ fun T vals h' tk hv hT isT mid k1 => ⟨_, rfl, ?_⟩
    obtain ⟨t, y, hy, rfl⟩ := hv
    have ey : u = y := by
      have e1 : its.toArray[i]? = some u := by simpa using hu
      exact Option.some.inj (e1.symm.trans hy)
    subst ey
    refine W.go elts kk tpos i T { s with heap := h', toks := tk } _ E mid fun h2 st2 k2 => ?_
    have away := W.apart i T h' mid
    obtain ⟨oT, hoT, cT, nT, dT⟩ := isT
    have hoT2 : h2.get? T = some oT := k2 T oT away hoT
    have new : ObjOk X.prog X.w (upd H T (.tup [.int (i : Nat), x])) h2 T (.tup [.int (i : Nat), x]) := ⟨by show 2 ≤ sizeLine; decide, [.int i t, u], .cons ⟨_, rfl⟩ (.cons ru .nil), ⟨oT, hoT2, cT, nT, dT⟩⟩
    have I1 : Inv X pins σ (upd H T (.tup [.int (i : Nat), x])) { s with heap := h2, toks := tk } := I.turnedNew (ch := [e, it]) (fun b ob hb q => k2 b ob hb (k1 b ob hb q)) hf hT new
    refine ⟨.ref T, _, I1, rfl, ⟨T, x, rfl, I.hok.fresh hT, rfl, fun ys hy => by rw [I.tuple_inj hy hq]; exact hx⟩, ⟨st2.1, st2.2.1, hne⟩, fun b hb => ?_⟩
    have nb : b ≠ T := fun z => away (by rw [← z]; exact hb)
    rw [upd_ne nb]
    exact (hf b hb).1
  done := by
    intro X hP hw hK hc i pins s σ H E I hf ⟨⟨old, he⟩, hit, hne⟩ ⟨xs, hq, hx⟩
    subst hP hw hK
    obtain ⟨its, rv, p, hz⟩ := I.tuple hq
    have p' : s.heap.IsTuple a its.toArray := p
    have hl := rv.length
    obtain ⟨o, ho, cT, nT, dT⟩ := id p'
    obtain ⟨f0, f1, f2, f3, f4, f5⟩ := hf it (List.mem_cons_of_mem _ (List.mem_cons_self ..))
    refine enumT_done (I.ok.hd hc) he hit p' (by simp; omega) fun h' ex => ⟨rfl, I.turned (t' := s.toks) (fun b ob hb q => ex b ob hb q) f0 f1 f3 f4 f5⟩
  self := fun A i s Q E ⟨⟨_, he⟩, _⟩ h => wpAny_pyIter_enum he h
def iEnumT (K : PySem.W.Frag) (ta : TA) : TI := fun σ H R => ta σ H fun vs H1 => ∃ a xs, vs = [.ref a] ∧ SqT K H1 a xs ∧ R (IteT K a) H1
theorem pi_enumT {X : Cx} {e : Expr} {ta : TA} {p pos tpos : Pos} {elts : List Expr} {kk : Nat} (hg : Gl X "enumerate") (hm : X.mg "enumerate" = none) (ha : PA X [e] ta) (hs : starEach [e] X.env = [(false, eval e X.env)] := by rfl) :
    PI X (.Tuple elts kk tpos) (.Call (.Name "enumerate" p) [e] [] pos) (iEnumT X.K ta) := by
  refine ⟨fun pins s σ H R I h => Call_ (ld_blt I hg hm boot_enumerate (PyProof.Rows.callWith_type1 (thn (ha.run pos pins s σ H _ I h) fun us s1 ⟨vs, H1, I1, r1, q1⟩ => ?_) hs rfl))⟩
  obtain ⟨a, xs, rfl, hq, q⟩ := q1
  cases r1 with
  | cons r rr =>
    cases rr
    cases r
    obtain ⟨its, rv, p', hz⟩ := I1.tuple hq
    refine call_enum1 (begins_tuple a its.toArray) (show s1.heap.IsTuple a its.toArray from p') fun h' he hit hk => wpAny_pyIter_enum he ?_
    refine ⟨s1.heap.objs.size + 1, [s1.heap.objs.size + 1, s1.heap.objs.size], _, _, H1, rfl, I1.kept (t' := s1.toks) hk, turn_enumT a _ _, ⟨⟨.none, he⟩, ⟨_, hit, rfl, rfl⟩, Nat.succ_ne_self _⟩, fun b hb => ?_, q⟩
    have hle : s1.heap.objs.size ≤ b := by
      rcases List.mem_cons.mp hb with z | z
      · rw [z]
        exact Nat.le_add_right _ 1
      · rw [List.mem_singleton.mp z]
        exact Nat.le_refl _
    exact I1.fpOk hle (I1.hok.fresh hle)
theorem walk_enumT {K : PySem.W.Frag} {a : Addr} {xs : List V} : Walk (IteT K a) xs.length (fun H => SqT K H a xs) (YPair (fun i => some (.int (i : Nat))) (fun i => xs[i]?)) :=
  ⟨fun i _ hi q => ⟨xs, xs[i], q, by simp [hi]⟩, fun _ q => ⟨xs, q, Nat.le_refl _⟩, fun i H v H' _ q ⟨T, x, h1, h2, h3, h4⟩ => ⟨T, .int (i : Nat), x, h1, h2, h3, rfl, h4 xs q⟩⟩
end Sz
namespace Sz
open PySem PySem.Spec PyProof.Rows L2
/-! ### ranges of integers of any size -/
theorem turn_long {P : Program} {w : World} {K : PySem.W.Frag} {tg : Expr} (it : Addr) (lo : Int) (n : Nat) :
    Turn P w K tg (Itr lo n) [it] it (fun i h => IsLongIter h it (lo + (i : Nat) * 1) ((n : Int) - (i : Nat)) 1) := by
  have fpit : ∀ {X : Cx} {pins : List (Addr × Obj)} {σ : L2.St} {H : Hp} {s : Shared} {h' : Heap} {tk : Nat}, Inv X pins σ H s → FpOk X pins H it → (∀ b o, b ≠ it → s.heap.get? b = some o → h'.get? b = some o) → Inv X pins σ H { s with heap := h', toks := tk } := fun I f k => by
    obtain ⟨g0, g1, _, g3, g4, g5⟩ := f
    exact I.turned k g0 g1 g3 g4 g5
  constructor
  · exact List.mem_singleton_self it
  · intro i h z b hb
    cases List.mem_singleton.mp hb
    refine ⟨_, z, fun v y => ?_⟩
    have y' : Data.fields _ = Data.cell v := y
    cases y'
  · exact fun i h h' z keep => keep it (List.mem_singleton_self it) _ z
  · intro X e1 e2 e3 calm i pins s σ H E I fp z go
    subst e1 e2 e3
    have wk := Walks.longrange (prog := X.prog) (w := X.w) (I.ok.hd calm) it lo 1 n
    refine wk.item i s _ _ go z ?_
    rintro v h' tk ⟨t, rfl⟩ z' kp
    have J := fpit (tk := tk) I (fp it (List.mem_singleton_self it)) fun b o hb e => kp b o (by simpa using hb) e
    refine ⟨_, rfl, go_of (s := { s with heap := h', toks := tk }) (n := "longrange_iterator") z' rfl rfl (by decide) ?_⟩
    exact ⟨.int (lo + i), H, J, ⟨t, by rw [Int.mul_one]⟩, ⟨rfl, rfl⟩, z', fun b hb => (fp b hb).1⟩
  · intro X e1 e2 e3 calm i pins s σ H E I fp z stop
    subst e1 e2 e3
    refine wpAny_pyNext_long_end (I.ok.hd calm) z (by have : n ≤ i := stop; omega) fun h' eb => ⟨rfl, ?_⟩
    exact fpit (tk := s.toks) I (fp it (List.mem_singleton_self it)) eb
  · exact fun A i s Q E z h => wpAny_pyIter_longiter z h
section
variable {X : Cx} {tg : Expr}
theorem range_any {pins : List (Addr × Obj)} {σ : L2.St} {H : Hp} {s : Shared} {R : It → Hp → Prop} {E : Value → Shared → Prop} {lo hi : Int} {t u v : Tok} {tk : Nat} (I : Inv X pins σ H s)
    (q : R (Itr lo (hi - lo).toNat) H) : wpAny (model X.prog X.w) X.A (pyIter (.ref s.heap.objs.size)) (PIE X pins σ tg R) E { s with heap := s.heap.push { cls := .type "range", data := .fields #[.int lo t, .int hi u, .int 1 v] }, toks := tk } := by
  generalize hr : s.heap.push { cls := .type "range", data := .fields #[.int lo t, .int hi u, .int 1 v] } = hp
  have J : Inv X pins σ H { s with heap := hp, toks := tk } := by
    rw [← hr]
    exact I.kept fun b o e => Heap.get?_push_of_some _ e
  have fresh : ∀ b ∈ [hp.objs.size], FpOk X pins H b := fun b hb => by
    cases List.mem_singleton.mp hb
    exact J.fpOk (Nat.le_refl _) (J.hok.fresh (Nat.le_refl _))
  have ir : IsRange hp s.heap.objs.size lo hi 1 t u v := by
    rw [← hr]
    exact IsRange.new ..
  have x0 : lo + ((0 : Nat) : Int) * 1 = lo := by simp
  have n0 : (((hi - lo).toNat : Nat) : Int) - ((0 : Nat) : Int) = Builtin.Range.rangeSize lo hi 1 := by
    rw [rangeSize_one]
    split <;> omega
  cases sm : Builtin.Range.small lo hi 1 with
  | true =>
    refine wpAny_pyIter_range ir sm ?_
    refine ⟨hp.objs.size, [hp.objs.size], _, _, H, rfl, J.kept (t' := tk) fun b o e => Heap.get?_push_of_some _ e, turn_range _ lo (hi - lo).toNat, ?_, fresh, q⟩
    show IsRangeIter _ _ (lo + ((0 : Nat) : Int) * 1) ((((hi - lo).toNat : Nat) : Int) - ((0 : Nat) : Int)) 1
    rw [x0, n0]
    exact Heap.get?_push_size hp rfl
  | false =>
    refine wpAny_pyIter_longrange ir sm ?_
    refine ⟨hp.objs.size, [hp.objs.size], _, _, H, rfl, J.kept (t' := tk) fun b o e => Heap.get?_push_of_some _ e, turn_long _ lo (hi - lo).toNat, ?_, fresh, q⟩
    show IsLongIter _ _ (lo + ((0 : Nat) : Int) * 1) ((((hi - lo).toNat : Nat) : Int) - ((0 : Nat) : Int)) 1
    rw [x0, n0]
    exact Heap.get?_push_size hp rfl
def iRngA (ta : TA) : TI := fun σ H R => ta σ H fun vs H1 => ∃ i j : Int, vs = [.int i, .int j] ∧ R (Itr i (j - i).toNat) H1
theorem pi_range2A {a b : Expr} {ta : TA} {p pos : Pos} (hg : Gl X "range") (hm : X.mg "range" = none) (ha : PA X [a, b] ta) (s1 : starEach [a, b] X.env = [(false, eval a X.env), (false, eval b X.env)] := by rfl) (s2 : starEach [b] X.env = [(false, eval b X.env)] := by rfl) :
    PI X tg (.Call (.Name "range" p) [a, b] [] pos) (iRngA ta) := by
  constructor
  intro pins s σ H R I h
  refine Call_ (ld_blt I hg hm boot_range (PyProof.Rows.callWith_type1 (thn (ha.run pos pins s σ H _ I h) ?_) (by rw [s1, s2]) (by rw [s2]; rfl)))
  rintro us sA ⟨vs, H1, I1, r1, i, j, rfl, q⟩
  obtain ⟨t, t', rfl⟩ := Vals.int2 r1
  exact call_range_2 (range_any I1 q)
end
end Sz
namespace Sz
open PySem PySem.Spec PyProof.Rows L2
/-! ### list(range(a, b)) of integers of any size -/
section
variable {prog : Program} {w : World} {A : Around} {E : Value → Shared → Prop} {s : Shared}
/-- L.extend(range(a, b)), L empty -/
theorem extend_long {R : Result → Shared → Prop} {r : Addr} {a b : Int} {t u v : Tok} {n : Nat} (calm : A.handled = none) (ir : IsRange s.heap r a b 1 t u v) (big : Builtin.Range.small a b 1 = false) (size : Builtin.Range.rangeSize a b 1 = n) (few : n ≤ 2 ^ 24)
    (L : Addr) (out : Value) (c : Nat) (hL : s.heap.get? L = some { cls := .type "list", data := .seq #[] c })
    (goal : ∀ h' tk its c', (∀ x o, x ≠ L → s.heap.get? x = some o → h'.get? x = some o) → h'.get? L = some { cls := .type "list", dict := none, data := .seq its c', slots := #[] } → ItemsOf (fun i z => ∃ y, z = .int (a + i * 1) y) its n →
      R (.ok (.ret out)) { s with heap := h', toks := tk }) :
    wpAny (model prog w) A.in1 (Builtin.List.listExtendWith (.ref L) (.ref r) out) (fun fin s' => match fin with
      | .done f => R (.ok f) s'
      | .again c' => c'.quiet = true ∧ codeAny (model prog w) A c' R s') (fun e s' => R (.error e) s') s := by
  have ne1 : L ≠ r := by
    rintro rfl
    rw [ir] at hL
    simp at hL
  have ne2 : L ≠ s.heap.objs.size := Nat.ne_of_lt (Heap.lt_size hL)
  have wk := (Walks.longrange (prog := prog) (w := w) (A := A.in1) calm s.heap.objs.size a 1 n).toS
  have loop : ∀ (h : Heap) (c1 tk : Nat), IsLongIter h s.heap.objs.size (a + ((0 : Nat) : Int) * 1) ((n : Int) - ((0 : Nat) : Int)) 1 → (∀ x o, x ≠ L → s.heap.get? x = some o → h.get? x = some o) → h.get? L = some { cls := .type "list", data := .seq #[] c1 } →
      codeAny (model prog w) A (.builtin "list.extend.loop" ⟨[.ref L, .ref s.heap.objs.size, out], []⟩) R { s with heap := h, toks := tk } := fun h c1 tk z kp hl => by
    refine codeAny_extend_loopS wk (by rw [sizeLine_eq]; omega) L (fun m => ne2 (List.mem_singleton.mp m)) out n 0 _ #[] c1 rfl (Nat.zero_le _) z hl (ItemsOf.nil _) ?_
    intro s' its c' mv hl' hi
    rw [Moved.eq_with mv]
    refine goal s'.heap s'.toks its c' (fun x o hx e => mv.heap x o (fun m => ?_) (kp x o hx e)) hl' hi
    cases List.mem_cons.mp m with
    | inl q => exact hx q
    | inr q =>
      have q1 := List.mem_singleton.mp q
      rw [q1] at e
      exact absurd (Heap.lt_size e) (Nat.lt_irrefl _)
  unfold Builtin.List.listExtendWith
  refine wpAny_bind (wpAny_typeOf (T := "range") ⟨_, ir, rfl⟩ ?_)
  have f1 : Builtin.List.listSameRef (.ref L) (.ref r) = false := by
    simp [Builtin.List.listSameRef, ne1]
  have f2 : (Value.type "range" == Value.type "list") = false := by decide
  have f3 : (Value.type "range" == Value.type "tuple") = false := by decide
  simp only [f1, f2, f3, Bool.or_false, Bool.false_eq_true, if_false]
  refine wpAny_bind (wpAny_pyIter_longrange ir big (wpAny_bind (wpAny_holding (wpAny_hint_range (n := n) (Heap.get?_push_of_some _ ir) size few ?_))))
  generalize hg : s.heap.push { cls := .type "longrange_iterator", data := .fields #[rawInt a, rawInt (Builtin.Range.rangeSize a b 1), rawInt 1] } = g
  have gi : IsLongIter g s.heap.objs.size (a + ((0 : Nat) : Int) * 1) ((n : Int) - ((0 : Nat) : Int)) 1 := by
    have x0 : a + ((0 : Nat) : Int) * 1 = a := by simp
    have x1 : (n : Int) - ((0 : Nat) : Int) = Builtin.Range.rangeSize a b 1 := by rw [size]; simp
    rw [x0, x1, ← hg]
    exact Heap.get?_push_size _ rfl
  have gk : ∀ x o, s.heap.get? x = some o → g.get? x = some o := fun x o e => by
    rw [← hg]
    exact Heap.get?_push_of_some _ e
  have gL := gk L _ hL
  refine wpAny_ite_split (fun _ => ?_) fun _ => wpAny_pure ⟨plainId_quiet F.plain_extend_loop _, loop _ c _ gi (fun x o _ e => gk x o e) gL⟩
  refine wpAny_bind (wpAny_rule (wpAny_bind ?_))
  show wpAny _ _ (updateSeq L (·.push .none) >>= fun _ => updateSeq L (·.pop)) _ _ _
  refine wpAny_bind (wpAny_updateSeq gL rfl ?_)
  have m1 := Heap.get?_update_self (Obj.mapSeq (·.push Value.none)) gL rfl
  refine wpAny_updateSeq (hz := by seq_fits) m1 rfl (wpAny_pure ⟨plainId_quiet F.plain_extend_loop _, loop _ _ _ ?_ (fun x o hx e => ?_) (Heap.get?_update_self (Obj.mapSeq (·.pop)) m1 rfl)⟩)
  · exact (Heap.get?_update_other _ _ ne2).trans ((Heap.get?_update_other _ _ ne2).trans gi)
  · exact (Heap.get?_update_other _ _ (Ne.symm hx)).trans ((Heap.get?_update_other _ _ (Ne.symm hx)).trans (gk x o e))
theorem call_list_long {Q : Value → Shared → Prop} {r : Addr} {a b : Int} {t u v : Tok} {n : Nat} (calm : A.handled = none) (ir : IsRange s.heap r a b 1 t u v) (big : Builtin.Range.small a b 1 = false) (size : Builtin.Range.rangeSize a b 1 = n) (few : n ≤ 2 ^ 24)
    (goal : ∀ h' tk its c', (∀ x o, s.heap.get? x = some o → h'.get? x = some o) → h'.get? s.heap.objs.size = some { cls := .type "list", dict := none, data := .seq its c', slots := #[] } → ItemsOf (fun i z => ∃ y, z = .int (a + i * 1) y) its n →
      Q (.ref s.heap.objs.size) { s with heap := h', toks := tk }) : wpAny (model prog w) A (call (.type "list") [.ref r]) Q E s := by
  refine callType_codes (Q₁ := fun obj s1 => obj = .ref s.heap.objs.size ∧ s1 = { s with heap := s.heap.push { cls := .type "list", data := .seq #[] } }) F.called_list (F.typeCall_list_1 _) F.entry_list_init (code_list_new _ ⟨rfl, rfl⟩) ?_
  rintro _ _ ⟨rfl, rfl⟩
  generalize hg : s.heap.push { cls := .type "list", data := .seq #[] } = g
  have gk : ∀ x o, s.heap.get? x = some o → g.get? x = some o := fun x o e => by
    rw [← hg]
    exact Heap.get?_push_of_some _ e
  have gL : g.get? s.heap.objs.size = some { cls := .type "list", data := .seq #[] } := by
    rw [← hg]
    exact Heap.get?_push_size _ rfl
  have lt : ∀ x o, s.heap.get? x = some o → x ≠ s.heap.objs.size := fun x o e => Nat.ne_of_lt (Heap.lt_size e)
  generalize hS : s.heap.objs.size = L at gL goal lt
  have nr : r ≠ L := lt r _ ir
  refine ⟨⟨_, gL, rfl⟩, F.args_list_init_2 _ _, ?_⟩
  show wpAny _ _ (do let old ← Builtin.List.listItems (.ref L); Builtin.List.listUpdate (.ref L) (fun _ => #[]); letGo old.toList.reverse; Builtin.List.listExtendWith (.ref L) (.ref r) .none) _ _ _
  unfold Builtin.List.listItems
  refine wpAny_bind (wpAny_bind (wpAny_seqItems gL rfl (wpAny_pure ?_)))
  show wpAny _ _ (updateSeq L (fun _ => #[]) >>= fun _ => letGo (#[] : Array Value).toList.reverse >>= fun _ => Builtin.List.listExtendWith (.ref L) (.ref r) .none) _ _ _
  refine wpAny_bind (wpAny_updateSeq gL rfl (wpAny_bind (wpAny_letGo ?_)))
  have ot : ∀ x o, x ≠ L → g.get? x = some o → (g.update L (Obj.mapSeq (fun _ => (#[] : Array Value)))).get? x = some o := fun x o hx e => (Heap.get?_update_other _ _ (Ne.symm hx)).trans e
  refine extend_long (A := A.in1) calm (ot r _ nr (gk r _ ir)) big size few L .none _ (Heap.get?_update_self (Obj.mapSeq (fun _ => (#[] : Array Value))) gL rfl) fun h' tk its c' kp hl' hi => ?_
  exact ⟨rfl, goal h' tk its c' (fun x o e => kp x o (lt x o e) (ot x o (lt x o e) (gk x o e))) hl' hi⟩
end
section
variable {X : Cx} {e : Expr} {te : L2.St → Hp → (Int → Int → Hp → Prop) → Prop}
def tLstA (te : L2.St → Hp → (Int → Int → Hp → Prop) → Prop) : TE := fun σ H Q => te σ H fun a b H1 => (b - a).toNat ≤ 1000000 ∧ ∀ q, H1 q = none → Q (.ref q) (upd H1 q (.lst (rgV a b)))
/-- list(range(..)) -/
theorem pe_listA {p pos : Pos} (hc : X.calm = true) (hg : Gl X "list") (hm : X.mg "list" = none) (he : PRg X e te) (na : starEach [e] X.env = (false, eval e X.env) :: starEach [] X.env := by rfl) : PE X (.Call (.Name "list" p) [e] [] pos) (tLstA te) := by
  constructor
  intro pins s σ H Q I h
  refine Call_ (ld_blt I hg hm boot_list (PyProof.Rows.callWith_type1 (args_cons (thn (he pins s σ H _ I h) ?_) na) na))
  rintro _ s1 ⟨r, a, b, t, u, v, H1, rfl, ir, J, few, q⟩
  refine args_nil ?_
  have few2 : (b - a).toNat ≤ 2 ^ 24 := Nat.le_trans few (by decide)
  have fin : ∀ h' tk its c', (∀ x o, s1.heap.get? x = some o → h'.get? x = some o) → h'.get? s1.heap.objs.size = some { cls := .type "list", dict := none, data := .seq its c', slots := #[] } → ItemsOf (fun i z => ∃ y, z = .int (a + i * 1) y) its (b - a).toNat →
      EP X pins σ Q (.ref s1.heap.objs.size) { s1 with heap := h', toks := tk } := fun h' tk its c' kp at_ hi => by
    refine ⟨.ref s1.heap.objs.size, upd H1 s1.heap.objs.size (.lst (rgV a b)), J.laid kp (Nat.le_refl _) ?_, rfl, q _ (J.hok.fresh (Nat.le_refl _))⟩
    refine (show ObjOk X.prog X.w _ _ _ (.lst (rgV a b)) from ⟨?_, its.toList, c', vals_rg hi, ?_⟩)
    · rw [rgV_length, sizeLine_eq]
      omega
    · rw [Array.toArray_toList]
      exact at_
  cases sm : Builtin.Range.small a b 1 with
  | true => exact call_list_range (J.ok.hd hc) ir sm (rangeSize_nat a b) few2 fin
  | false => exact call_list_long (J.ok.hd hc) ir sm (rangeSize_nat a b) few2 fin
end
end Sz
/-! x + y by an own __add__ -/
namespace Sz
open PySem PySem.Spec PyProof.Rows L2
/-- what the two classes must have: C its own def, D none, both stand under object alone -/
structure AddK (K : PySem.W.Frag) (C D f : Addr) : Prop where
  ne : C ≠ D
  c1 : ∃ cd, PySem.W.clsIn K C = some cd ∧ cd.mro = [.ref C, .type "object"]
  c2 : ∃ cd, PySem.W.clsIn K D = some cd ∧ cd.mro = [.ref D, .type "object"]
  at_ : PySem.W.findIn K (.ref C) "__add__" = some (some (.ref f))
  fn : PySem.W.isFn K (.ref f) = true
  n1 : PySem.W.findIn K (.ref D) "__add__" = some none
  n2 : PySem.W.findIn K (.ref D) "__radd__" = some none
def mroB (K : PySem.W.Frag) (C : Addr) : Bool := match PySem.W.clsIn K C with
  | some cd => decide (cd.mro = [.ref C, .type "object"])
  | none => false
def addB (K : PySem.W.Frag) (C D : Str) : Bool := decide (He.ga K C ≠ He.ga K D) && (mroB K (He.ga K C) && (mroB K (He.ga K D) && (He.eqO (PySem.W.findIn K (.ref (He.ga K C)) "__add__") (some (some (.ref (He.ma K (He.ga K C) "__add__")))) &&
  (PySem.W.isFn K (.ref (He.ma K (He.ga K C) "__add__")) && (He.eqO (PySem.W.findIn K (.ref (He.ga K D)) "__add__") (some none) && He.eqO (PySem.W.findIn K (.ref (He.ga K D)) "__radd__") (some none))))))
theorem mroB_ok {K : PySem.W.Frag} {C : Addr} (h : mroB K C = true) : ∃ cd, PySem.W.clsIn K C = some cd ∧ cd.mro = [.ref C, .type "object"] := by
  unfold mroB at h
  cases e : PySem.W.clsIn K C with
  | none =>
    rw [e] at h
    cases h
  | some cd =>
    rw [e] at h
    exact ⟨cd, rfl, of_decide_eq_true h⟩
theorem addB_ok {K : PySem.W.Frag} {C D : Str} (h : addB K C D = true) : AddK K (He.ga K C) (He.ga K D) (He.ma K (He.ga K C) "__add__") := by
  obtain ⟨h1, h⟩ := He.ba h
  obtain ⟨h2, h⟩ := He.ba h
  obtain ⟨h3, h⟩ := He.ba h
  obtain ⟨h4, h⟩ := He.ba h
  obtain ⟨h5, h⟩ := He.ba h
  obtain ⟨h6, h7⟩ := He.ba h
  exact ⟨of_decide_eq_true h1, mroB_ok h2, mroB_ok h3, He.eqO_ok h4, h5, He.eqO_ok h6, He.eqO_ok h7⟩
section
variable {K : PySem.W.Frag} {M : Model} {h : Heap} {C D f : Addr}
theorem fills_own (X : K.In h) (a : AddK K C D f) : PySem.W.Looks M h (fillsNumberSlot (.ref C) "add") true := by
  obtain ⟨cd, e1, e2⟩ := a.c1
  have L1 : PySem.W.Looks M h (mroOf (.ref C)) cd.mro := (PySem.W.looks_clsIn X e1).andThen .now
  have L2 : PySem.W.Looks M h (typeLookup (.ref C) "__add__") (some (.ref f)) := PySem.W.looks_findIn X a.at_
  unfold fillsNumberSlot
  refine PySem.W.Looks.andThen L1 ?_
  rw [e2]
  simp only [List.anyM]
  refine PySem.W.Looks.andThen (a := true) ?_ .now
  refine PySem.W.Looks.andThen (a := true) (PySem.W.Looks.andThen L2 ?_) .now
  exact .now
theorem fills_none (X : K.In h) (a : AddK K C D f) : PySem.W.Looks M h (fillsNumberSlot (.ref D) "add") false := by
  obtain ⟨cd, e1, e2⟩ := a.c2
  have L1 : PySem.W.Looks M h (mroOf (.ref D)) cd.mro := (PySem.W.looks_clsIn X e1).andThen .now
  have L2 : PySem.W.Looks M h (typeLookup (.ref D) "__add__") none := PySem.W.looks_findIn X a.n1
  have L3 : PySem.W.Looks M h (typeLookup (.ref D) "__radd__") none := PySem.W.looks_findIn X a.n2
  have L4 : PySem.W.Looks M h (typeLookup (.type "object") "__add__") none := .of_pure (by rw [typeLookup_type, builtinLookup_eq_fast]; kernel_rfl)
  have L5 : PySem.W.Looks M h (typeLookup (.type "object") "__radd__") none := .of_pure (by rw [typeLookup_type, builtinLookup_eq_fast]; kernel_rfl)
  unfold fillsNumberSlot
  refine PySem.W.Looks.andThen L1 ?_
  rw [e2]
  simp only [List.anyM]
  refine PySem.W.Looks.andThen (a := false) ?_ ?_
  · refine PySem.W.Looks.andThen (a := false) (PySem.W.Looks.andThen L2 .now) ?_
    exact PySem.W.Looks.andThen (a := false) (PySem.W.Looks.andThen L3 .now) .now
  · refine PySem.W.Looks.andThen (a := false) ?_ .now
    exact PySem.W.Looks.andThen L4 (PySem.W.Looks.andThen L5 .now)
end
section
variable {X : Cx} {CX : CXT} {k : Nat} {C D : Str} {ps : List Str} {sp : Sp} {E : XK}
/-- x + y: x an instance of C with its own __add__, y one of D with none -/
theorem op_addO (a : AddK X.K (He.ga X.K C) (He.ga X.K D) (He.ma X.K (He.ga X.K C) "__add__")) (G : PromM X.prog X.w X.K X.mg X.base CX k C "__add__" ps sp) (hr : Room k X.A) (hx : Passes CX X E) :
    OpR X (binaryOp .Add) (fun x y H Q => ∃ p q dx fs dy gs, x = .ref p ∧ y = .ref q ∧ H p = some (.ins (He.ga X.K C) dx fs) ∧ H q = some (.ins (He.ga X.K D) dy gs) ∧ sp [.ref p, .ref q] H Q E) := by
  intro pins s σ H x y v u Q I rx ry h
  obtain ⟨p, q, dx, fs, dy, gs, rfl, rfl, hp, hq, h⟩ := h
  obtain rfl : v = Value.ref p := rx
  obtain rfl : u = Value.ref q := ry
  obtain ⟨m1, O1, _⟩ := ins_get I.hok hp
  obtain ⟨od1, J1, _⟩ := O1.look
  obtain ⟨m2, O2, _⟩ := ins_get I.hok hq
  obtain ⟨od2, J2, _⟩ := O2.look
  obtain ⟨fd, F, b⟩ := G.ex
  have ne : (Value.ref (He.ga X.K C) == Value.ref (He.ga X.K D)) = false := by
    rw [beq_eq_false_iff_ne]
    exact fun z => a.ne (by injection z)
  unfold binaryOp
  refine wpAny_holding ?_
  show wpAny _ _ (binaryOp1 "add" (.ref p) (.ref q) >>= _) _ _ s
  refine wpAny_bind ?_
  unfold binaryOp1
  refine wpAny_bind (J1.type.here (wpAny_bind (J2.type.here (wpAny_bind ((fills_own I.kIn a).here ?_)))))
  rw [ne]
  refine wpAny_bind ((fills_none I.kIn a).here ?_)
  simp only [Bool.and_false, Bool.false_and, Bool.false_eq_true, if_false, if_true]
  refine wpAny_bind (wpAny_pure ?_)
  simp only [Bool.false_eq_true, if_false]
  unfold tryMethod callSpecial? specialOf
  refine wpAny_bind (wpAny_bind (wpAny_bind (wpAny_bind (J1.type.here ((PySem.W.looks_findIn I.kIn a.at_).here ?_)))))
  refine wpAny_holding (wpAny_bind ((PySem.W.bind_fn I.kIn (.ref p) (beq_iff_eq.mp a.fn)).here ?_))
  refine wpAny_bind (thn (run_fn (us := [.ref p, .ref q]) (vs := [.ref p, .ref q]) F hr b .nil hx I (.cons rfl (.cons rfl .nil)) h) fun v s' hv => wpAny_pure ?_)
  have fin : wpAny (model X.prog X.w) X.A (pure (some v) : Sem (Option Value)) (fun r s2 => wpAny (model X.prog X.w) X.A (match r with
      | some v => pure v
      | _ => do
        let ty ← typeOf (Value.ref p)
        let sl ← seqSlot? ty (Str.ofString "__add__")
        match sl with
          | some f => do
            rule "binop.sequence-concat"
            call f [Value.ref p, Value.ref q]
          | _ => binopTypeError "+" (Value.ref p) (Value.ref q)) (EP X pins σ Q) X.xe s2) X.xe s' := wpAny_pure (wpAny_pure hv)
  obtain ⟨x, H', I', r, q'⟩ := hv
  cases x with
  | non => cases (show v = Value.none from r); exact wpAny_pure fin
  | bl c => cases (show v = Value.bool c from r); exact wpAny_pure fin
  | int i => obtain ⟨t, rfl⟩ := (show ∃ t, v = Value.int i t from r); exact wpAny_pure fin
  | str i => obtain ⟨t, rfl⟩ := (show ∃ t, v = Value.str i t from r); exact wpAny_pure fin
  | byt i => obtain ⟨t, rfl⟩ := (show ∃ t, v = Value.bytes i t from r); exact wpAny_pure fin
  | flt i => obtain ⟨t, rfl⟩ := (show ∃ t, v = Value.float i t from r); exact wpAny_pure fin
  | ref a => cases (show v = Value.ref a from r); exact wpAny_pure fin
  | ty n => cases (show v = Value.type n from r); exact wpAny_pure fin
end
end Sz
/-! texts: what is joined, and its repr -/
namespace Sz
open PySem PySem.Spec PyProof.Rows L2
def Signs (x : Str) : Prop := ∀ c ∈ x.cps.toList, c < 16 ^ 8
theorem signs_of (s : String) : Signs (Str.ofString s) := fun c hc => by
  rw [Str.ofString_eq_toList] at hc
  have hc : c ∈ s.toList.map Char.toNat := by simpa using hc
  obtain ⟨d, _, rfl⟩ := List.mem_map.mp hc
  have h := d.valid
  have h2 : d.toNat < 1114112 := by
    rcases h with h | h
    · exact Nat.lt_trans h (by decide)
    · exact h.2
  exact Nat.lt_of_lt_of_le h2 (by decide)
theorem joinL_mem {sep : List Nat} {c : Nat} : ∀ {l : List (List Nat)}, c ∈ TL.joinL sep l → c ∈ sep ∨ ∃ y ∈ l, c ∈ y
  | [], h => by simp [TL.joinL] at h
  | [p], h => .inr ⟨p, by simp, h⟩
  | p :: q :: r, h => by
    rcases List.mem_append.mp (show c ∈ p ++ (sep ++ TL.joinL sep (q :: r)) from h) with h | h
    · exact .inr ⟨p, by simp, h⟩
    · rcases List.mem_append.mp h with h | h
      · exact .inl h
      · rcases joinL_mem h with h | ⟨y, hy, hc⟩
        · exact .inl h
        · exact .inr ⟨y, List.mem_cons_of_mem _ hy, hc⟩
theorem joinL_len {sep : List Nat} : ∀ {l : List (List Nat)}, (TL.joinL sep l).length ≤ (l.map (·.length)).sum + l.length * sep.length
  | [] => by simp [TL.joinL]
  | [p] => by simp [TL.joinL]
  | p :: q :: r => by
    have ih := joinL_len (sep := sep) (l := q :: r)
    show (p ++ (sep ++ TL.joinL sep (q :: r))).length ≤ _
    rw [List.length_append, List.length_append]
    simp only [List.map_cons, List.sum_cons, List.length_cons, Nat.add_mul, Nat.one_mul] at ih ⊢
    omega
theorem join_signs {sep : Str} {ys : List Str} (h : Signs sep) (h2 : ∀ y ∈ ys, Signs y) : Signs (Txt.join sep ys) := fun c hc => by
  rw [TL.join_eq] at hc
  have hc : c ∈ TL.tl (Str.join sep ys) := hc
  rw [TL.tl_join] at hc
  rcases joinL_mem hc with z | ⟨y, hy, z⟩
  · exact h c z
  · obtain ⟨y', hy', rfl⟩ := List.mem_map.mp hy
    exact h2 y' hy' c z
theorem join_len {sep : Str} {ys : List Str} : (Txt.join sep ys).length ≤ (ys.map (·.length)).sum + ys.length * sep.length := by
  have e : ∀ x : Str, x.length = (TL.tl x).length := fun x => by
    show x.cps.size = x.cps.toList.length
    simp
  rw [TL.join_eq, e, TL.tl_join]
  have := joinL_len (sep := TL.tl sep) (l := ys.map TL.tl)
  rw [List.map_map, List.length_map] at this
  have e2 : ys.map ((·.length) ∘ TL.tl) = ys.map (·.length) := by
    apply List.map_congr_left
    intro y _
    exact (e y).symm
  rw [e2] at this
  rw [e sep]
  exact this
theorem repr_fits {x : Str} (h : Signs x) (hl : x.length ≤ 100000) : (reprText x).length ≤ sizeLine := by
  have := PySem.StrLaws.reprText_len x h
  rw [sizeLine_eq]
  omega
/-- repr of a text -/
theorem cr_reprS {X : Cx} : CallR X (.builtin "repr") (fun xs H Q => ∃ y : Str, xs = [.str y] ∧ (reprText y).length ≤ sizeLine ∧ Q (.str (reprText y)) H) := by
  intro pins s σ H xs us Q I r h
  obtain ⟨y, rfl, hz, q⟩ := h
  obtain ⟨u, rfl, ru⟩ := vals1 r
  obtain ⟨t, rfl⟩ := (show ∃ t, u = Value.str y t from ru)
  exact PySem.P.repr_of_str ⟨.str _, H, I.tok _, ⟨_, rfl⟩, q⟩ hz
end Sz
/-! len(x) by an own __len__ -/
namespace Sz
open PySem PySem.Spec PyProof.Rows L2
section
variable {X : Cx} {CX : CXT} {k : Nat} {C : Str} {ps : List Str} {sp : Sp} {E : XK}
theorem cr_lenO (G : PromM X.prog X.w X.K X.mg X.base CX k C "__len__" ps sp) (hr : Room (k + 1) X.A) (hx : Passes CX X E) :
    CallR X (.builtin "len") (fun xs H Q => ∃ p dx fs, xs = [.ref p] ∧ H p = some (.ins (He.ga X.K C) dx fs) ∧ sp [.ref p] H (fun v H' => ∃ n : Int, v = .int n ∧ 0 ≤ n ∧ n < 2 ^ 63 ∧ Q (.int n) H') E) := by
  intro pins s σ H xs us Q I r h
  obtain ⟨p, dx, fs, rfl, hp, h⟩ := h
  obtain ⟨u, rfl, ru⟩ := vals1 r
  obtain rfl : u = Value.ref p := ru
  obtain ⟨m1, O1, _⟩ := ins_get I.hok hp
  obtain ⟨od1, J1, _⟩ := O1.look
  obtain ⟨fd, F, b⟩ := G.ex
  have hl : ([Value.ref p] ++ ([] : List Value)).length = ps.length := by
    have := F.len _ _ _ _ h
    simpa using this
  refine Calls.call_function_entry kind_len plain_len entry_len (args_len1 _) ?_
  unfold Builtin.«len»
  refine wpAny_bind (m := oneArg "len" _) (wpAny_pure ?_)
  refine wpAny_bind (m := callSpecial? (.ref p) (Str.ofString "__len__")) ?_
  unfold callSpecial? specialOf
  refine wpAny_bind (wpAny_bind (J1.type.here ((PySem.W.looks_findIn I.kIn G.me.at_).here ?_)))
  refine wpAny_holding (wpAny_bind ((PySem.W.bind_fn I.kIn (.ref p) (beq_iff_eq.mp G.me.fn)).here (wpAny_bind ?_)))
  have vv : Vals [V.ref p] [Value.ref p] := .cons rfl .nil
  have bb : BindsTo s fd ⟨[Value.ref p], []⟩ (ps.zip [Value.ref p]) := b s [Value.ref p] I.kIn hl
  refine wpAny_call (codeAny_mono (F.run X.A.in1 X.stack s H ⟨[Value.ref p], []⟩ [Value.ref p] [V.ref p] _ E hr.in1 I.env0.in1 bb vv h) fun rr s' hq => ?_)
  cases rr with
  | error e => exact hx pins σ H s e s' I hq
  | ok fl =>
    cases fl with
    | ret v =>
      obtain ⟨v', H', I', rv, n, rfl, n0, n1, q⟩ := I.after hq
      obtain ⟨t, rfl⟩ := (show ∃ t, v = Value.int n t from rv)
      refine wpAny_pure ?_
      refine wpAny_bind (wpAny_holding (wpAny_pure ?_))
      refine wpAny_bind (wpAny_letGo ?_)
      show wpAny _ _ (if n < 0 then _ else _) _ _ _
      rw [if_neg (by omega)]
      show wpAny _ _ (if n ≥ 2 ^ 63 then _ else _) _ _ _
      rw [if_neg (by omega)]
      exact wpAny_bind (wpAny_mkInt (wpAny_pure ⟨_, rfl, .int n, H', I'.tok _, ⟨_, rfl⟩, q⟩))
    | next => exact False.elim hq
    | brk => exact False.elim hq
    | cont => exact False.elim hq
end
end Sz
namespace Sz
/-! ### sizes rise with the length -/
theorem totF_lt {b n m : Int} (hb : 2 ≤ b) (hn : 0 ≤ n) (h : n < m) : totF b n < totF b m := by
  have s := (totF_is hb hn).tot
  have t := (totF_is (b := b) (n := m) hb (by omega)).tot
  by_cases c : totF b n < totF b m
  · exact c
  · have l := fig_lip hb (show totF b m ≤ totF b n by omega) t s
    omega
theorem totF_mono {b n m : Int} (hb : 2 ≤ b) (hn : 0 ≤ n) (h : n ≤ m) : totF b n ≤ totF b m := by
  by_cases c : n = m
  · rw [c]
    exact Int.le_refl _
  · exact Int.le_of_lt (totF_lt hb hn (by omega))
theorem beg_mono {n k m : Int} (hm : 1 ≤ m) (h : n ≤ k) : beg n m ≤ beg k m := Int.ediv_le_ediv (by omega) (by omega)
/-- n = m q + r -/
theorem beg_parts {n m : Int} (hm : 1 ≤ m) : beg n m = n / m + (if 0 < n % m then 1 else 0) := by
  unfold beg
  have e := Int.mul_ediv_add_emod n m
  have r0 := Int.emod_nonneg n (show m ≠ 0 by omega)
  have r1 := Int.emod_lt_of_pos n (show 0 < m by omega)
  split
  · have e2 : n + m - 1 = (n % m - 1) + m * (n / m + 1) := by rw [Int.mul_add, Int.mul_one]; omega
    rw [e2, Int.add_mul_ediv_left _ _ (by omega), Int.ediv_eq_zero_of_lt (by omega) (by omega)]
    omega
  · have e2 : n + m - 1 = (m - 1) + m * (n / m) := by omega
    rw [e2, Int.add_mul_ediv_left _ _ (by omega), Int.ediv_eq_zero_of_lt (by omega) (by omega)]
    omega
theorem pieces_step {b m c n : Int} (hb : 2 ≤ b) (h : (Wr.pieces m c).ok) (hn : 0 ≤ n) : (Wr.pieces m c).gr b n ≤ (Wr.pieces m c).gr b (n + 1) := by
  simp only [Wr.ok] at h
  simp only [Wr.gr]
  have r0 := Int.emod_nonneg n (show m ≠ 0 by omega)
  have r1 := Int.emod_lt_of_pos n (show 0 < m by omega)
  have e := Int.mul_ediv_add_emod n m
  by_cases z : n % m + 1 < m
  · have d : (n + 1) / m = n / m := by
      have e2 : n + 1 = (n % m + 1) + m * (n / m) := by omega
      rw [e2, Int.add_mul_ediv_left _ _ (by omega), Int.ediv_eq_zero_of_lt (by omega) z]
      have e3 : ((n % m + 1) + m * (n / m)) = n + 1 := by omega
      omega
    have r : (n + 1) % m = n % m + 1 := by
      have e3 := Int.mul_ediv_add_emod (n + 1) m
      rw [d] at e3
      omega
    rw [d, r, if_pos (show 0 < n % m + 1 by omega)]
    have f0 := figF_pos (b := b) (n := n % m + 1) hb
    have f1 := figF_mono (b := b) (n := n % m) (m := n % m + 1) hb (by omega)
    split <;> omega
  · have rm : n % m = m - 1 := by omega
    have e2 : n + 1 = 0 + m * (n / m + 1) := by rw [Int.mul_add, Int.mul_one]; omega
    have d : (n + 1) / m = n / m + 1 := by
      rw [e2, Int.add_mul_ediv_left _ _ (by omega), Int.zero_ediv]
      omega
    have r : (n + 1) % m = 0 := by
      have e3 := Int.mul_ediv_add_emod (n + 1) m
      rw [d, Int.mul_add, Int.mul_one] at e3
      omega
    rw [d, r, rm, if_neg (show ¬ (0 : Int) < 0 by omega), Int.add_mul, Int.one_mul]
    have f0 := figF_pos (b := b) (n := m) hb
    have f1 := figF_mono (b := b) (n := m - 1) (m := m) hb (by omega)
    split <;> omega
theorem step_le {f : Int → Int} (h : ∀ n, 0 ≤ n → f n ≤ f (n + 1)) {n : Int} (hn : 0 ≤ n) : ∀ k : Nat, f n ≤ f (n + k)
  | 0 => by simp
  | k + 1 => by
    have ih := step_le h hn k
    have := h (n + k) (by omega)
    have e : n + ((k + 1 : Nat) : Int) = n + k + 1 := by omega
    rw [e]
    omega
theorem gr_mono {b : Int} {a : Wr} (hb : 2 ≤ b) (h : a.ok) {n k : Int} (hn : 0 ≤ n) (hk : n ≤ k) : a.gr b n ≤ a.gr b k := by
  cases a with
  | plus c => simp only [Wr.gr]; omega
  | told c =>
    simp only [Wr.gr]
    have := figF_mono (b := b) hb hk
    omega
  | whole c =>
    simp only [Wr.ok] at h
    exact totF_mono hb (by omega) (by omega)
  | pieces m c =>
    have := step_le (f := (Wr.pieces m c).gr b) (fun n hn => pieces_step hb h hn) hn (k - n).toNat
    have e : n + ((k - n).toNat : Int) = k := by omega
    rw [e] at this
    exact this
  | cut m c =>
    simp only [Wr.ok] at h
    simp only [Wr.gr]
    have := Int.mul_le_mul_of_nonneg_right (beg_mono h.1 hk) (show 0 ≤ c by omega)
    omega
  | coded m c =>
    simp only [Wr.ok] at h
    exact Int.mul_le_mul_of_nonneg_right (beg_mono h.1 hk) (show 0 ≤ c by omega)
  | filled m =>
    simp only [Wr.ok] at h
    exact Int.mul_le_mul_of_nonneg_right (beg_mono h.1 hk) (show 0 ≤ m by omega)
/-- a size is no less than its length -/
theorem gr_ge {b : Int} {a : Wr} (hb : 2 ≤ b) (h : a.ok) {n : Int} (hn : 0 ≤ n) : n ≤ a.gr b n := by
  have bg : ∀ m : Int, 1 ≤ m → n ≤ beg n m * m := fun m hm => by
    have e := Int.mul_ediv_add_emod n m
    have r0 := Int.emod_nonneg n (show m ≠ 0 by omega)
    have r1 := Int.emod_lt_of_pos n (show 0 < m by omega)
    rw [beg_parts hm, Int.add_mul]
    have c := Int.mul_comm m (n / m)
    split
    · rw [Int.one_mul]
      omega
    · rw [Int.zero_mul]
      omega
  cases a with
  | plus c =>
    simp only [Wr.ok] at h
    simp only [Wr.gr]
    omega
  | told c =>
    simp only [Wr.ok] at h
    simp only [Wr.gr]
    have := figF_pos (b := b) (n := n) hb
    omega
  | whole c =>
    simp only [Wr.ok] at h
    simp only [Wr.gr]
    have := isTot_pos (totF_is (b := b) (n := n + c) hb (by omega)).tot
    omega
  | pieces m c =>
    simp only [Wr.ok] at h
    simp only [Wr.gr]
    have e := Int.mul_ediv_add_emod n m
    have r0 := Int.emod_nonneg n (show m ≠ 0 by omega)
    have q0 := Int.ediv_nonneg hn (show 0 ≤ m by omega)
    have f0 := figF_pos (b := b) (n := m) hb
    have f1 := figF_pos (b := b) (n := n % m) hb
    have p := Int.mul_le_mul_of_nonneg_left (show m ≤ m + c + figF b m by omega) q0
    have c := Int.mul_comm m (n / m)
    split <;> omega
  | cut m c =>
    simp only [Wr.ok] at h
    simp only [Wr.gr]
    have := Int.mul_nonneg (beg_le hn h.1).2 (show 0 ≤ c by omega)
    omega
  | coded m c =>
    simp only [Wr.ok] at h
    simp only [Wr.gr]
    have h1 := bg m h.1
    have := Int.mul_le_mul_of_nonneg_left (show m ≤ c by omega) (beg_le hn h.1).2
    omega
  | filled m =>
    simp only [Wr.ok] at h
    exact bg m h.1
end Sz
/-! data that can be shown and compared: how deep, how long the text -/
namespace Sz
open PySem PySem.Spec PyProof.Rows L2
/-- can be shown: at most so deep, at most so long -/
structure Sho (d : PyData) (k m : Nat) : Prop where
  able : d.showable = true
  nod : d.hasDict = false
  deep : d.depth ≤ k
  long : d.shown.length ≤ m
theorem Sho.mono {d : PyData} {k m k' m' : Nat} (h : Sho d k m) (hk : k ≤ k') (hm : m ≤ m') : Sho d k' m' := ⟨h.able, h.nod, Nat.le_trans h.deep hk, Nat.le_trans h.long hm⟩
theorem sho_int {i : Int} (k : Nat) (hk : 0 < k) (hk2 : k ≤ 500) (h : i.natAbs < 10 ^ k) : Sho (.int i) 0 (k + 1) := by
  refine ⟨?_, rfl, Nat.le_refl _, ?_⟩
  · have h2 : i.natAbs < 2 ^ 1800 := Nat.lt_of_lt_of_le h (Nat.le_trans (Nat.pow_le_pow_right (by decide) hk2) (by decide))
    show decide (i.natAbs.log2 < 1920) = true
    exact decide_eq_true (Nat.lt_of_lt_of_le (PySem.Flt.log2_lt_of (by decide) h2) (by decide))
  · have h1 := int_text_length_le10 hk h
    have e : (Str.ofString (toString i)).length = (toString i : String).length := PySem.ofString_length _
    show (Str.ofString (toString i)).length ≤ k + 1
    omega
theorem sho_bool (b : Bool) : Sho (.bool b) 0 5 := by cases b <;> exact ⟨rfl, rfl, Nat.le_refl _, by decide⟩
theorem sho_none : Sho .none 0 4 := ⟨rfl, rfl, Nat.le_refl _, by decide⟩
theorem sho_all {k m : Nat} : ∀ ds : List PyData, (∀ d ∈ ds, Sho d k m) → PyData.showableAll ds = true ∧ PyData.hasDictAll ds = false ∧ PyData.depthAll ds ≤ k ∧ ((PyData.shownAll ds).map (·.length)).sum ≤ m * ds.length ∧ (PyData.shownAll ds).length = ds.length
  | [], _ => ⟨rfl, rfl, Nat.zero_le _, by simp [PyData.shownAll], rfl⟩
  | d :: ds, h => by
    obtain ⟨h1, h2, h3, h4, h5⟩ := sho_all ds fun y hy => h y (List.mem_cons_of_mem _ hy)
    obtain ⟨g1, g2, g3, g4⟩ := h d (List.mem_cons_self ..)
    refine ⟨?_, ?_, ?_, ?_, ?_⟩
    · show (d.showable && PyData.showableAll ds) = true
      rw [g1, h1]
      rfl
    · show (d.hasDict || PyData.hasDictAll ds) = false
      rw [g2, h2]
      rfl
    · show max d.depth (PyData.depthAll ds) ≤ k
      omega
    · show ((d.shown :: PyData.shownAll ds).map (·.length)).sum ≤ m * (ds.length + 1)
      rw [List.map_cons, List.sum_cons, Nat.mul_add, Nat.mul_one]
      omega
    · show (PyData.shownAll ds).length + 1 = ds.length + 1
      rw [h5]
theorem sho_tuple {k m : Nat} {ds : List PyData} (h : ∀ d ∈ ds, Sho d k m) : Sho (.tuple ds) (k + 1) ((m + 2) * ds.length + 4) := by
  obtain ⟨h1, h2, h3, h4, h5⟩ := sho_all ds h
  refine ⟨h1, h2, ?_, ?_⟩
  · show PyData.depthAll ds + 1 ≤ k + 1
    omega
  · show (tupleText (PyData.shownAll ds)).length ≤ _
    have h6 := tupleText_len_le (PyData.shownAll ds)
    rw [h5] at h6
    rw [Nat.add_mul]
    omega
theorem sho_list {k m : Nat} {ds : List PyData} (h : ∀ d ∈ ds, Sho d k m) : Sho (.list ds) (k + 1) ((m + 2) * ds.length + 4) := by
  obtain ⟨h1, h2, h3, h4, h5⟩ := sho_all ds h
  refine ⟨h1, h2, ?_, ?_⟩
  · show PyData.depthAll ds + 1 ≤ k + 1
    omega
  · show (listText (PyData.shownAll ds)).length ≤ _
    have h6 := listText_len_le (PyData.shownAll ds)
    rw [h5] at h6
    rw [Nat.add_mul]
    omega
/-! what can be laid and compared -/
structure Shp (d : PyData) (k : Nat) : Prop where
  lay : d.canLay0 = true
  deep : d.depth ≤ k
theorem Shp.mono {d : PyData} {k k' : Nat} (h : Shp d k) (hk : k ≤ k') : Shp d k' := ⟨h.lay, Nat.le_trans h.deep hk⟩
theorem Shp.shaped {d : PyData} {k : Nat} (h : Shp d k) (hk : k ≤ 30 := by decide) : SeqAt.shaped d = true := by
  have h2 := h.deep
  simp [SeqAt.shaped, h.lay]
  omega
theorem shp_int (i : Int) : Shp (.int i) 0 := ⟨rfl, Nat.le_refl _⟩
theorem shp_str {s : Str} (h : PyData.strOk s = true) : Shp (.str s) 0 := ⟨h, Nat.le_refl _⟩
theorem shp_bool (b : Bool) : Shp (.bool b) 0 := ⟨rfl, Nat.le_refl _⟩
theorem shp_none : Shp .none 0 := ⟨rfl, Nat.le_refl _⟩
theorem shp_all {k : Nat} : ∀ ds : List PyData, (∀ d ∈ ds, Shp d k) → PyData.canLayAll0 ds = true ∧ PyData.depthAll ds ≤ k
  | [], _ => ⟨rfl, Nat.zero_le _⟩
  | d :: ds, h => by
    obtain ⟨h1, h2⟩ := shp_all ds fun y hy => h y (List.mem_cons_of_mem _ hy)
    obtain ⟨g1, g2⟩ := h d (List.mem_cons_self ..)
    refine ⟨?_, ?_⟩
    · show (d.canLay0 && PyData.canLayAll0 ds) = true
      rw [g1, h1]
      rfl
    · show max d.depth (PyData.depthAll ds) ≤ k
      omega
theorem shp_tuple {k : Nat} {ds : List PyData} (h : ∀ d ∈ ds, Shp d k) : Shp (.tuple ds) (k + 1) := by
  obtain ⟨h1, h2⟩ := shp_all ds h
  refine ⟨h1, ?_⟩
  show PyData.depthAll ds + 1 ≤ k + 1
  omega
theorem shp_list {k : Nat} {ds : List PyData} (h : ∀ d ∈ ds, Shp d k) : Shp (.list ds) (k + 1) := by
  obtain ⟨h1, h2⟩ := shp_all ds h
  refine ⟨h1, ?_⟩
  show PyData.depthAll ds + 1 ≤ k + 1
  omega
theorem shp_ints_t (xs : List Int) : Shp (.tuple (xs.map PyData.int)) 1 := shp_tuple (k := 0) fun d hd => by
  obtain ⟨i, _, rfl⟩ := List.mem_map.mp hd
  exact shp_int i
theorem shp_ints_l (xs : List Int) : Shp (.list (xs.map PyData.int)) 1 := shp_list (k := 0) fun d hd => by
  obtain ⟨i, _, rfl⟩ := List.mem_map.mp hd
  exact shp_int i
end Sz
/-! set comprehensions of ints (the walk is that of HandS.SetBool, turned to ints), sorted(set) of any number -/
namespace Sz
open PySem PySem.Spec PyProof.Rows L2 PpSet
section
variable {X : Cx}
theorem addI_ok {pins : List (Addr × Obj)} {σ : L2.St} {H : Hp} {s : Shared} {E : Value → Shared → Prop} {D : Addr} {S : Int → Bool} {n : Nat} {y : Int} {tk : Tok} {Q : Value → Shared → Prop} (I : Inv X pins σ H s) (hD : H D = some (SetO X.w D S n)) (room : n + 1 < scanBound)
    (h : ∀ s', Inv X pins σ (upd H D (SetO X.w D (fun j => S j || decide (j = y)) (if S y = true then n else n + 1))) s' → Q .none s') : wpAny (model X.prog X.w) X.A (call (.builtin "set.add") [.ref D, .int y tk]) Q E s := by
  have R := setO_get I hD
  refine setR_add R room fun h' sb new => ?_
  have he : ∃ u, h'.get? D = some u := by
    have ⟨o, _, _, _, ho, _⟩ := new
    exact ⟨o, ho⟩
  exact h _ (I.write (e := D) (t' := s.toks + 1) (by rw [hD]; trivial) (.inl rfl) (fun b u hb hu => (sb.2 b hb).trans hu) he (setO_new new))
def tScI (w : World) (wi : TI) (g : TG) (tt : TT) (te : TE) (vs : List Nat) : TE := fun σ H Q => wi σ H fun J H1 => ∀ D, H1 D = none → ∃ W : Nat → Nat → Hp → Prop, (∃ m, W 0 m (upd H1 D (SetO w D (fun _ => false) 0))) ∧ ∀ i m H, W i m H →
  (J.stop i H ∧ Q (.ref D) H) ∨ (J.go i H ∧ ∃ Nx : Hp → Prop, (∀ H', Nx H' → ∃ m', m' < m ∧ W (i + 1) m' H') ∧ ∀ x H', J.yld i H x H' → g x (wipe σ vs) H' fun σ2 H2 => wipe σ2 vs = wipe σ vs ∧ tt σ2 H2 fun b H3 =>
    if b = true then te σ2 H3 fun y H4 => ∃ (c : Int) (S : Int → Bool) (n : Nat), y = .int c ∧ H4 D = some (SetO w D S n) ∧ n + 1 < scanBound ∧ Nx (upd H4 D (SetO w D (fun j => S j || decide (j = c)) (if S c = true then n else n + 1))) else Nx H3)
theorem sc_coreI {pins : List (Addr × Obj)} {s : Shared} {σ : L2.St} {H : Hp} {Q : VK} {elt tg iter : Expr} {ifs : List Expr} {scope : Scope} {own : List (PySem.Str × Nat)} {pos pos' : Pos} {wi : TI} {g : TG} {tt : TT} {te : TE} {use : Option (Value → Sem Unit)} {Qf : Value → Shared → Prop}
    (hc : X.calm = true) (hN : X.N.Nodup) (I : Inv X pins σ H s) (hi : PI X tg iter wi) (ok : BlkOk X.N X.env.scope scope own)
    (hg : ∀ (s : Shared) (H : Hp) (C : Addr) (cl : List (PySem.Str × Addr)) (fp : List Addr), PG (X.blk s H scope (compEnvC scope cl C X.env) fp) tg g) (ht : ∀ (s : Shared) (H : Hp) (C : Addr) (cl : List (PySem.Str × Addr)) (fp : List Addr), PTs (X.blk s H scope (compEnvC scope cl C X.env) fp) ifs tt)
    (he : ∀ (s : Shared) (H : Hp) (C : Addr) (cl : List (PySem.Str × Addr)) (fp : List Addr), PE (X.blk s H scope (compEnvC scope cl C X.env) fp) elt te) (hs : ∀ x, foldedSetIterable iter X.env x = pure x)
    (h : tScI X.w wi g tt te (own.map (·.2)) σ H Q)
    (hRR : ∀ D C s' m H', Inv X pins σ H' s' → Q (.ref D) H' → s'.heap.Ns C m → FpOk X pins H' C → compPost (model X.prog X.w) X.A X.xe use Qf (.ref D) C (.ok .next) s') :
    wpAny (model X.prog X.w) X.A (comprehension (.SetComp elt [⟨tg, iter, ifs, 0⟩] scope pos) scope X.env pos' (newSet (.type "set")) false (eval iter X.env) use) Qf X.xe s := by
  have hfree : ∀ y ∈ scope.names, y.2 = .free → ∃ c, X.env.cells.lookup y.1 = some c := fun y hy e => by
    rcases ok.free y hy e with k | k
    · exact I.ok.has _ (.inl k)
    · exact I.ok.has _ (.inr k)
  refine wpAny_comprehension_free (use := use) rfl hs (closure_ok hfree) ok.kind (fun y hy e => by rw [ok.uniq y hy, e])
    (thn (hi.run pins s σ H _ I h) fun xv s1 hx => thn hx fun itv s2 h2 => ?_)
  obtain ⟨it, fp, tn, J, H2, e, I2, T, st2, f2, q⟩ := h2
  subst e
  refine newSet_ok (newEnv_comp ?_)
  generalize hD : s2.heap.objs.size = D
  have hDn : H2 D = none := I2.hok.fresh (Nat.le_of_eq hD)
  obtain ⟨W, ⟨m0, w0⟩, turn⟩ := q D hDn
  -- the new list
  generalize hs3 : ({ s2 with heap := s2.heap.push { cls := .type "set", dict := none, data := .set #[] 0 (.fresh 0 0 (!X.w.params.followText "set-order")) } } : Shared) = s3
  have I3 : Inv X pins σ (upd H2 D (SetO X.w D (fun _ => false) 0)) s3 := by
    rw [← hs3]
    refine I2.laid (t' := s2.toks) (fun b o e => Heap.get?_push_of_some _ e) (Nat.le_of_eq hD) ?_
    rw [← hD]
    exact setO_new (setR_fresh X.w)
  have h3 : s3.heap = s2.heap.push { cls := .type "set", dict := none, data := .set #[] 0 (.fresh 0 0 (!X.w.params.followText "set-order")) } := by rw [← hs3]
  have sz : ∀ b ∈ fp, b < s2.heap.objs.size := fun b hb => by
    obtain ⟨o, e, _⟩ := T.obj _ _ st2 b hb
    exact Heap.lt_size e
  have f3 : ∀ b ∈ fp, FpOk X pins (upd H2 D (SetO X.w D (fun _ => false) 0)) b ∧ b < s3.heap.objs.size := fun b hb => by
    have hlt := sz b hb
    refine ⟨⟨?_, (f2 b hb).2⟩, by rw [h3, Heap.size_push]; exact Nat.lt_succ_of_lt hlt⟩
    rw [upd_ne (by rw [← hD]; exact Nat.ne_of_lt hlt)]
    exact (f2 b hb).1
  have st3 : tn 0 s3.heap := T.keep _ _ _ st2 fun b _ o e => by rw [h3]; exact Heap.get?_push_of_some _ e
  have I4 := block_start I3 ok hN f3
  have pg := hg s3 (upd H2 D (SetO X.w D (fun _ => false) 0)) s3.heap.objs.size (cellsFrom (s3.heap.objs.size + 1) scope.names (cloFrom X.env.cells scope.names [])) fp
  have pt := ht s3 (upd H2 D (SetO X.w D (fun _ => false) 0)) s3.heap.objs.size (cellsFrom (s3.heap.objs.size + 1) scope.names (cloFrom X.env.cells scope.names [])) fp
  have pe := he s3 (upd H2 D (SetO X.w D (fun _ => false) 0)) s3.heap.objs.size (cellsFrom (s3.heap.objs.size + 1) scope.names (cloFrom X.env.cells scope.names [])) fp
  show codeAny _ _ (.compStart (.SetComp elt [⟨tg, iter, ifs, 0⟩] scope pos) 0 (.ref it) (.ref D) (compEnvC scope (cellsFrom (s3.heap.objs.size + 1) scope.names (cloFrom X.env.cells scope.names [])) s3.heap.objs.size X.env)) (compPost (model X.prog X.w) X.A X.xe use Qf (.ref D) s3.heap.objs.size) { s3 with heap := pushCells (s3.heap.push { cls := .type "dict", data := .dict #[] }) scope.names }
  have nfp : ∀ b ∈ fp, (upd H2 D (SetO X.w D (fun _ => false) 0)) b = none := fun b hb => (f3 b hb).1.1
  generalize hce : compEnvC scope (cellsFrom (s3.heap.objs.size + 1) scope.names (cloFrom X.env.cells scope.names [])) s3.heap.objs.size X.env = ce at I4 pg pt pe ⊢
  have cL : ce.locals = s3.heap.objs.size := by subst hce; rfl
  generalize hH3 : upd H2 D (SetO X.w D (fun _ => false) 0) = H3 at I3 I4 pg pt pe w0 nfp f3
  generalize hs4 : ({ s3 with heap := pushCells (s3.heap.push { cls := .type "dict", data := .dict #[] }) scope.names } : Shared) = s4 at I4 ⊢
  have st4 : tn 0 s4.heap := T.keep _ _ _ st3 fun b _ o e => by rw [← hs4]; exact pushCells_keeps _ _ _ _ (Heap.get?_push_of_some _ e)
  have stat : ∀ {σ' : L2.St} {H' : Hp} {s' : Shared}, Inv (X.blk s3 H3 scope ce fp) [] σ' H' s' → (∀ b ∈ fp, H' b = none) → ∀ b ∈ fp, FpOk (X.blk s3 H3 scope ce fp) [] H' b := fun {σ' H' s'} I' hn b hb =>
    ⟨hn b hb, (I'.ok.exf b hb).1, I'.ok.exfs b hb, .inl hb, fun x c e => (I'.ok.exf b hb).2 x c e, fun p hp => absurd (show p ∈ ([] : List (Addr × Obj)) ++ [] from hp) (by simp)⟩
  have loop : codeAny (model X.prog X.w) X.A (.compLoop (.SetComp elt [⟨tg, iter, ifs, 0⟩] scope pos) 0 (.ref it) (.ref D) ce) (compPost (model X.prog X.w) X.A X.xe use Qf (.ref D) s3.heap.objs.size) s4 := by
    refine compLoopS_any (fun n s' => ∃ i H', Inv (X.blk s3 H3 scope ce fp) [] (wipe σ (own.map (·.2))) H' s' ∧ tn i s'.heap ∧ (∀ b ∈ fp, H' b = none) ∧ W i n H') ?_ m0 ⟨0, H3, I4, st4, nfp, w0⟩
    rintro n s5 ⟨i, H5, I5, st5, n5, w5⟩
    rcases turn i n H5 w5 with ⟨stop, qq⟩ | ⟨go, Nx, hNx, step⟩
    · have td := T.done (X.blk s3 H3 scope ce fp) rfl rfl rfl hc i [] s5 _ H5 (fun _ _ => False) I5 (stat I5 n5) st5 stop
      refine thnF td fun r s6 ⟨hr, I6⟩ => ?_
      subst hr
      -- back in the def's context
      have I7 : Inv X pins σ H5 s6 := I3.call' (ch := fp) I6.os I6.base I6.hok I6.bare fun b hb => ⟨(f3 b hb).1.2.2.2.1, (f3 b hb).1.2.1, (f3 b hb).1.2.2.2.2.1, (f3 b hb).1.2.2.2.2.2⟩
      have nC : H5 s3.heap.objs.size = none := by
        have z : H5 ce.locals = none := I6.free
        rw [cL] at z
        exact z
      obtain ⟨m, hn, _⟩ := I6.loc
      have hn : s6.heap.Ns ce.locals m := hn
      rw [cL] at hn
      exact hRR D s3.heap.objs.size s6 m H5 I7 qq hn (I3.fpOk (Nat.le_refl _) nC)
    · have ti := T.item (X.blk s3 H3 scope ce fp) rfl rfl rfl hc i [] s5 _ H5 (fun _ _ => False) I5 (stat I5 n5) st5 go
      refine thnF ti fun r s6 ⟨u, hr, h6⟩ => ?_
      subst hr
      refine thnF h6 fun _ s7 ⟨x, H7, I7, r7, y7, st7, n7⟩ => ?_
      have I7' := I7.pinned (stat I7 n7) (T.obj _ _ st7)
      refine thnF (pg.run _ s7 _ H7 x u _ I7' r7 (step x H7 y7)) fun _ s8 ⟨σ8, H8, I8, hw8, q8⟩ => ?_
      refine thnF (pt.run _ s8 σ8 H8 _ I8 q8) fun b s9 ⟨H9, I9, q9⟩ => ?_
      -- the turn's end
      have fin : ∀ {s' : Shared} {H' : Hp}, Inv (X.blk s3 H3 scope ce fp) ([] ++ pinsAt fp s7.heap) σ8 H' s' → Nx H' → ∃ m, m < n ∧ ∃ i H', Inv (X.blk s3 H3 scope ce fp) [] (wipe σ (own.map (·.2))) H' s' ∧ tn i s'.heap ∧ (∀ b ∈ fp, H' b = none) ∧ W i m H' := fun {s' H'} I' nx => by
        obtain ⟨m', hm, w'⟩ := hNx H' nx
        have pin' : ∀ b ∈ fp, ∀ o, s7.heap.get? b = some o → s'.heap.get? b = some o ∧ H' b = none := fun b hb o e =>
          let z := I'.pin (b, o) (List.mem_append_right _ (List.mem_append_right _ (mem_pinsAt hb e)))
          ⟨z.1, z.2.1⟩
        have hl : (wipe σ (own.map (·.2))).length = σ8.length := by rw [← hw8, wipe_length]
        refine ⟨m', hm, i + 1, H', (I'.unpinned (pins := [])).weak hl (fun j v e => ?_), T.keep _ _ _ st7 fun b hb o e => (pin' b hb o e).1, fun b hb => ?_, w'⟩
        · rw [← hw8] at e
          exact (wipe_some e).1
        · obtain ⟨o, e, _⟩ := T.obj _ _ st7 b hb
          exact (pin' b hb o e).2
      cases b with
      | false =>
        simp only [Bool.false_eq_true, if_false] at q9 ⊢
        exact fin I9 q9
      | true =>
        simp only [if_true] at q9 ⊢
        refine thnF (pe.run _ s9 σ8 H9 _ I9 q9) fun z s10 ⟨yv, H10, I10, r10, cb, S0, n0, ey, hD10, hz10, nx⟩ => ?_
        subst ey
        obtain ⟨tk, rfl⟩ := r10
        exact addI_ok (X := X.blk s3 H3 scope ce fp) I10 hD10 hz10 fun s11 I11 => fin I11 nx
  exact codeAny_compStart_set loop (T.self X.A 0 _ _ _ st4 loop)
/-- as a value -/
theorem pe_scI {elt tg iter : Expr} {ifs : List Expr} {scope : Scope} {own : List (PySem.Str × Nat)} {pos : Pos} {wi : TI} {g : TG} {tt : TT} {te : TE} (hc : X.calm = true) (hN : X.N.Nodup) (hi : PI X tg iter wi) (ok : BlkOk X.N X.env.scope scope own)
    (hg : ∀ (s : Shared) (H : Hp) (C : Addr) (cl : List (PySem.Str × Addr)) (fp : List Addr), PG (X.blk s H scope (compEnvC scope cl C X.env) fp) tg g) (ht : ∀ (s : Shared) (H : Hp) (C : Addr) (cl : List (PySem.Str × Addr)) (fp : List Addr), PTs (X.blk s H scope (compEnvC scope cl C X.env) fp) ifs tt)
    (he : ∀ (s : Shared) (H : Hp) (C : Addr) (cl : List (PySem.Str × Addr)) (fp : List Addr), PE (X.blk s H scope (compEnvC scope cl C X.env) fp) elt te) (hs : ∀ x, foldedSetIterable iter X.env x = pure x := by intro _; rfl) :
    PE X (.SetComp elt [⟨tg, iter, ifs, 0⟩] scope pos) (tScI X.w wi g tt te (own.map (·.2))) := by
  refine ⟨fun pins s σ H Q I h => ?_⟩
  rw [eval_SetComp]
  refine sc_coreI hc hN I hi ok hg ht he hs h fun D C s' m H' I' q hn f => ⟨m, hn, fun h'' sb => ?_⟩
  obtain ⟨f0, f1, f2, f3, f4, f5⟩ := f
  exact ⟨.ref D, H', I'.turned (t' := s'.toks) (fun b o hb e => (sb.2 b hb).trans e) f0 f1 f3 f4 f5, rfl, q⟩
/-- over a list that the block leaves as it is -/
theorem sc_listI {w : World} {K : PySem.W.Frag} {a : Addr} {xs : List V} {g : TG} {tt : TT} {te : TE} {vs : List Nat} {σ : L2.St} {H1 : Hp} {D : Addr} {Qd : Hp → Prop} (Pv : Nat → Hp → Prop) (h0 : Pv 0 (upd H1 D (SetO w D (fun _ => false) 0))) (hl : ∀ i H, i ≤ xs.length → Pv i H → SqL K H a xs)
    (hs : ∀ i x H, xs[i]? = some x → Pv i H → g x (wipe σ vs) H fun σ2 H2 => wipe σ2 vs = wipe σ vs ∧ tt σ2 H2 fun b H3 =>
      if b = true then te σ2 H3 fun y H4 => ∃ (c : Int) (S : Int → Bool) (n : Nat), y = .int c ∧ H4 D = some (SetO w D S n) ∧ n + 1 < scanBound ∧ Pv (i + 1) (upd H4 D (SetO w D (fun j => S j || decide (j = c)) (if S c = true then n else n + 1))) else Pv (i + 1) H3) (hd : ∀ H, Pv xs.length H → Qd H) :
    ∃ W : Nat → Nat → Hp → Prop, (∃ m, W 0 m (upd H1 D (SetO w D (fun _ => false) 0))) ∧ ∀ i m H, W i m H →
      ((Itl K a).stop i H ∧ Qd H) ∨ ((Itl K a).go i H ∧ ∃ Nx : Hp → Prop, (∀ H', Nx H' → ∃ m', m' < m ∧ W (i + 1) m' H') ∧ ∀ x H', (Itl K a).yld i H x H' → g x (wipe σ vs) H' fun σ2 H2 => wipe σ2 vs = wipe σ vs ∧ tt σ2 H2 fun b H3 =>
        if b = true then te σ2 H3 fun y H4 => ∃ (c : Int) (S : Int → Bool) (n : Nat), y = .int c ∧ H4 D = some (SetO w D S n) ∧ n + 1 < scanBound ∧ Nx (upd H4 D (SetO w D (fun j => S j || decide (j = c)) (if S c = true then n else n + 1))) else Nx H3) := by
  refine ⟨fun i m H => m = xs.length - i ∧ i ≤ xs.length ∧ Pv i H, ⟨xs.length, by simp, Nat.zero_le _, h0⟩, ?_⟩
  rintro i m H ⟨rfl, hi, p⟩
  have q := hl i H hi p
  by_cases hlt : i < xs.length
  · refine .inr ⟨⟨xs, xs[i], q, by simp [hlt]⟩, Pv (i + 1), fun H' p' => ⟨xs.length - (i + 1), by omega, rfl, hlt, p'⟩, fun x H' y => ?_⟩
    obtain ⟨e, y⟩ := y
    subst e
    exact hs i x _ (y xs q) p
  · have e : i = xs.length := by omega
    subst e
    exact .inl ⟨⟨xs, q, Nat.le_refl _⟩, hd H p⟩
/-- over a tuple that the block leaves as it is -/
theorem sc_tupI {w : World} {K : PySem.W.Frag} {a : Addr} {xs : List V} {g : TG} {tt : TT} {te : TE} {vs : List Nat} {σ : L2.St} {H1 : Hp} {D : Addr} {Qd : Hp → Prop} (Pv : Nat → Hp → Prop) (h0 : Pv 0 (upd H1 D (SetO w D (fun _ => false) 0))) (hl : ∀ i H, i ≤ xs.length → Pv i H → SqT K H a xs)
    (hs : ∀ i x H, xs[i]? = some x → Pv i H → g x (wipe σ vs) H fun σ2 H2 => wipe σ2 vs = wipe σ vs ∧ tt σ2 H2 fun b H3 =>
      if b = true then te σ2 H3 fun y H4 => ∃ (c : Int) (S : Int → Bool) (n : Nat), y = .int c ∧ H4 D = some (SetO w D S n) ∧ n + 1 < scanBound ∧ Pv (i + 1) (upd H4 D (SetO w D (fun j => S j || decide (j = c)) (if S c = true then n else n + 1))) else Pv (i + 1) H3) (hd : ∀ H, Pv xs.length H → Qd H) :
    ∃ W : Nat → Nat → Hp → Prop, (∃ m, W 0 m (upd H1 D (SetO w D (fun _ => false) 0))) ∧ ∀ i m H, W i m H →
      ((Itt K a).stop i H ∧ Qd H) ∨ ((Itt K a).go i H ∧ ∃ Nx : Hp → Prop, (∀ H', Nx H' → ∃ m', m' < m ∧ W (i + 1) m' H') ∧ ∀ x H', (Itt K a).yld i H x H' → g x (wipe σ vs) H' fun σ2 H2 => wipe σ2 vs = wipe σ vs ∧ tt σ2 H2 fun b H3 =>
        if b = true then te σ2 H3 fun y H4 => ∃ (c : Int) (S : Int → Bool) (n : Nat), y = .int c ∧ H4 D = some (SetO w D S n) ∧ n + 1 < scanBound ∧ Nx (upd H4 D (SetO w D (fun j => S j || decide (j = c)) (if S c = true then n else n + 1))) else Nx H3) := by
  refine ⟨fun i m H => m = xs.length - i ∧ i ≤ xs.length ∧ Pv i H, ⟨xs.length, by simp, Nat.zero_le _, h0⟩, ?_⟩
  rintro i m H ⟨rfl, hi, p⟩
  have q := hl i H hi p
  by_cases hlt : i < xs.length
  · refine .inr ⟨⟨xs, xs[i], q, by simp [hlt]⟩, Pv (i + 1), fun H' p' => ⟨xs.length - (i + 1), by omega, rfl, hlt, p'⟩, fun x H' y => ?_⟩
    obtain ⟨e, y⟩ := y
    subst e
    exact hs i x _ (y xs q) p
  · have e : i = xs.length := by omega
    subst e
    exact .inl ⟨⟨xs, q, Nat.le_refl _⟩, hd H p⟩
/-- sorted(set) -/
theorem sorted_setA {P : Program} {w : World} {A : Around} {E : Value → Shared → Prop} {s : Shared} {a : Addr} {S : Int → Bool} {n : Nat} {Q : Value → Shared → Prop} (R : SetR w s.heap a S n) (hh : A.handled = none)
    (hQ : ∀ s' p (out : List Value) (c : Nat) (ns : List Int), (∀ b o, s.heap.get? b = some o → s'.heap.get? b = some o) → s'.gens = s.gens → s'.os = s.os → s.heap.objs.size ≤ p →
      s'.heap.get? p = some (seqObj "list" out.toArray c) → IntsAre out ns → ns.Pairwise (· < ·) → (∀ k, k ∈ ns ↔ S k = true) → ns.length = n → Q (.ref p) s') :
    wpAny (model P w) A (call (.builtin "sorted") [.ref a]) Q E s := by
  obtain ⟨o, es, ep, t, ho, hex, hd, g, nd, hm, hb, hf, hn, hr, hl⟩ := R
  have hb2 : n < 4096 := by rw [← hn]; exact hb
  refine Calls.call_function_entry kind_sorted plain_sorted entry_sorted (args_sorted1 _) ?_
  unfold Builtin.«sorted»
  refine wpAny_bind (m := checkCount "sorted" 1 1 _) (wpAny_pure ?_)
  refine wpAny_bind (collect_set (A := A.in1) hh ⟨o, ho, hex.1, hd⟩ hf hb hr hl fun s1 vs k1 hz g1 o1 pm => ?_)
  have hvl : vs.length = n := by rw [pm.length_eq, List.length_map, Array.length_toList]; exact hn
  have hI : IntsAre vs (vs.map Builtin.Re.reRawOf) := ints_of vs fun v hv => by
    obtain ⟨e, he, q⟩ := List.mem_map.mp (pm.mem_iff.mp hv)
    obtain ⟨k, tk, h1, _⟩ := g e he
    exact ⟨k, tk, by rw [← q]; exact h1⟩
  have pk : (vs.map Builtin.Re.reRawOf).Perm (es.toList.map keyOf) := by
    have q := pm.map Builtin.Re.reRawOf
    rw [List.map_map] at q
    exact q
  have hvz : vs.length ≤ sizeLine := by rw [hvl, sizeLine_eq]; omega
  refine wpAny_bind (wpAny_newList ?_ hvz)
  have hoL : (s1.heap.push (seqObj "list" vs.toArray 0)).get? s1.heap.objs.size = some (seqObj "list" vs.toArray 0) := Heap.get?_push_size _ rfl
  refine wpAny_bind (wpAny_holding (wpAny_call_entry slot_list_sort ⟨_, hoL, rfl⟩ entry_list_sort (SrtO.list_sort_ord SrtO.swo_int hoL hvz (fun h2 => SrtO.ints_sortable hI h2) fun out h1 h2 => ⟨_, rfl, ?_⟩) (args_list_sort _)))
  obtain ⟨a1, a2, a3⟩ := SrtO.ints_out hI h1 h2
  obtain ⟨c, hc⟩ := sortedHeap_at (vs := vs) (out := out.toArray) hoL
  have pn : (out.map SrtO.iv).Perm (es.toList.map keyOf) := a2.trans pk
  refine wpAny_pure ⟨_, rfl, hQ _ s1.heap.objs.size out c _ (fun b u e => ?_) g1 o1 hz hc a1 (lt_of_le_nodup _ a3 (pn.nodup_iff.mpr nd)) (fun k => by rw [pn.mem_iff, ← hm k]) ?_⟩
  · have q := k1 b u e
    have hlt := Heap.lt_size q
    show (sortedHeap (s1.heap.push (seqObj "list" vs.toArray 0)) s1.heap.objs.size vs out.toArray).get? b = some u
    rw [sortedHeap_old (Nat.ne_of_lt hlt) (by rw [size_push']; exact Nat.lt_succ_of_lt hlt)]
    exact Heap.get?_push_of_some _ q
  · rw [pn.length_eq, List.length_map, Array.length_toList]; exact hn
def rSortedSetA (w : World) : List V → Hp → VK → Prop := fun vs H Q => ∃ (a : Addr) (S : Int → Bool) (n : Nat), vs = [V.ref a] ∧ H a = some (SetO w a S n) ∧ n < 4096 ∧
  ∀ (ns : List Int) (p : Addr), ns.Pairwise (· < ·) → (∀ k : Int, k ∈ ns ↔ S k = true) → ns.length = n → H p = none → Q (.ref p) (upd H p (.lst (ns.map V.int)))
theorem cr_sortedSetA (hc : X.calm = true) : CallR X (.builtin "sorted") (rSortedSetA X.w) := by
  intro pins s σ H vs us Q I r h
  obtain ⟨a, S, n, rfl, ha, h4, q⟩ := h
  have R := setO_get I ha
  rw [Vals.ref1 r]
  refine sorted_setA R (I.ok.hd hc) fun s' p out c ns k g o hp hg hi hs hm hl => ?_
  have hlen : (ns.map V.int).length ≤ sizeLine := by rw [List.length_map, hl, sizeLine_eq]; omega
  have hn : H p = none := I.hok.fresh hp
  have J : Inv X pins σ (upd H p (.lst (ns.map V.int))) { s with heap := s'.heap, gens := s'.gens, drawn := s'.drawn, toks := s'.toks } :=
    I.call (ch := []) (Un.laid k hp hn) (I.hok.laid k hp ⟨hlen, out, c, vals_of_ints hi, hg⟩) (by rw [g]; exact I.bare) (fun _ z => nomatch z)
  have e : s' = { s with heap := s'.heap, gens := s'.gens, drawn := s'.drawn, toks := s'.toks } := by
    cases s'
    cases s
    cases o
    rfl
  rw [e]
  exact ⟨.ref p, _, J, rfl, q ns p hs hm hl hn⟩
end
end Sz
/-! a <= b <= c <= .. as a test, of any length -/
namespace Sz
open PySem PySem.Spec PyProof.Rows L2
/-- len within a comprehension -/
def rLenS (K : PySem.W.Frag) : List V → Hp → VK → Prop := fun xs H Q => ∃ p ys, xs = [V.ref p] ∧ (SqL K H p ys ∨ SqT K H p ys) ∧ Q (V.int (ys.length : Nat)) H
abbrev TL := V → L2.St → Hp → (Bool → Hp → Prop) → Prop
section
variable {X : Cx} {a b c : Expr} {cs : List Expr} {op op' : CmpOp} {ops : List CmpOp} {ta tb : TE} {r : R2} {t : TL} {pos : Pos}
/-- the rest of a chain, behind a value -/
def PL (X : Cx) (ops : List CmpOp) (cs : List Expr) (t : TL) : Prop :=
  ∀ (pos : Pos) (pins : List (Addr × Obj)) (s : Shared) (σ : L2.St) (H : Hp) (x : V) (v : Value) (Q : Bool → Hp → Prop), Inv X pins σ H s → RelV x v → t x σ H Q →
    wpAny (model X.prog X.w) X.A (testChain pos v ops (evalEach cs X.env)) (fun k s' => ∃ H', Inv X pins σ H' s' ∧ Q k H') X.xe s
def tlLast (r : R2) (tb : TE) : TL := fun x σ H Q => tb σ H fun y H2 => r x y H2 fun z H3 => ∃ k, z = .bl k ∧ Q k H3
def tlMore (r : R2) (tb : TE) (t : TL) : TL := fun x σ H Q => tb σ H fun y H2 => r x y H2 fun z H3 => ∃ k, z = .bl k ∧ if k = true then t y σ H3 Q else Q false H3
theorem pl_last (ho : OpR X (compareOp op) r) (hb : PE X b tb) : PL X [op] [b] (tlLast r tb) := by
  intro pos pins s σ H x v Q I rx h
  refine test_last (thn (hb.run pins s σ H _ I h) fun u s2 ⟨y, H2, I2, r2, q2⟩ => thn (ho pins s2 σ H2 x y v u _ I2 rx r2 q2) fun d s3 ⟨z, H3, I3, r3, k, e, q3⟩ => ?_)
  subst e
  cases r3
  exact wpAny_truthy_bool ⟨H3, I3, q3⟩
theorem pl_more (ho : OpR X (compareOp op) r) (hb : PE X b tb) (hr : PL X (op' :: ops) (c :: cs) t) : PL X (op :: op' :: ops) (b :: c :: cs) (tlMore r tb t) := by
  intro pos pins s σ H x v Q I rx h
  refine test_link (thn (hb.run pins s σ H _ I h) fun u s2 ⟨y, H2, I2, r2, q2⟩ => thn (ho pins s2 σ H2 x y v u _ I2 rx r2 q2) fun d s3 ⟨z, H3, I3, r3, k, e, q3⟩ => ?_)
  subst e
  cases r3
  refine wpAny_truthy_bool ?_
  cases k with
  | false => exact ite_ff ⟨H3, I3, q3⟩
  | true => exact ite_tt (hr pos pins s3 σ H3 y u Q I3 r2 q3)
def tChs (ta : TE) (t : TL) : TT := fun σ H Q => ta σ H fun x H1 => t x σ H1 Q
theorem pt_chains (ha : PE X a ta) (hr : PL X (op :: op' :: ops) (b :: c :: cs) t) (hm : lastMarks (op :: op' :: ops) (b :: c :: cs) = false := by with_unfolding_all rfl) :
    PT X (.Compare a (op :: op' :: ops) (b :: c :: cs) pos) (tChs ta t) := by
  refine ⟨fun pins s σ H Q I h => ?_⟩
  exact isTrue_chain (thn (ha.run pins s σ H _ I h) fun v s1 ⟨x, H1, I1, r1, q1⟩ => hr pos pins s1 σ H1 x v Q I1 r1 q1) hm
end
end Sz
/-! str(x), f"{x}" by an own __str__; x == y, x != y by an own __eq__ -/
namespace Sz
open PySem PySem.Spec PyProof.Rows L2
/-- what the class must have -/
structure StrK (K : PySem.W.Frag) (C : Addr) : Prop where
  fmt : PySem.W.findIn K (.ref C) "__format__" = some (some (.builtin "object.__format__"))
  mro : PySem.W.mroIn K C (.type "object") = some true
  ne : PySem.W.findIn K (.ref C) "__ne__" = some (some (.builtin "object.__ne__"))
def strB (K : PySem.W.Frag) (C : Addr) : Bool := He.eqO (PySem.W.findIn K (.ref C) "__format__") (some (some (.builtin "object.__format__"))) && (decide (PySem.W.mroIn K C (.type "object") = some true) && He.eqO (PySem.W.findIn K (.ref C) "__ne__") (some (some (.builtin "object.__ne__"))))
theorem strB_ok {K : PySem.W.Frag} {C : Addr} (h : strB K C = true) : StrK K C := by
  obtain ⟨h1, h⟩ := He.ba h
  obtain ⟨h2, h3⟩ := He.ba h
  exact ⟨He.eqO_ok h1, of_decide_eq_true h2, He.eqO_ok h3⟩
section
variable {X : Cx} {CX : CXT} {k n : Nat} {C : Str} {ps : List Str} {sp : Sp} {E : XK}
/-- the own method of an instance is called somewhere below the running body -/
theorem run_own {m : Str} (G : PromM X.prog X.w X.K X.mg X.base CX k C m ps sp) (hx : Passes CX X E) {A : Around} (sb : L2.Sub X k A) {pins : List (Addr × Obj)} {s : Shared} {σ : L2.St} {H : Hp} {vs : List V} {us : List Value} {Q : VK}
    (I : Inv X pins σ H s) (r : Vals vs us) (h : sp vs H Q E) : wpAny (model X.prog X.w) A (call (.ref (He.ma X.K (He.ga X.K C) m)) us) (EP X pins σ Q) X.xe s := by
  obtain ⟨fd, F, b⟩ := G.ex
  have hl := F.len _ _ _ _ h
  have e0 : Env0 X.prog X.w X.K X.mg X.base A X.stack s H := by
    have e := I.env0
    exact ⟨by rw [sb.fr]; exact e.frames, e.mod, e.bs, e.bsz, e.funs, e.frf, e.hok, e.bare⟩
  have hl2 : us.length = ps.length := by rw [← hl]; exact r.length.symm
  refine wpAny_call (codeAny_mono (F.run A X.stack s H ⟨us, []⟩ us vs _ E sb.room e0 (by
    have := b s us I.kIn (by simpa using hl2)
    simpa using this) r h) fun rr s' hq => ?_)
  cases rr with
  | error e => exact hx pins σ H s e s' I hq
  | ok fl =>
    cases fl with
    | ret v =>
      obtain ⟨z, H', I', rz, q⟩ := I.after hq
      exact ⟨z, H', I', rz, q⟩
    | next => exact False.elim hq
    | brk => exact False.elim hq
    | cont => exact False.elim hq
theorem strBack_of {pins : List (Addr × Obj)} {σ : L2.St} {Q : VK} {v : Value} {s' : Shared} (h : EP X pins σ (fun v H => ∃ y : Str, v = .str y ∧ Q (.str y) H) v s') : PySem.W.StrBack (EP X pins σ Q) v s' := by
  obtain ⟨z, H', I', rz, y, rfl, q⟩ := h
  obtain ⟨t, rfl⟩ := rz
  exact ⟨.str y, H', I', ⟨t, rfl⟩, q⟩
/-- f"{x}" by an own __str__ -/
def tFmtO (C : Addr) (sp : Sp) (E : XK) (te : TE) : TE := fun σ H Q => te σ H fun x H1 => ∃ p dx fs, x = .ref p ∧ H1 p = some (.ins C dx fs) ∧ sp [.ref p] H1 (fun v H2 => ∃ y : Str, v = .str y ∧ Q (.str y) H2) E
theorem pe_fmtO {e : Expr} {te : TE} {pos : Pos} (a : StrK X.K (He.ga X.K C)) (G : PromM X.prog X.w X.K X.mg X.base CX k C "__str__" ps sp) (hr : Room (k + 1) X.A) (hx : Passes CX X E) (he : PE X e te) :
    PE X (.FormattedValue e (-1) none pos) (tFmtO (He.ga X.K C) sp E te) := by
  refine ⟨fun pins s σ H Q I h => ?_⟩
  refine wpAny_FormattedValue_plain (thn (he.run pins s σ H _ I h) fun v s1 hv => ?_)
  obtain ⟨x, H1, I1, r1, p, dx, fs, rfl, hp, q⟩ := hv
  obtain rfl : v = Value.ref p := r1
  obtain ⟨m1, O1, _⟩ := ins_get I1.hok hp
  obtain ⟨od1, J1, _⟩ := O1.look
  refine PySem.W.kfo_fieldS hr.in1.units0 I1.kIn J1 a.fmt a.mro G.me.at_ G.me.fn ?_
  exact wpAny_mono (run_own G hx (A := X.A.in1) ⟨hr.in1, rfl⟩ (vs := [.ref p]) (us := [.ref p]) (I1.tok _) (.cons rfl .nil) q) (fun v s' z => strBack_of z) fun _ _ z => z
/-- str(x) by an own __str__ -/
theorem cr_strO (G : PromM X.prog X.w X.K X.mg X.base CX k C "__str__" ps sp) (hr : Room (k + 2) X.A) (hx : Passes CX X E) :
    CallR X (.type "str") (fun xs H Q => ∃ p dx fs, xs = [.ref p] ∧ H p = some (.ins (He.ga X.K C) dx fs) ∧ sp [.ref p] H (fun v H2 => ∃ y : Str, v = .str y ∧ Q (.str y) H2) E) := by
  intro pins s σ H xs us Q I r h
  obtain ⟨p, dx, fs, rfl, hp, h⟩ := h
  obtain ⟨u, rfl, ru⟩ := vals1 r
  obtain rfl : u = Value.ref p := ru
  obtain ⟨m1, O1, _⟩ := ins_get I.hok hp
  obtain ⟨od1, J1, _⟩ := O1.look
  refine callType_codes (T := "str") (Bi := Builtin.«object.__init__») (Q₁ := fun r s₁ => ∃ y u, r = .str y u ∧ EP X pins σ Q r s₁) PySem.F.called_str (PySem.F.typeCall_str_1 _) PySem.F.entry_object_init ?_ ?_
  · refine codeAny_of_tree ?_
    show wpAny _ X.A.in1.in1 (do checkBuiltinCall "str.__new__" ⟨[.type "str", .ref p], []⟩; again (.builtin "str.__new__" ⟨[.type "str", .ref p], []⟩)) _ _ s
    refine wpAny_bind (wpAny_of_eq (PySem.F.newCall_str_1 _) (wpAny_pure ⟨plainId_quiet (by decide +kernel) _, codeAny_builtin PySem.F.entry_str_new ?_⟩))
    rw [Around.under_plainId (by decide +kernel) _]
    rw [str_new_tree]
    refine wpAny_bind (wpAny_pure ?_)
    refine wpAny_bind (wpAny_of_eq isSubtype_str_str ?_)
    have key : wpAny (model X.prog X.w) X.A.in1.in1 (PySem.Builtin.Str.strOf (.ref p)) (fun r s₁ => ∃ y u, r = .str y u ∧ EP X pins σ Q r s₁) X.xe s := by
      unfold PySem.Builtin.Str.strOf
      rw [show PySem.Builtin.Str.isExactStr (.ref p) = false from rfl]
      refine wpAny_bind (m := cRoomFor _ _) (wpAny_cRoomFor hr.in1.in1.units0 ?_)
      refine wpAny_bind (m := callSpecial? (.ref p) (Str.ofString "__str__")) (PySem.W.special_fn I.kIn J1 G.me.at_ (beq_iff_eq.mp G.me.fn) (wpAny_mono (run_own G hx (A := X.A.in1.in1) ⟨hr.in1.in1, rfl⟩ (vs := [.ref p]) (us := [.ref p]) I (.cons rfl .nil) h) (fun v s' z => ?_) fun _ _ y => y))
      obtain ⟨z, H', I', rz, y, rfl, q⟩ := z
      obtain ⟨t, rfl⟩ := rz
      exact wpAny_pure ⟨_, _, rfl, .str y, H', I', ⟨t, rfl⟩, q⟩
    exact wpAny_bind (wpAny_mono key (fun r s₁ hr => wpAny_pure hr) fun _ _ y => y)
  · rintro obj s₁ ⟨y, u, rfl, hq⟩
    exact ⟨typeIs_str _ _ _, PySem.F.args_object_init_2 _ _, object_init_meets PySem.F.called_str.init.lookup PySem.F.called_str.made (by decide) X.prog X.w X.A.in1 _ s₁ ⟨typeIs_str _ _ _, rfl, hq⟩⟩
/-- x == y by an own __eq__ -/
theorem op_eqO (G : PromM X.prog X.w X.K X.mg X.base CX k C "__eq__" ps sp) (hr : Room k X.A) (hx : Passes CX X E) :
    OpR X (compareOp .Eq) (fun x y H Q => ∃ p q dx fs dy gs, x = .ref p ∧ y = .ref q ∧ H p = some (.ins (He.ga X.K C) dx fs) ∧ H q = some (.ins (He.ga X.K C) dy gs) ∧ sp [.ref p, .ref q] H (fun v H2 => ∃ b : Bool, v = .bl b ∧ Q (.bl b) H2) E) := by
  intro pins s σ H x y v u Q I rx ry h
  obtain ⟨p, q, dx, fs, dy, gs, rfl, rfl, hp, hq, h⟩ := h
  obtain rfl : v = Value.ref p := rx
  obtain rfl : u = Value.ref q := ry
  obtain ⟨m1, O1, _⟩ := ins_get I.hok hp
  obtain ⟨od1, J1, _⟩ := O1.look
  obtain ⟨m2, O2, _⟩ := ins_get I.hok hq
  obtain ⟨od2, J2, _⟩ := O2.look
  obtain ⟨m, hF⟩ := I.fr
  show wpAny (model X.prog X.w) X.A (richCompare .Eq (.ref p) (.ref q)) (EP X pins σ Q) X.xe s
  refine PySem.W.cmp_K (op := .Eq) (tb := .ref (He.ga X.K C)) hr.units0 hF I.ok.mod.kin J1 J2.type (by simp [PySem.W.notFirst]) G.me.at_ G.me.fn ?_
  refine wpAny_mono (run_own G hx (A := X.A) ⟨hr, rfl⟩ (vs := [.ref p, .ref q]) (us := [.ref p, .ref q]) I (.cons rfl (.cons rfl .nil)) h) (fun v s' z => ?_) fun _ _ y => y
  obtain ⟨z, H', I', rz, b, rfl, q⟩ := z
  cases rz
  exact ⟨.bl b, H', I', rfl, q⟩
/-- x != y by an own __eq__ -/
theorem op_neO (a : StrK X.K (He.ga X.K C)) (G : PromM X.prog X.w X.K X.mg X.base CX k C "__eq__" ps sp) (hr : Room (k + 1) X.A) (hx : Passes CX X E) :
    OpR X (compareOp .NotEq) (fun x y H Q => ∃ p q dx fs dy gs, x = .ref p ∧ y = .ref q ∧ H p = some (.ins (He.ga X.K C) dx fs) ∧ H q = some (.ins (He.ga X.K C) dy gs) ∧ sp [.ref p, .ref q] H (fun v H2 => ∃ b : Bool, v = .bl b ∧ Q (.bl !b) H2) E) := by
  intro pins s σ H x y v u Q I rx ry h
  obtain ⟨p, q, dx, fs, dy, gs, rfl, rfl, hp, hq, h⟩ := h
  obtain rfl : v = Value.ref p := rx
  obtain rfl : u = Value.ref q := ry
  obtain ⟨m1, O1, _⟩ := ins_get I.hok hp
  obtain ⟨od1, J1, _⟩ := O1.look
  obtain ⟨m2, O2, _⟩ := ins_get I.hok hq
  obtain ⟨od2, J2, _⟩ := O2.look
  show wpAny (model X.prog X.w) X.A (richCompare .NotEq (.ref p) (.ref q)) (EP X pins σ Q) X.xe s
  have one : wpAny (model X.prog X.w) X.A (tryCompare (.ref p) "__ne__" (.ref q)) (fun r s' => ∃ v, r = some v ∧ EP X pins σ Q v s') X.xe s := by
    unfold tryCompare
    refine wpAny_bind ?_
    simp only [callSpecialIfBound?, bindSpecialIfBound?]
    refine wpAny_holding (wpAny_bind (wpAny_bind (wpAny_bind (J1.type.here ((PySem.W.looks_findIn I.kIn a.ne).here ?_)))))
    refine wpAny_bind (wpAny_askSetting (wpAny_ite ?_))
    have run : wpAny (model X.prog X.w) X.A (call (.builtin "object.__ne__") [.ref p, .ref q]) (fun r s' => ∃ b : Bool, r = .bool b ∧ EP X pins σ Q (.bool b) s') X.xe s := by
      refine wpAny_call (codeAny_call_builtin PySem.F.slot_object_ne.plain PySem.F.entry_object_ne (PySem.W.check_slot (i := "object.__ne__") (owner := "object") (n := "__ne__") (by decide +kernel) (by decide +kernel) (J1.type.andThen (PySem.W.looks_mroIn I.kIn a.mro)) (PySem.F.args_object_ne_2 _ _) ?_))
      unfold Builtin.«object.__ne__»
      refine wpAny_bind (m := slotArgs "__ne__" 1 _) (wpAny_pure ?_)
      refine wpAny_bind (m := cRoomFor _ _) (wpAny_cRoomFor hr.in1.units0 ?_)
      refine wpAny_bind (m := callSpecialIfBound? (.ref p) (Str.ofString "__eq__") _) (PySem.W.ifBound_K I.kIn J1 G.me.at_ G.me.fn (wpAny_mono (run_own G hx (A := X.A.in1) ⟨hr.in1, rfl⟩ (vs := [.ref p, .ref q]) (us := [.ref p, .ref q]) I (.cons rfl (.cons rfl .nil)) h) (fun r s' z => ?_) fun _ _ y => y))
      obtain ⟨z, H', I', rz, b, rfl, q⟩ := z
      cases rz
      exact wpAny_bind (wpAny_truthy_bool (wpAny_pure ⟨!b, rfl, .bl !b, H', I', rfl, q⟩))
    have fin : wpAny (model X.prog X.w) X.A (call (.builtin "object.__ne__") ([.ref p] ++ [.ref q]) >>= fun v => pure (some v)) (fun r s2 => ∃ b : Bool, r = some (.bool b) ∧ EP X pins σ Q (.bool b) s2) X.xe s :=
      wpAny_bind (wpAny_mono run (fun v s' h' => wpAny_pure (by obtain ⟨b, rfl, h'⟩ := h'; exact ⟨b, rfl, h'⟩)) fun _ _ h' => h')
    have fin2 := wpAny_mono (Q' := fun r s2 => wpAny (model X.prog X.w) X.A (match r with
      | some .notImplemented => pure none
      | none => pure none
      | some v => pure (some v) : Sem (Option Value)) (fun r s' => ∃ v, r = some v ∧ EP X pins σ Q v s') X.xe s2) fin (fun r s2 z => by
        obtain ⟨b, e, z⟩ := z
        subst e
        exact wpAny_pure ⟨_, rfl, z⟩) fun _ _ z => z
    split
    · exact wpAny_bind (wpAny_of_eq (PySem.F.slot_object_ne.bind _) (wpAny_pure (by exact fin2)))
    · exact wpAny_tryCatch (wpAny_bind (wpAny_of_eq (PySem.F.slot_object_ne.bind _) (wpAny_pure (by exact fin2))))
  unfold richCompare
  simp only [oneThing_ref]
  refine wpAny_holding (wpAny_bind (wpAny_cRoomFor hr.units0 ?_))
  rw [cmpInfo_NotEq]
  dsimp only
  refine wpAny_bind (J1.type.here (wpAny_bind (J2.type.here ?_)))
  rw [show (Value.ref (He.ga X.K C) != Value.ref (He.ga X.K C)) = false from by simp]
  simp only [Bool.false_eq_true, if_false]
  refine wpAny_bind (wpAny_pure ?_)
  simp only [Bool.false_eq_true, if_false]
  refine wpAny_bind (wpAny_mono one (fun r s' z => ?_) fun _ _ e => e)
  obtain ⟨v, rfl, hq⟩ := z
  exact wpAny_pure hq
end
end Sz
/-! repr(x) by an own __repr__ -/
namespace Sz
open PySem PySem.Spec PyProof.Rows L2
section
variable {X : Cx} {CX : CXT} {k n : Nat} {C : Str} {ps : List Str} {sp : Sp} {E : XK}
theorem cr_reprO (G : PromM X.prog X.w X.K X.mg X.base CX k C "__repr__" ps sp) (hr : Room (k + 1) X.A) (hx : Passes CX X E) :
    CallR X (.builtin "repr") (fun xs H Q => ∃ p dx fs, xs = [.ref p] ∧ H p = some (.ins (He.ga X.K C) dx fs) ∧ sp [.ref p] H (fun v H2 => ∃ y : Str, v = .str y ∧ Q (.str y) H2) E) := by
  intro pins s σ H xs us Q I r h
  obtain ⟨p, dx, fs, rfl, hp, h⟩ := h
  obtain ⟨u, rfl, ru⟩ := vals1 r
  obtain rfl : u = Value.ref p := ru
  obtain ⟨m1, O1, _⟩ := ins_get I.hok hp
  obtain ⟨od1, J1, _⟩ := O1.look
  obtain ⟨m, hF⟩ := I.fr
  refine PySem.W.repr_K hr.in1.units0 hF I.ok.mod.kin J1 G.me.at_ G.me.fn ?_
  exact wpAny_mono (run_own G hx (A := X.A.in1) ⟨hr.in1, rfl⟩ (vs := [.ref p]) (us := [.ref p]) I (.cons rfl .nil) h) (fun v s' z => strBack_of z) fun _ _ z => z
end
end Sz
/-! == by an own __eq__ that is promised to say True -/
namespace Sz
open PySem PySem.Spec PyProof.Rows L2
section
variable {X : Cx} {CX : CXT} {k : Nat} {C : Str} {ps : List Str} {R : Addr → Addr → Hp → Prop} {E : XK}
theorem rcG_insP (G : PromM X.prog X.w X.K X.mg X.base CX k C "__eq__" ps (spEq R)) (hx : Passes CX X E) : RcG X k (DIns (He.ga X.K C) R) := by
  obtain ⟨fd, F, b⟩ := G.ex
  exact rcG_ins F G.me.at_ G.me.fn b hx
theorem eqG_insP (G : PromM X.prog X.w X.K X.mg X.base CX k C "__eq__" ps (spEq R)) (hx : Passes CX X E) : EqG X k (DIns (He.ga X.K C) R) := by
  obtain ⟨fd, F, b⟩ := G.ex
  exact eqG_ins F G.me.at_ G.me.fn b hx
end
end Sz
/-! lists or tuples walked, a class with plain parameters, two tuples zipped -/
namespace Sz
open PySem PySem.Spec PyProof.Rows L2
section
variable {X : Cx} {tg l : Expr} {tl : TE}
/-- for x in s, s a list or a tuple -/
theorem pi_seq (hl : PE X l tl) : PI X tg l (fun σ H R => iList X.K tl σ H R ∨ iTup X.K tl σ H R) := by
  refine ⟨fun pins s σ H R I h => ?_⟩
  rcases h with h | h
  · exact (pi_list (tg := tg) hl).run pins s σ H R I h
  · exact (pi_tup (tg := tg) hl).run pins s σ H R I h
end
section
variable {K : PySem.W.Frag} {a b : Addr} {xs ys : List V} {n : Nat}
theorem walk_zipT (hn : n = min xs.length ys.length) : Walk (RZ.ItzT K a b) n (fun H => SqT K H a xs ∧ SqT K H b ys) (YPair (fun i => xs[i]?) (fun i => ys[i]?)) := by
  refine ⟨fun i H hi g => ?_, fun H g => ⟨xs, ys, g.1, g.2, by omega⟩, fun i H x H' hi g y => ?_⟩
  · have h1 : i < xs.length := by omega
    have h2 : i < ys.length := by omega
    exact ⟨xs, ys, xs[i], ys[i], g.1, g.2, List.getElem?_eq_getElem h1, List.getElem?_eq_getElem h2⟩
  · obtain ⟨T, x1, y1, e1, e2, e3, e4, e5⟩ := y
    exact ⟨T, x1, y1, e1, e2, e3, e4 xs g.1, e5 ys g.2⟩
end
section
variable {P : Program} {w : World} {K : PySem.W.Frag} {mg : Str → Option Value} {base : Heap}
/-- a class whose __init__ takes its parameters one by one -/
theorem PromC.plain {C q : Str} {st : Stmt} {N ps : List Str} {sp sp0 : Sp} {k : Nat} (mk : Mk K (He.ga K C) (He.ma K (He.ga K C) "__init__")) (hm : mg C = some (.ref (He.ga K C))) (D : DefAtM K C "__init__" q st) (S : FnScope N ps (defScope st))
    (len : ∀ vs H Q E, sp0 vs H Q E → vs.length = ps.length)
    (hb : ∀ (kV doc pm : Value) (an : Option Addr) (cdv ct : Value) (us : List Value), us.length = ps.length → bindArgs (PySem.W.fnOf "__init__" q (defArgs st) (defBody st) (defScope st) .none kV doc pm an cdv ct) ⟨us, []⟩ = pure (ps.zip us))
    (hbody : ∀ (f : Addr) (cdv : Value) (A : Around) (outer : List Env) (s : Shared) (H : Hp) (vs : List V) (Q : VK) (E : XK), Room k (A.deeper (envOfC q (defScope st) s.heap.objs.size f cdv)) → sp0 vs H Q E →
      ∃ t, PSs (cxOf CX0 P w K mg base N q (defScope st) f cdv A outer s H E).nox (defBody st) t ∧ t { nx := fun _ H' => Q .non H', rt := Q } (start N vs) H)
    (hsp : ∀ vs H Q E, sp vs H Q E → ∀ x dx, H x = none → H dx = none → dx ≠ x → sp0 (.ref x :: vs) (upd (upd H dx (.own x)) x (.ins (He.ga K C) dx [])) (fun u H2 => u = .non ∧ Q (.ref x) H2) E) :
    PromC P w K mg base CX0 (k + 1) C sp := by
  obtain ⟨fd, F⟩ := D
  have F1 : FnOk P w K mg base CX0 (k + 1) (He.ma K (He.ga K C) "__init__") fd ps sp0 := F.ok S len (fun cdv A outer s H vs Q E hr hs => by
    obtain ⟨t, h1, h2⟩ := hbody _ cdv A outer s H vs Q E hr hs
    exact ⟨t, h1.nox, h2⟩)
  refine ⟨mk, hm, _, F1.raw (F.bindsN hb) .nil, fun vs H Q E hs x dx hx hdx ne => ?_⟩
  rw [List.append_nil]
  exact hsp vs H Q E hs x dx hx hdx ne
end
end Sz
namespace Sz
open PySem PySem.Spec PyProof.Rows L2
def top (i : Nat) : Stmt := PySem.Challenge.pw_sizestacks_k34_whole_least_orders_for_a.main.body.getD i (.Pass ⟨0, 0, 0, 0⟩)
abbrev s__wall : Stmt := top 0
theorem sc__wall : FnScope ["k"] ["k"] (defScope s__wall) := ⟨rfl, rfl, rfl, by decide +kernel, rfl, by decide +kernel, by decide +kernel⟩
abbrev s_is_integer : Stmt := top 23
theorem sc_is_integer : FnScope ["value"] ["value"] (defScope s_is_integer) := ⟨rfl, rfl, rfl, by decide +kernel, rfl, by decide +kernel, by decide +kernel⟩
abbrev s_is_between : Stmt := top 24
theorem sc_is_between : FnScope ["value", "least", "most"] ["value", "least", "most"] (defScope s_is_between) := ⟨rfl, rfl, rfl, by decide +kernel, rfl, by decide +kernel, by decide +kernel⟩
abbrev s_check_length : Stmt := top 25
theorem sc_check_length : FnScope ["value"] ["value"] (defScope s_check_length) := ⟨rfl, rfl, rfl, by decide +kernel, rfl, by decide +kernel, by decide +kernel⟩
abbrev s_check_base : Stmt := top 26
theorem sc_check_base : FnScope ["value"] ["value"] (defScope s_check_base) := ⟨rfl, rfl, rfl, by decide +kernel, rfl, by decide +kernel, by decide +kernel⟩
abbrev s_figures_of : Stmt := top 27
theorem sc_figures_of : FnScope ["length", "base", "count", "power", "eight", "turn"] ["length", "base"] (defScope s_figures_of) := ⟨rfl, rfl, rfl, by decide +kernel, rfl, by decide +kernel, by decide +kernel⟩
abbrev s_amount_of : Stmt := top 28
theorem sc_amount_of : FnScope ["word", "amount", "sign"] ["word"] (defScope s_amount_of) := ⟨rfl, rfl, rfl, by decide +kernel, rfl, by decide +kernel, by decide +kernel⟩
abbrev s_fault_in : Stmt := top 33
theorem sc_fault_in : FnScope ["kind", "numbers", "index", "least", "most"] ["kind", "numbers"] (defScope s_fault_in) := ⟨rfl, rfl, rfl, by decide +kernel, rfl, by decide +kernel, by decide +kernel⟩
abbrev s_begun : Stmt := top 34
theorem sc_begun : FnScope ["length", "whole"] ["length", "whole"] (defScope s_begun) := ⟨rfl, rfl, rfl, by decide +kernel, rfl, by decide +kernel, by decide +kernel⟩
abbrev s_total_of : Stmt := top 35
theorem sc_total_of : FnScope ["length", "base", "figures"] ["length", "base"] (defScope s_total_of) := ⟨rfl, rfl, rfl, by decide +kernel, rfl, by decide +kernel, by decide +kernel⟩
abbrev s_Wrap___init__ : Stmt := inClass (top 36) 0
theorem sc_Wrap___init__ : FnScope ["self", "kind", "numbers", "fault", "number"] ["self", "kind", "numbers"] (defScope s_Wrap___init__) := ⟨rfl, rfl, rfl, by decide +kernel, rfl, by decide +kernel, by decide +kernel⟩
abbrev s_Wrap_grown : Stmt := inClass (top 36) 2
theorem sc_Wrap_grown : FnScope ["self", "length", "base", "first", "last"] ["self", "length", "base"] (defScope s_Wrap_grown) := ⟨rfl, rfl, rfl, by decide +kernel, rfl, by decide +kernel, by decide +kernel⟩
abbrev s_Wrap___str__ : Stmt := inClass (top 36) 5
theorem sc_Wrap___str__ : FnScope ["self"] ["self"] (defScope s_Wrap___str__) := ⟨rfl, rfl, rfl, by decide +kernel, rfl, by decide +kernel, by decide +kernel⟩
abbrev s_in_pieces : Stmt := top 37
theorem sc_in_pieces : FnScope ["length", "most", "constant", "base", "size", "rest"] ["length", "most", "constant", "base"] (defScope s_in_pieces) := ⟨rfl, rfl, rfl, by decide +kernel, rfl, by decide +kernel, by decide +kernel⟩
abbrev s_wrap_in : Stmt := top 38
theorem sc_wrap_in : FnScope ["text", "words", "kind", "numbers", "word"] ["text"] (defScope s_wrap_in) := ⟨rfl, rfl, rfl, by decide +kernel, rfl, by decide +kernel, by decide +kernel⟩
abbrev s_check_wrap : Stmt := top 39
theorem sc_check_wrap : FnScope ["value"] ["value"] (defScope s_check_wrap) := ⟨rfl, rfl, rfl, by decide +kernel, rfl, by decide +kernel, by decide +kernel⟩
abbrev s_fineness_of : Stmt := top 41
theorem sc_fineness_of : FnScope ["wraps", "product", "wrap"] ["wraps"] (defScope s_fineness_of) := ⟨rfl, rfl, rfl, by decide +kernel, rfl, by decide +kernel, by decide +kernel⟩
abbrev s_check_wraps : Stmt := top 42
theorem sc_check_wraps : FnScope ["values", "most", "index", "value"] ["values", "most"] (defScope s_check_wraps) := ⟨rfl, rfl, rfl, by decide +kernel, rfl, by decide +kernel, by decide +kernel⟩
abbrev s_Stack___init__ : Stmt := inClass (top 43) 0
theorem sc_Stack___init__ : FnScope ["self", "base", "wraps", "fineness"] ["self", "base", "wraps"] (defScope s_Stack___init__) := ⟨rfl, rfl, rfl, by decide +kernel, rfl, by decide +kernel, by decide +kernel⟩
abbrev s_Stack_grown : Stmt := inClass (top 43) 2
theorem sc_Stack_grown : FnScope ["self", "length", "wrap"] ["self", "length"] (defScope s_Stack_grown) := ⟨rfl, rfl, rfl, by decide +kernel, rfl, by decide +kernel, by decide +kernel⟩
abbrev s_Stack___str__ : Stmt := inClass (top 43) 11
theorem sc_Stack___str__ : FnScope ["self", "wrap"] ["self"] (defScope s_Stack___str__) := ⟨rfl, rfl, rfl, by decide +kernel, rfl, by decide +kernel, by decide +kernel⟩
abbrev s_stack_in : Stmt := top 44
theorem sc_stack_in : FnScope ["text", "rows", "word", "gap", "rest", "base", "wraps", "row"] ["text"] (defScope s_stack_in) := ⟨rfl, rfl, rfl, by decide +kernel, rfl, by decide +kernel, by decide +kernel⟩
abbrev s_check_ordered : Stmt := top 46
theorem sc_check_ordered : FnScope ["wraps"] ["wraps"] (defScope s_check_ordered) := ⟨rfl, rfl, rfl, by decide +kernel, rfl, by decide +kernel, by decide +kernel⟩
abbrev s_rows_of : Stmt := top 47
theorem sc_rows_of : FnScope ["places", "found", "place", "others", "other", "row"] ["places"] (defScope s_rows_of) := ⟨rfl, rfl, rfl, by decide +kernel, rfl, by decide +kernel, by decide +kernel⟩
abbrev s_ordered_stacks : Stmt := top 48
theorem sc_ordered_stacks : FnScope ["base", "wraps", "stacks", "row", "ordered", "place"] ["base", "wraps"] (defScope s_ordered_stacks) := ⟨rfl, rfl, rfl, by decide +kernel, rfl, by decide +kernel, by decide +kernel⟩
abbrev s_orders : Stmt := top 49
theorem sc_orders : FnScope ["base", "wraps", "length", "stacks", "least", "stack"] ["base", "wraps", "length"] (defScope s_orders) := ⟨rfl, rfl, rfl, by decide +kernel, rfl, by decide +kernel, by decide +kernel⟩
abbrev s_L_bowl : Stmt := top 51
theorem sc_L_bowl : FnScope ["_law_script", "_law_k", "_law_kneaded", "_law_entry", "_law_own"] ["_law_script", "_law_k"] (defScope s_L_bowl) := ⟨rfl, rfl, rfl, by decide +kernel, rfl, by decide +kernel, by decide +kernel⟩
abbrev s_L_scoop : Stmt := top 52
theorem sc_L_scoop : FnScope ["_law_bowl_here", "_law_many", "_law_part"] ["_law_bowl_here", "_law_many"] (defScope s_L_scoop) := ⟨rfl, rfl, rfl, by decide +kernel, rfl, by decide +kernel, by decide +kernel⟩
abbrev s_L_one_of : Stmt := top 53
theorem sc_L_one_of : FnScope ["_law_bowl_here", "_law_things"] ["_law_bowl_here", "_law_things"] (defScope s_L_one_of) := ⟨rfl, rfl, rfl, by decide +kernel, rfl, by decide +kernel, by decide +kernel⟩
abbrev s_L_figures : Stmt := top 54
theorem sc_L_figures : FnScope ["_law_n", "_law_root_here", "_law_many"] ["_law_n", "_law_root_here"] (defScope s_L_figures) := ⟨rfl, rfl, rfl, by decide +kernel, rfl, by decide +kernel, by decide +kernel⟩
abbrev s_L_parts : Stmt := top 55
theorem sc_L_parts : FnScope ["_law_n", "_law_whole_part"] ["_law_n", "_law_whole_part"] (defScope s_L_parts) := ⟨rfl, rfl, rfl, by decide +kernel, rfl, by decide +kernel, by decide +kernel⟩
abbrev s_L_grown : Stmt := top 56
theorem sc_L_grown : FnScope ["_law_plan_here", "_law_n", "_law_root_here", "_law_sort", "_law_first", "_law_last", "_law_least_one", "_law_own", "_law_rest", "_law_full", "_law_left", "_law_many", "_law_k", "_law_s"] ["_law_plan_here", "_law_n", "_law_root_here"] (defScope s_L_grown) := ⟨rfl, rfl, rfl, by decide +kernel, rfl, by decide +kernel, by decide +kernel⟩
abbrev s_L_size : Stmt := top 57
theorem sc_L_size : FnScope ["_law_root_here", "_law_plans", "_law_n", "_law_plan_here"] ["_law_root_here", "_law_plans", "_law_n"] (defScope s_L_size) := ⟨rfl, rfl, rfl, by decide +kernel, rfl, by decide +kernel, by decide +kernel⟩
abbrev s_L_small : Stmt := top 58
theorem sc_L_small : FnScope ["_law_bowl_here", "_law_most"] ["_law_bowl_here", "_law_most"] (defScope s_L_small) := ⟨rfl, rfl, rfl, by decide +kernel, rfl, by decide +kernel, by decide +kernel⟩
abbrev s_L_plan : Stmt := top 59
theorem sc_L_plan : FnScope ["_law_bowl_here", "_law_room", "_law_sort", "_law_part"] ["_law_bowl_here", "_law_room"] (defScope s_L_plan) := ⟨rfl, rfl, rfl, by decide +kernel, rfl, by decide +kernel, by decide +kernel⟩
abbrev s_L_fine : Stmt := top 60
theorem sc_L_fine : FnScope ["_law_plan_here"] ["_law_plan_here"] (defScope s_L_fine) := ⟨rfl, rfl, rfl, by decide +kernel, rfl, by decide +kernel, by decide +kernel⟩
abbrev s_L_root : Stmt := top 61
theorem sc_L_root : FnScope ["_law_bowl_here"] ["_law_bowl_here"] (defScope s_L_root) := ⟨rfl, rfl, rfl, by decide +kernel, rfl, by decide +kernel, by decide +kernel⟩
abbrev s_L_wrap : Stmt := top 62
theorem sc_L_wrap : FnScope ["_law_plan_here"] ["_law_plan_here"] (defScope s_L_wrap) := ⟨rfl, rfl, rfl, by decide +kernel, rfl, by decide +kernel, by decide +kernel⟩
abbrev s_L_words : Stmt := top 63
theorem sc_L_words : FnScope ["_law_plan_here", "_law_thing"] ["_law_plan_here"] (defScope s_L_words) := ⟨rfl, rfl, rfl, by decide +kernel, rfl, by decide +kernel, by decide +kernel⟩
abbrev s_L_rows : Stmt := top 64
theorem sc_L_rows : FnScope ["_law_root_here", "_law_plans", "_law_plan_here"] ["_law_root_here", "_law_plans"] (defScope s_L_rows) := ⟨rfl, rfl, rfl, by decide +kernel, rfl, by decide +kernel, by decide +kernel⟩
abbrev s_L_far : Stmt := top 65
theorem sc_L_far : FnScope ["_law_bowl_here", "_law_root_here", "_law_steep", "_law_turn", "_law_near", "_law_any_one"] ["_law_bowl_here", "_law_root_here"] (defScope s_L_far) := ⟨rfl, rfl, rfl, by decide +kernel, rfl, by decide +kernel, by decide +kernel⟩
abbrev s_L_pile : Stmt := top 66
theorem sc_L_pile : FnScope ["_law_bowl_here", "_law_root_here", "_law_most", "_law_room", "_law_found", "_law_heads", "_law_k", "_law_plan_here"] ["_law_bowl_here", "_law_root_here", "_law_most", "_law_room"] (defScope s_L_pile) := ⟨rfl, rfl, rfl, by decide +kernel, rfl, by decide +kernel, by decide +kernel⟩
abbrev s_L_fineness : Stmt := top 67
theorem sc_L_fineness : FnScope ["_law_plans", "_law_product", "_law_plan_here"] ["_law_plans"] (defScope s_L_fineness) := ⟨rfl, rfl, rfl, by decide +kernel, rfl, by decide +kernel, by decide +kernel⟩
abbrev s_L_turns : Stmt := top 68
theorem sc_L_turns : FnScope ["_law_places", "_law_found", "_law_at", "_law_others", "_law_other"] ["_law_places"] (defScope s_L_turns) := ⟨rfl, rfl, rfl, by decide +kernel, rfl, by decide +kernel, by decide +kernel⟩
abbrev s_L_handful : Stmt := top 69
theorem sc_L_handful : FnScope ["_law_bowl_here", "_law_root_here", "_law_most", "_law_found", "_law_twin"] ["_law_bowl_here", "_law_root_here", "_law_most"] (defScope s_L_handful) := ⟨rfl, rfl, rfl, by decide +kernel, rfl, by decide +kernel, by decide +kernel⟩
abbrev s_L_right : Stmt := top 70
theorem sc_L_right : FnScope ["_law_bowl_here", "_law_root_here", "_law_plans", "_law_mates", "_law_handed", "_law_n", "_law_sizes_here", "_law_least", "_law_told", "_law_again", "_law_order", "_law_at", "_law_plan_here", "_law_k", "_law_mate", "_law_thing"] ["_law_bowl_here"] (defScope s_L_right) := ⟨rfl, rfl, rfl, by decide +kernel, rfl, by decide +kernel, by decide +kernel⟩
abbrev s_law : Stmt := top 71
theorem sc_law : FnScope ["_law_script", "_law_k"] ["_law_script"] (defScope s_law) := ⟨rfl, rfl, rfl, by decide +kernel, rfl, by decide +kernel, by decide +kernel⟩
structure Tx (w : World) (K : PySem.W.Frag) (mg : Str → Option Value) : Prop where
  d__wall : DefAt K mg "_wall" s__wall
  d_is_integer : DefAt K mg "is_integer" s_is_integer
  d_is_between : DefAt K mg "is_between" s_is_between
  d_check_length : DefAt K mg "check_length" s_check_length
  d_check_base : DefAt K mg "check_base" s_check_base
  d_figures_of : DefAt K mg "figures_of" s_figures_of
  d_amount_of : DefAt K mg "amount_of" s_amount_of
  d_fault_in : DefAt K mg "fault_in" s_fault_in
  d_begun : DefAt K mg "begun" s_begun
  d_total_of : DefAt K mg "total_of" s_total_of
  d_in_pieces : DefAt K mg "in_pieces" s_in_pieces
  d_wrap_in : DefAt K mg "wrap_in" s_wrap_in
  d_check_wrap : DefAt K mg "check_wrap" s_check_wrap
  d_fineness_of : DefAt K mg "fineness_of" s_fineness_of
  d_check_wraps : DefAt K mg "check_wraps" s_check_wraps
  d_stack_in : DefAt K mg "stack_in" s_stack_in
  d_check_ordered : DefAt K mg "check_ordered" s_check_ordered
  d_rows_of : DefAt K mg "rows_of" s_rows_of
  d_ordered_stacks : DefAt K mg "ordered_stacks" s_ordered_stacks
  d_orders : DefAt K mg "orders" s_orders
  d_L_bowl : DefAt K mg "_law_bowl" s_L_bowl
  d_L_scoop : DefAt K mg "_law_scoop" s_L_scoop
  d_L_one_of : DefAt K mg "_law_one_of" s_L_one_of
  d_L_figures : DefAt K mg "_law_figures" s_L_figures
  d_L_parts : DefAt K mg "_law_parts" s_L_parts
  d_L_grown : DefAt K mg "_law_grown" s_L_grown
  d_L_size : DefAt K mg "_law_size" s_L_size
  d_L_small : DefAt K mg "_law_small" s_L_small
  d_L_plan : DefAt K mg "_law_plan" s_L_plan
  d_L_fine : DefAt K mg "_law_fine" s_L_fine
  d_L_root : DefAt K mg "_law_root" s_L_root
  d_L_wrap : DefAt K mg "_law_wrap" s_L_wrap
  d_L_words : DefAt K mg "_law_words" s_L_words
  d_L_rows : DefAt K mg "_law_rows" s_L_rows
  d_L_far : DefAt K mg "_law_far" s_L_far
  d_L_pile : DefAt K mg "_law_pile" s_L_pile
  d_L_fineness : DefAt K mg "_law_fineness" s_L_fineness
  d_L_turns : DefAt K mg "_law_turns" s_L_turns
  d_L_handful : DefAt K mg "_law_handful" s_L_handful
  d_L_right : DefAt K mg "_law_right" s_L_right
  d_law : DefAt K mg "law" s_law
  b_abs : mg "abs" = none
  b_all : mg "all" = none
  b_divmod : mg "divmod" = none
  b_enumerate : mg "enumerate" = none
  b_int : mg "int" = none
  b_isinstance : mg "isinstance" = none
  b_len : mg "len" = none
  b_list : mg "list" = none
  b_max : mg "max" = none
  b_min : mg "min" = none
  b_range : mg "range" = none
  b_repr : mg "repr" = none
  b_str : mg "str" = none
  b_tuple : mg "tuple" = none
  c_MOST_LENGTH : ∃ u, mg "MOST_LENGTH" = some (.int 1000000000000000000000000000000000000000000000000000000000000 u)
  c_MOST_WRAPS : ∃ u, mg "MOST_WRAPS" = some (.int 6 u)
  c_MOST_FINENESS : ∃ u, mg "MOST_FINENESS" = some (.int 120 u)
  c_MOST_CONSTANT : ∃ u, mg "MOST_CONSTANT" = some (.int 1000 u)
  c_MOST_ORDERED : ∃ u, mg "MOST_ORDERED" = some (.int 4 u)
  c_LEAST_BASE : ∃ u, mg "LEAST_BASE" = some (.int 2 u)
  c_MOST_BASE : ∃ u, mg "MOST_BASE" = some (.int 256 u)
  c_MOST_PIECE : ∃ u, mg "MOST_PIECE" = some (.int 60 u)
  c_MOST_CODE : ∃ u, mg "MOST_CODE" = some (.int 120 u)
  c_TENS : ∃ u, mg "TENS" = some (.str "0123456789" u)
  k_Wrap : mg "Wrap" = some (.ref (He.ga K "Wrap"))
  cl_Wrap : Cls K (He.ga K "Wrap")
  mk_Wrap : Mk K (He.ga K "Wrap") (He.ma K (He.ga K "Wrap") "__init__")
  is_Wrap : IsiK K (He.ga K "Wrap")
  na_Wrap_kind : NoAttr K (He.ga K "Wrap") "kind"
  na_Wrap_numbers : NoAttr K (He.ga K "Wrap") "numbers"
  na_Wrap_words : NoAttr K (He.ga K "Wrap") "words"
  me_Wrap___init__ : Meth K (He.ga K "Wrap") "__init__" (He.ma K (He.ga K "Wrap") "__init__")
  dm_Wrap___init__ : DefAtM K "Wrap" "__init__" "Wrap.__init__" s_Wrap___init__
  me_Wrap_grown : Meth K (He.ga K "Wrap") "grown" (He.ma K (He.ga K "Wrap") "grown")
  dm_Wrap_grown : DefAtM K "Wrap" "grown" "Wrap.grown" s_Wrap_grown
  me_Wrap___str__ : Meth K (He.ga K "Wrap") "__str__" (He.ma K (He.ga K "Wrap") "__str__")
  dm_Wrap___str__ : DefAtM K "Wrap" "__str__" "Wrap.__str__" s_Wrap___str__
  k_Stack : mg "Stack" = some (.ref (He.ga K "Stack"))
  cl_Stack : Cls K (He.ga K "Stack")
  mk_Stack : Mk K (He.ga K "Stack") (He.ma K (He.ga K "Stack") "__init__")
  is_Stack : IsiK K (He.ga K "Stack")
  na_Stack_base : NoAttr K (He.ga K "Stack") "base"
  na_Stack_wraps : NoAttr K (He.ga K "Stack") "wraps"
  na_Stack_fineness : NoAttr K (He.ga K "Stack") "fineness"
  me_Stack___init__ : Meth K (He.ga K "Stack") "__init__" (He.ma K (He.ga K "Stack") "__init__")
  dm_Stack___init__ : DefAtM K "Stack" "__init__" "Stack.__init__" s_Stack___init__
  me_Stack_grown : Meth K (He.ga K "Stack") "grown" (He.ma K (He.ga K "Stack") "grown")
  dm_Stack_grown : DefAtM K "Stack" "grown" "Stack.grown" s_Stack_grown
  me_Stack___str__ : Meth K (He.ga K "Stack") "__str__" (He.ma K (He.ga K "Stack") "__str__")
  dm_Stack___str__ : DefAtM K "Stack" "__str__" "Stack.__str__" s_Stack___str__
  st_Wrap : StrK K (He.ga K "Wrap")
  st_Stack : StrK K (He.ga K "Stack")
  k_RANGES : mg "RANGES" = some (.ref (He.ga K "RANGES"))
  kd : ∃ es n, KDict K w (He.ga K "RANGES") es n
  rg : ∀ a : Wr, Rng K (He.ga K "RANGES") a.kind a.rng
def dd__wall : He.DefD := ⟨("_wall", none), "_wall", "_wall", defArgs s__wall, defBody s__wall, defScope s__wall, [], []⟩
def dd_is_integer : He.DefD := ⟨("is_integer", none), "is_integer", "is_integer", defArgs s_is_integer, defBody s_is_integer, defScope s_is_integer, [], []⟩
def dd_is_between : He.DefD := ⟨("is_between", none), "is_between", "is_between", defArgs s_is_between, defBody s_is_between, defScope s_is_between, [], []⟩
def dd_check_length : He.DefD := ⟨("check_length", none), "check_length", "check_length", defArgs s_check_length, defBody s_check_length, defScope s_check_length, [], []⟩
def dd_check_base : He.DefD := ⟨("check_base", none), "check_base", "check_base", defArgs s_check_base, defBody s_check_base, defScope s_check_base, [], []⟩
def dd_figures_of : He.DefD := ⟨("figures_of", none), "figures_of", "figures_of", defArgs s_figures_of, defBody s_figures_of, defScope s_figures_of, [], []⟩
def dd_amount_of : He.DefD := ⟨("amount_of", none), "amount_of", "amount_of", defArgs s_amount_of, defBody s_amount_of, defScope s_amount_of, [], []⟩
def dd_fault_in : He.DefD := ⟨("fault_in", none), "fault_in", "fault_in", defArgs s_fault_in, defBody s_fault_in, defScope s_fault_in, [], []⟩
def dd_begun : He.DefD := ⟨("begun", none), "begun", "begun", defArgs s_begun, defBody s_begun, defScope s_begun, [], []⟩
def dd_total_of : He.DefD := ⟨("total_of", none), "total_of", "total_of", defArgs s_total_of, defBody s_total_of, defScope s_total_of, [], []⟩
def dd_in_pieces : He.DefD := ⟨("in_pieces", none), "in_pieces", "in_pieces", defArgs s_in_pieces, defBody s_in_pieces, defScope s_in_pieces, [], []⟩
def dd_wrap_in : He.DefD := ⟨("wrap_in", none), "wrap_in", "wrap_in", defArgs s_wrap_in, defBody s_wrap_in, defScope s_wrap_in, [], []⟩
def dd_check_wrap : He.DefD := ⟨("check_wrap", none), "check_wrap", "check_wrap", defArgs s_check_wrap, defBody s_check_wrap, defScope s_check_wrap, [], []⟩
def dd_fineness_of : He.DefD := ⟨("fineness_of", none), "fineness_of", "fineness_of", defArgs s_fineness_of, defBody s_fineness_of, defScope s_fineness_of, [], []⟩
def dd_check_wraps : He.DefD := ⟨("check_wraps", none), "check_wraps", "check_wraps", defArgs s_check_wraps, defBody s_check_wraps, defScope s_check_wraps, [], []⟩
def dd_stack_in : He.DefD := ⟨("stack_in", none), "stack_in", "stack_in", defArgs s_stack_in, defBody s_stack_in, defScope s_stack_in, [], []⟩
def dd_check_ordered : He.DefD := ⟨("check_ordered", none), "check_ordered", "check_ordered", defArgs s_check_ordered, defBody s_check_ordered, defScope s_check_ordered, [], []⟩
def dd_rows_of : He.DefD := ⟨("rows_of", none), "rows_of", "rows_of", defArgs s_rows_of, defBody s_rows_of, defScope s_rows_of, [], []⟩
def dd_ordered_stacks : He.DefD := ⟨("ordered_stacks", none), "ordered_stacks", "ordered_stacks", defArgs s_ordered_stacks, defBody s_ordered_stacks, defScope s_ordered_stacks, [], []⟩
def dd_orders : He.DefD := ⟨("orders", none), "orders", "orders", defArgs s_orders, defBody s_orders, defScope s_orders, [], []⟩
def dd_L_bowl : He.DefD := ⟨("_law_bowl", none), "_law_bowl", "_law_bowl", defArgs s_L_bowl, defBody s_L_bowl, defScope s_L_bowl, [], []⟩
def dd_L_scoop : He.DefD := ⟨("_law_scoop", none), "_law_scoop", "_law_scoop", defArgs s_L_scoop, defBody s_L_scoop, defScope s_L_scoop, [], []⟩
def dd_L_one_of : He.DefD := ⟨("_law_one_of", none), "_law_one_of", "_law_one_of", defArgs s_L_one_of, defBody s_L_one_of, defScope s_L_one_of, [], []⟩
def dd_L_figures : He.DefD := ⟨("_law_figures", none), "_law_figures", "_law_figures", defArgs s_L_figures, defBody s_L_figures, defScope s_L_figures, [], []⟩
def dd_L_parts : He.DefD := ⟨("_law_parts", none), "_law_parts", "_law_parts", defArgs s_L_parts, defBody s_L_parts, defScope s_L_parts, [], []⟩
def dd_L_grown : He.DefD := ⟨("_law_grown", none), "_law_grown", "_law_grown", defArgs s_L_grown, defBody s_L_grown, defScope s_L_grown, [], []⟩
def dd_L_size : He.DefD := ⟨("_law_size", none), "_law_size", "_law_size", defArgs s_L_size, defBody s_L_size, defScope s_L_size, [], []⟩
def dd_L_small : He.DefD := ⟨("_law_small", none), "_law_small", "_law_small", defArgs s_L_small, defBody s_L_small, defScope s_L_small, [], []⟩
def dd_L_plan : He.DefD := ⟨("_law_plan", none), "_law_plan", "_law_plan", defArgs s_L_plan, defBody s_L_plan, defScope s_L_plan, [], []⟩
def dd_L_fine : He.DefD := ⟨("_law_fine", none), "_law_fine", "_law_fine", defArgs s_L_fine, defBody s_L_fine, defScope s_L_fine, [], []⟩
def dd_L_root : He.DefD := ⟨("_law_root", none), "_law_root", "_law_root", defArgs s_L_root, defBody s_L_root, defScope s_L_root, [], []⟩
def dd_L_wrap : He.DefD := ⟨("_law_wrap", none), "_law_wrap", "_law_wrap", defArgs s_L_wrap, defBody s_L_wrap, defScope s_L_wrap, [], []⟩
def dd_L_words : He.DefD := ⟨("_law_words", none), "_law_words", "_law_words", defArgs s_L_words, defBody s_L_words, defScope s_L_words, [], []⟩
def dd_L_rows : He.DefD := ⟨("_law_rows", none), "_law_rows", "_law_rows", defArgs s_L_rows, defBody s_L_rows, defScope s_L_rows, [], []⟩
def dd_L_far : He.DefD := ⟨("_law_far", none), "_law_far", "_law_far", defArgs s_L_far, defBody s_L_far, defScope s_L_far, [], []⟩
def dd_L_pile : He.DefD := ⟨("_law_pile", none), "_law_pile", "_law_pile", defArgs s_L_pile, defBody s_L_pile, defScope s_L_pile, [], []⟩
def dd_L_fineness : He.DefD := ⟨("_law_fineness", none), "_law_fineness", "_law_fineness", defArgs s_L_fineness, defBody s_L_fineness, defScope s_L_fineness, [], []⟩
def dd_L_turns : He.DefD := ⟨("_law_turns", none), "_law_turns", "_law_turns", defArgs s_L_turns, defBody s_L_turns, defScope s_L_turns, [], []⟩
def dd_L_handful : He.DefD := ⟨("_law_handful", none), "_law_handful", "_law_handful", defArgs s_L_handful, defBody s_L_handful, defScope s_L_handful, [], []⟩
def dd_L_right : He.DefD := ⟨("_law_right", none), "_law_right", "_law_right", defArgs s_L_right, defBody s_L_right, defScope s_L_right, [], []⟩
def dd_law : He.DefD := ⟨("law", none), "law", "law", defArgs s_law, defBody s_law, defScope s_law, [], []⟩
def dd_Wrap___init__ : He.DefD := ⟨("Wrap", some "__init__"), "__init__", "Wrap.__init__", defArgs s_Wrap___init__, defBody s_Wrap___init__, defScope s_Wrap___init__, [], []⟩
def dd_Wrap_grown : He.DefD := ⟨("Wrap", some "grown"), "grown", "Wrap.grown", defArgs s_Wrap_grown, defBody s_Wrap_grown, defScope s_Wrap_grown, [], []⟩
def dd_Wrap___str__ : He.DefD := ⟨("Wrap", some "__str__"), "__str__", "Wrap.__str__", defArgs s_Wrap___str__, defBody s_Wrap___str__, defScope s_Wrap___str__, [], []⟩
def dd_Stack___init__ : He.DefD := ⟨("Stack", some "__init__"), "__init__", "Stack.__init__", defArgs s_Stack___init__, defBody s_Stack___init__, defScope s_Stack___init__, [], []⟩
def dd_Stack_grown : He.DefD := ⟨("Stack", some "grown"), "grown", "Stack.grown", defArgs s_Stack_grown, defBody s_Stack_grown, defScope s_Stack_grown, [], []⟩
def dd_Stack___str__ : He.DefD := ⟨("Stack", some "__str__"), "__str__", "Stack.__str__", defArgs s_Stack___str__, defBody s_Stack___str__, defScope s_Stack___str__, [], []⟩
def fnL : List He.DefD := [dd__wall, dd_is_integer, dd_is_between, dd_check_length, dd_check_base, dd_figures_of, dd_amount_of, dd_fault_in, dd_begun, dd_total_of, dd_in_pieces, dd_wrap_in, dd_check_wrap, dd_fineness_of, dd_check_wraps, dd_stack_in, dd_check_ordered, dd_rows_of, dd_ordered_stacks, dd_orders, dd_L_bowl, dd_L_scoop, dd_L_one_of, dd_L_figures, dd_L_parts, dd_L_grown, dd_L_size, dd_L_small, dd_L_plan, dd_L_fine, dd_L_root, dd_L_wrap, dd_L_words, dd_L_rows, dd_L_far, dd_L_pile, dd_L_fineness, dd_L_turns, dd_L_handful, dd_L_right, dd_law, dd_Wrap___init__, dd_Wrap_grown, dd_Wrap___str__, dd_Stack___init__, dd_Stack_grown, dd_Stack___str__]
def faL : List He.Fa := [.glo "_wall", .glo "is_integer", .glo "is_between", .glo "check_length", .glo "check_base", .glo "figures_of", .glo "amount_of", .glo "fault_in", .glo "begun", .glo "total_of", .glo "in_pieces", .glo "wrap_in", .glo "check_wrap", .glo "fineness_of", .glo "check_wraps", .glo "stack_in", .glo "check_ordered", .glo "rows_of", .glo "ordered_stacks", .glo "orders", .glo "_law_bowl", .glo "_law_scoop", .glo "_law_one_of", .glo "_law_figures", .glo "_law_parts", .glo "_law_grown", .glo "_law_size", .glo "_law_small", .glo "_law_plan", .glo "_law_fine", .glo "_law_root", .glo "_law_wrap", .glo "_law_words", .glo "_law_rows", .glo "_law_far", .glo "_law_pile", .glo "_law_fineness", .glo "_law_turns", .glo "_law_handful", .glo "_law_right", .glo "law", .free "abs", .free "all", .free "divmod", .free "enumerate", .free "int", .free "isinstance", .free "len", .free "list", .free "max", .free "min", .free "range", .free "repr", .free "str", .free "tuple", .int "MOST_LENGTH" 1000000000000000000000000000000000000000000000000000000000000, .int "MOST_WRAPS" 6, .int "MOST_FINENESS" 120, .int "MOST_CONSTANT" 1000, .int "MOST_ORDERED" 4, .int "LEAST_BASE" 2, .int "MOST_BASE" 256, .int "MOST_PIECE" 60, .int "MOST_CODE" 120, .str "TENS" "0123456789", .glo "Wrap", .cls "Wrap", .mkr "Wrap", .noat "Wrap" "kind", .noat "Wrap" "numbers", .noat "Wrap" "words", .meth "Wrap" "__init__", .meth "Wrap" "grown", .meth "Wrap" "__str__", .glo "Stack", .cls "Stack", .mkr "Stack", .noat "Stack" "base", .noat "Stack" "wraps", .noat "Stack" "fineness", .meth "Stack" "__init__", .meth "Stack" "grown", .meth "Stack" "__str__", .glo "RANGES"]
def loose0 : List Str := ["_wall", "is_integer", "is_between", "check_length", "check_base", "figures_of", "amount_of", "fault_in", "begun", "total_of", "in_pieces", "wrap_in", "check_wrap", "fineness_of", "check_wraps", "stack_in", "check_ordered", "rows_of", "ordered_stacks", "orders", "_law_bowl", "_law_scoop", "_law_one_of", "_law_figures", "_law_parts", "_law_grown", "_law_size", "_law_small", "_law_plan", "_law_fine"]
def loose1 : List Str := ["_law_root", "_law_wrap", "_law_words", "_law_rows", "_law_far", "_law_pile", "_law_fineness", "_law_turns", "_law_handful", "_law_right", "Misfit", "Excess", "NotAWrap", "InvalidKind", "InvalidBase", "InvalidLength", "InvalidNumber", "InvalidText", "InvalidNumbers", "InvalidWraps", "TooFine", "TooManyWraps", "Wrap", "Stack", "MOST_LENGTH", "MOST_WRAPS", "MOST_FINENESS", "MOST_CONSTANT", "MOST_ORDERED", "TENS"]
def loose2 : List Str := ["LEAST_BASE", "MOST_BASE", "MOST_PIECE", "MOST_CODE", "RANGES"]
def looseL : List Str := loose0 ++ loose1 ++ loose2
abbrev RR : PySem.W.OpenRow := PySem.W.OpenLaw.row PySem.Challenge.rw_sizestacks_k34_whole_least_orders_for_a
def tabL : List He.Tab := [(fun K => He.ga K "RANGES", ["plus", "told", "whole", "pieces", "cut", "coded", "filled"])]
def fbL (K : PySem.W.Frag) : Bool := [isiB K (He.ga K "Wrap"), isiB K (He.ga K "Stack"), strB K (He.ga K "Wrap"), strB K (He.ga K "Stack"), rngB K (He.ga K "RANGES") (Wr.plus 0).kind (Wr.plus 0).rng, rngB K (He.ga K "RANGES") (Wr.told 0).kind (Wr.told 0).rng, rngB K (He.ga K "RANGES") (Wr.whole 0).kind (Wr.whole 0).rng, rngB K (He.ga K "RANGES") (Wr.pieces 0 0).kind (Wr.pieces 0 0).rng, rngB K (He.ga K "RANGES") (Wr.cut 0 0).kind (Wr.cut 0 0).rng, rngB K (He.ga K "RANGES") (Wr.coded 0 0).kind (Wr.coded 0 0).rng, rngB K (He.ga K "RANGES") (Wr.filled 0).kind (Wr.filled 0).rng].all id
abbrev hk : PySem.W.Hook := hookX 5 fbL faL fnL tabL
def ob (z : PySem.W.SharedT) : AlX := obsXG 5 fbL faL fnL tabL (HandSHeadRun.getT z)
theorem ob_eq (z : PySem.W.SharedT) : ob z = hk.obs z.abs := obsXG_eq (HandSHeadRun.getT_eq z)
theorem runF (w : World) : HandSHeadRun.RunEq RR (PySem.W.view RR.prog [71]) hk ob 30000 looseL (w.withFollow "special-get-raises" false) := by
  intro os
  kernel_rfl
theorem runT (w : World) : HandSHeadRun.RunEq RR (PySem.W.view RR.prog [71]) hk ob 30000 looseL (w.withFollow "special-get-raises" true) := by
  intro os
  kernel_rfl
theorem run (w : World) : HandSHeadRun.RunEq RR (PySem.W.view RR.prog [71]) hk ob 30000 looseL w :=
  PySem.W.byRow2 "special-get-raises" (P := fun w => HandSHeadRun.RunEq RR (PySem.W.view RR.prog [71]) hk ob 30000 looseL w) runF runT w
theorem tx_of {w : World} {K : PySem.W.Frag} {h : Heap} {mg : Str → Option Value} (X : K.In h) (G : h.Ns mainGlobals mg) (c0 : SaysX fbL faL fnL tabL w K) : Tx w K mg := by
  have c : He.SaysD faL fnL K := c0.t.d
  exact {
    d__wall := let ⟨fd, F⟩ := c.def_ 0 (d := dd__wall) rfl; ⟨_, fd, F, He.glo_ok X G (c.fact 0 (f := .glo "_wall") rfl)⟩,
    d_is_integer := let ⟨fd, F⟩ := c.def_ 1 (d := dd_is_integer) rfl; ⟨_, fd, F, He.glo_ok X G (c.fact 1 (f := .glo "is_integer") rfl)⟩,
    d_is_between := let ⟨fd, F⟩ := c.def_ 2 (d := dd_is_between) rfl; ⟨_, fd, F, He.glo_ok X G (c.fact 2 (f := .glo "is_between") rfl)⟩,
    d_check_length := let ⟨fd, F⟩ := c.def_ 3 (d := dd_check_length) rfl; ⟨_, fd, F, He.glo_ok X G (c.fact 3 (f := .glo "check_length") rfl)⟩,
    d_check_base := let ⟨fd, F⟩ := c.def_ 4 (d := dd_check_base) rfl; ⟨_, fd, F, He.glo_ok X G (c.fact 4 (f := .glo "check_base") rfl)⟩,
    d_figures_of := let ⟨fd, F⟩ := c.def_ 5 (d := dd_figures_of) rfl; ⟨_, fd, F, He.glo_ok X G (c.fact 5 (f := .glo "figures_of") rfl)⟩,
    d_amount_of := let ⟨fd, F⟩ := c.def_ 6 (d := dd_amount_of) rfl; ⟨_, fd, F, He.glo_ok X G (c.fact 6 (f := .glo "amount_of") rfl)⟩,
    d_fault_in := let ⟨fd, F⟩ := c.def_ 7 (d := dd_fault_in) rfl; ⟨_, fd, F, He.glo_ok X G (c.fact 7 (f := .glo "fault_in") rfl)⟩,
    d_begun := let ⟨fd, F⟩ := c.def_ 8 (d := dd_begun) rfl; ⟨_, fd, F, He.glo_ok X G (c.fact 8 (f := .glo "begun") rfl)⟩,
    d_total_of := let ⟨fd, F⟩ := c.def_ 9 (d := dd_total_of) rfl; ⟨_, fd, F, He.glo_ok X G (c.fact 9 (f := .glo "total_of") rfl)⟩,
    d_in_pieces := let ⟨fd, F⟩ := c.def_ 10 (d := dd_in_pieces) rfl; ⟨_, fd, F, He.glo_ok X G (c.fact 10 (f := .glo "in_pieces") rfl)⟩,
    d_wrap_in := let ⟨fd, F⟩ := c.def_ 11 (d := dd_wrap_in) rfl; ⟨_, fd, F, He.glo_ok X G (c.fact 11 (f := .glo "wrap_in") rfl)⟩,
    d_check_wrap := let ⟨fd, F⟩ := c.def_ 12 (d := dd_check_wrap) rfl; ⟨_, fd, F, He.glo_ok X G (c.fact 12 (f := .glo "check_wrap") rfl)⟩,
    d_fineness_of := let ⟨fd, F⟩ := c.def_ 13 (d := dd_fineness_of) rfl; ⟨_, fd, F, He.glo_ok X G (c.fact 13 (f := .glo "fineness_of") rfl)⟩,
    d_check_wraps := let ⟨fd, F⟩ := c.def_ 14 (d := dd_check_wraps) rfl; ⟨_, fd, F, He.glo_ok X G (c.fact 14 (f := .glo "check_wraps") rfl)⟩,
    d_stack_in := let ⟨fd, F⟩ := c.def_ 15 (d := dd_stack_in) rfl; ⟨_, fd, F, He.glo_ok X G (c.fact 15 (f := .glo "stack_in") rfl)⟩,
    d_check_ordered := let ⟨fd, F⟩ := c.def_ 16 (d := dd_check_ordered) rfl; ⟨_, fd, F, He.glo_ok X G (c.fact 16 (f := .glo "check_ordered") rfl)⟩,
    d_rows_of := let ⟨fd, F⟩ := c.def_ 17 (d := dd_rows_of) rfl; ⟨_, fd, F, He.glo_ok X G (c.fact 17 (f := .glo "rows_of") rfl)⟩,
    d_ordered_stacks := let ⟨fd, F⟩ := c.def_ 18 (d := dd_ordered_stacks) rfl; ⟨_, fd, F, He.glo_ok X G (c.fact 18 (f := .glo "ordered_stacks") rfl)⟩,
    d_orders := let ⟨fd, F⟩ := c.def_ 19 (d := dd_orders) rfl; ⟨_, fd, F, He.glo_ok X G (c.fact 19 (f := .glo "orders") rfl)⟩,
    d_L_bowl := let ⟨fd, F⟩ := c.def_ 20 (d := dd_L_bowl) rfl; ⟨_, fd, F, He.glo_ok X G (c.fact 20 (f := .glo "_law_bowl") rfl)⟩,
    d_L_scoop := let ⟨fd, F⟩ := c.def_ 21 (d := dd_L_scoop) rfl; ⟨_, fd, F, He.glo_ok X G (c.fact 21 (f := .glo "_law_scoop") rfl)⟩,
    d_L_one_of := let ⟨fd, F⟩ := c.def_ 22 (d := dd_L_one_of) rfl; ⟨_, fd, F, He.glo_ok X G (c.fact 22 (f := .glo "_law_one_of") rfl)⟩,
    d_L_figures := let ⟨fd, F⟩ := c.def_ 23 (d := dd_L_figures) rfl; ⟨_, fd, F, He.glo_ok X G (c.fact 23 (f := .glo "_law_figures") rfl)⟩,
    d_L_parts := let ⟨fd, F⟩ := c.def_ 24 (d := dd_L_parts) rfl; ⟨_, fd, F, He.glo_ok X G (c.fact 24 (f := .glo "_law_parts") rfl)⟩,
    d_L_grown := let ⟨fd, F⟩ := c.def_ 25 (d := dd_L_grown) rfl; ⟨_, fd, F, He.glo_ok X G (c.fact 25 (f := .glo "_law_grown") rfl)⟩,
    d_L_size := let ⟨fd, F⟩ := c.def_ 26 (d := dd_L_size) rfl; ⟨_, fd, F, He.glo_ok X G (c.fact 26 (f := .glo "_law_size") rfl)⟩,
    d_L_small := let ⟨fd, F⟩ := c.def_ 27 (d := dd_L_small) rfl; ⟨_, fd, F, He.glo_ok X G (c.fact 27 (f := .glo "_law_small") rfl)⟩,
    d_L_plan := let ⟨fd, F⟩ := c.def_ 28 (d := dd_L_plan) rfl; ⟨_, fd, F, He.glo_ok X G (c.fact 28 (f := .glo "_law_plan") rfl)⟩,
    d_L_fine := let ⟨fd, F⟩ := c.def_ 29 (d := dd_L_fine) rfl; ⟨_, fd, F, He.glo_ok X G (c.fact 29 (f := .glo "_law_fine") rfl)⟩,
    d_L_root := let ⟨fd, F⟩ := c.def_ 30 (d := dd_L_root) rfl; ⟨_, fd, F, He.glo_ok X G (c.fact 30 (f := .glo "_law_root") rfl)⟩,
    d_L_wrap := let ⟨fd, F⟩ := c.def_ 31 (d := dd_L_wrap) rfl; ⟨_, fd, F, He.glo_ok X G (c.fact 31 (f := .glo "_law_wrap") rfl)⟩,
    d_L_words := let ⟨fd, F⟩ := c.def_ 32 (d := dd_L_words) rfl; ⟨_, fd, F, He.glo_ok X G (c.fact 32 (f := .glo "_law_words") rfl)⟩,
    d_L_rows := let ⟨fd, F⟩ := c.def_ 33 (d := dd_L_rows) rfl; ⟨_, fd, F, He.glo_ok X G (c.fact 33 (f := .glo "_law_rows") rfl)⟩,
    d_L_far := let ⟨fd, F⟩ := c.def_ 34 (d := dd_L_far) rfl; ⟨_, fd, F, He.glo_ok X G (c.fact 34 (f := .glo "_law_far") rfl)⟩,
    d_L_pile := let ⟨fd, F⟩ := c.def_ 35 (d := dd_L_pile) rfl; ⟨_, fd, F, He.glo_ok X G (c.fact 35 (f := .glo "_law_pile") rfl)⟩,
    d_L_fineness := let ⟨fd, F⟩ := c.def_ 36 (d := dd_L_fineness) rfl; ⟨_, fd, F, He.glo_ok X G (c.fact 36 (f := .glo "_law_fineness") rfl)⟩,
    d_L_turns := let ⟨fd, F⟩ := c.def_ 37 (d := dd_L_turns) rfl; ⟨_, fd, F, He.glo_ok X G (c.fact 37 (f := .glo "_law_turns") rfl)⟩,
    d_L_handful := let ⟨fd, F⟩ := c.def_ 38 (d := dd_L_handful) rfl; ⟨_, fd, F, He.glo_ok X G (c.fact 38 (f := .glo "_law_handful") rfl)⟩,
    d_L_right := let ⟨fd, F⟩ := c.def_ 39 (d := dd_L_right) rfl; ⟨_, fd, F, He.glo_ok X G (c.fact 39 (f := .glo "_law_right") rfl)⟩,
    d_law := let ⟨fd, F⟩ := c.def_ 40 (d := dd_law) rfl; ⟨_, fd, F, He.glo_ok X G (c.fact 40 (f := .glo "law") rfl)⟩,
    b_abs := He.free_ok X G (c.fact 41 (f := .free "abs") rfl),
    b_all := He.free_ok X G (c.fact 42 (f := .free "all") rfl),
    b_divmod := He.free_ok X G (c.fact 43 (f := .free "divmod") rfl),
    b_enumerate := He.free_ok X G (c.fact 44 (f := .free "enumerate") rfl),
    b_int := He.free_ok X G (c.fact 45 (f := .free "int") rfl),
    b_isinstance := He.free_ok X G (c.fact 46 (f := .free "isinstance") rfl),
    b_len := He.free_ok X G (c.fact 47 (f := .free "len") rfl),
    b_list := He.free_ok X G (c.fact 48 (f := .free "list") rfl),
    b_max := He.free_ok X G (c.fact 49 (f := .free "max") rfl),
    b_min := He.free_ok X G (c.fact 50 (f := .free "min") rfl),
    b_range := He.free_ok X G (c.fact 51 (f := .free "range") rfl),
    b_repr := He.free_ok X G (c.fact 52 (f := .free "repr") rfl),
    b_str := He.free_ok X G (c.fact 53 (f := .free "str") rfl),
    b_tuple := He.free_ok X G (c.fact 54 (f := .free "tuple") rfl),
    c_MOST_LENGTH := He.int_ok X G (c.fact 55 (f := .int "MOST_LENGTH" 1000000000000000000000000000000000000000000000000000000000000) rfl),
    c_MOST_WRAPS := He.int_ok X G (c.fact 56 (f := .int "MOST_WRAPS" 6) rfl),
    c_MOST_FINENESS := He.int_ok X G (c.fact 57 (f := .int "MOST_FINENESS" 120) rfl),
    c_MOST_CONSTANT := He.int_ok X G (c.fact 58 (f := .int "MOST_CONSTANT" 1000) rfl),
    c_MOST_ORDERED := He.int_ok X G (c.fact 59 (f := .int "MOST_ORDERED" 4) rfl),
    c_LEAST_BASE := He.int_ok X G (c.fact 60 (f := .int "LEAST_BASE" 2) rfl),
    c_MOST_BASE := He.int_ok X G (c.fact 61 (f := .int "MOST_BASE" 256) rfl),
    c_MOST_PIECE := He.int_ok X G (c.fact 62 (f := .int "MOST_PIECE" 60) rfl),
    c_MOST_CODE := He.int_ok X G (c.fact 63 (f := .int "MOST_CODE" 120) rfl),
    c_TENS := He.str_ok X G (c.fact 64 (f := .str "TENS" "0123456789") rfl),
    k_Wrap := He.glo_ok X G (c.fact 65 (f := .glo "Wrap") rfl),
    cl_Wrap := He.cls_ok (c.fact 66 (f := .cls "Wrap") rfl),
    mk_Wrap := He.mkr_ok (c.fact 67 (f := .mkr "Wrap") rfl),
    na_Wrap_kind := He.noat_ok (c.fact 68 (f := .noat "Wrap" "kind") rfl),
    na_Wrap_numbers := He.noat_ok (c.fact 69 (f := .noat "Wrap" "numbers") rfl),
    na_Wrap_words := He.noat_ok (c.fact 70 (f := .noat "Wrap" "words") rfl),
    me_Wrap___init__ := He.meth_ok (c.fact 71 (f := .meth "Wrap" "__init__") rfl),
    me_Wrap_grown := He.meth_ok (c.fact 72 (f := .meth "Wrap" "grown") rfl),
    me_Wrap___str__ := He.meth_ok (c.fact 73 (f := .meth "Wrap" "__str__") rfl),
    k_Stack := He.glo_ok X G (c.fact 74 (f := .glo "Stack") rfl),
    cl_Stack := He.cls_ok (c.fact 75 (f := .cls "Stack") rfl),
    mk_Stack := He.mkr_ok (c.fact 76 (f := .mkr "Stack") rfl),
    na_Stack_base := He.noat_ok (c.fact 77 (f := .noat "Stack" "base") rfl),
    na_Stack_wraps := He.noat_ok (c.fact 78 (f := .noat "Stack" "wraps") rfl),
    na_Stack_fineness := He.noat_ok (c.fact 79 (f := .noat "Stack" "fineness") rfl),
    me_Stack___init__ := He.meth_ok (c.fact 80 (f := .meth "Stack" "__init__") rfl),
    me_Stack_grown := He.meth_ok (c.fact 81 (f := .meth "Stack" "grown") rfl),
    me_Stack___str__ := He.meth_ok (c.fact 82 (f := .meth "Stack" "__str__") rfl),
    k_RANGES := He.glo_ok X G (c.fact 83 (f := .glo "RANGES") rfl),
    dm_Wrap___init__ := c.def_ 41 (d := dd_Wrap___init__) rfl,
    dm_Wrap_grown := c.def_ 42 (d := dd_Wrap_grown) rfl,
    dm_Wrap___str__ := c.def_ 43 (d := dd_Wrap___str__) rfl,
    dm_Stack___init__ := c.def_ 44 (d := dd_Stack___init__) rfl,
    dm_Stack_grown := c.def_ 45 (d := dd_Stack_grown) rfl,
    dm_Stack___str__ := c.def_ 46 (d := dd_Stack___str__) rfl,
    kd := c0.t.tab 0 (t := (fun K => He.ga K "RANGES", ["plus", "told", "whole", "pieces", "cut", "coded", "filled"])) rfl,
    rg := fun a => by
      cases a with
      | plus _ => exact rngB_ok (K := K) (kd := (Wr.plus 0).kind) (qs := (Wr.plus 0).rng) (List.all_eq_true.mp c0.b _ (.tail _ (.tail _ (.tail _ (.tail _ (.head _))))))
      | told _ => exact rngB_ok (K := K) (kd := (Wr.told 0).kind) (qs := (Wr.told 0).rng) (List.all_eq_true.mp c0.b _ (.tail _ (.tail _ (.tail _ (.tail _ (.tail _ (.head _)))))))
      | whole _ => exact rngB_ok (K := K) (kd := (Wr.whole 0).kind) (qs := (Wr.whole 0).rng) (List.all_eq_true.mp c0.b _ (.tail _ (.tail _ (.tail _ (.tail _ (.tail _ (.tail _ (.head _))))))))
      | pieces _ _ => exact rngB_ok (K := K) (kd := (Wr.pieces 0 0).kind) (qs := (Wr.pieces 0 0).rng) (List.all_eq_true.mp c0.b _ (.tail _ (.tail _ (.tail _ (.tail _ (.tail _ (.tail _ (.tail _ (.head _)))))))))
      | cut _ _ => exact rngB_ok (K := K) (kd := (Wr.cut 0 0).kind) (qs := (Wr.cut 0 0).rng) (List.all_eq_true.mp c0.b _ (.tail _ (.tail _ (.tail _ (.tail _ (.tail _ (.tail _ (.tail _ (.tail _ (.head _))))))))))
      | coded _ _ => exact rngB_ok (K := K) (kd := (Wr.coded 0 0).kind) (qs := (Wr.coded 0 0).rng) (List.all_eq_true.mp c0.b _ (.tail _ (.tail _ (.tail _ (.tail _ (.tail _ (.tail _ (.tail _ (.tail _ (.tail _ (.head _)))))))))))
      | filled _ => exact rngB_ok (K := K) (kd := (Wr.filled 0).kind) (qs := (Wr.filled 0).rng) (List.all_eq_true.mp c0.b _ (.tail _ (.tail _ (.tail _ (.tail _ (.tail _ (.tail _ (.tail _ (.tail _ (.tail _ (.tail _ (.head _)))))))))))),
    is_Wrap := isiB_ok (He.cls_ok (c.fact 66 (f := .cls "Wrap") rfl)) (List.all_eq_true.mp c0.b _ (.head _)),
    is_Stack := isiB_ok (He.cls_ok (c.fact 75 (f := .cls "Stack") rfl)) (List.all_eq_true.mp c0.b _ (.tail _ (.head _))),
    st_Wrap := strB_ok (List.all_eq_true.mp c0.b _ (.tail _ (.tail _ (.head _)))),
    st_Stack := strB_ok (List.all_eq_true.mp c0.b _ (.tail _ (.tail _ (.tail _ (.head _))))) }
def spLaw (K : PySem.W.Frag) : Sp := fun vs H Q _ => ∃ (a : Addr) (ns : List Int), vs = [.ref a] ∧ SqL K H a (ns.map V.int) ∧ ns.length ≤ 63 ∧ (∀ z ∈ ns, Builtin.Int.intBits z ≤ 1048576) ∧ ∀ H', Q (.bl true) H'

/-! ### what a number is (for numbers alone) -/
def spIsInt : Sp := fun vs H Q _ => ∃ i : Int, vs = [.int i] ∧ Q (.bl true) H
def spBetween : Sp := fun vs H Q _ => ∃ v l m : Int, vs = [.int v, .int l, .int m] ∧ Q (.bl (decide (l ≤ v ∧ v ≤ m))) H
def spLength : Sp := fun vs H Q _ => ∃ n : Int, vs = [.int n] ∧ 0 ≤ n ∧ n ≤ 10 ^ 60 - 1 ∧ Q .non H
def spBase : Sp := fun vs H Q _ => ∃ n : Int, vs = [.int n] ∧ 2 ≤ n ∧ n ≤ 256 ∧ Q .non H
def spFig : Sp := fun vs H Q _ => ∃ n b : Int, vs = [.int n, .int b] ∧ 2 ≤ b ∧ b ≤ 256 ∧ n < 2 ^ 4000 ∧ ∀ k, IsF b n k → Q (.int k) H
section
variable {P : Program} {w : World} {K : PySem.W.Frag} {mg : Str → Option Value} {base : Heap}
theorem ok_is_integer (T : Tx w K mg) : Prom P w K mg base CX0 1 "is_integer" s_is_integer ["value"] spIsInt := by
  refine Prom.of T.d_is_integer sc_is_integer (fun vs H Q E h => ?_) (fun _ _ _ _ _ _ us hl => match us, hl with | [_], _ => rfl) (fun f cdv A outer s H vs Q E hr h => ?_)
  · obtain ⟨i, rfl, _⟩ := h
    rfl
  · obtain ⟨i, rfl, k⟩ := h
    refine ⟨_, (pss_one (ps_ret (pe_and (pe_callB call_isi (by rfl) T.b_isinstance (by decide +kernel) (pa_cons (pv 0) (pa_cons (pe_bltn (v := .ty "int") (by rfl) T.b_int (by decide +kernel) rfl) pa_nil))) (pe_and (pe_cmpR op_isnotBl (pv 0) pe_bl (nomark _)) (pe_one (pe_cmpR op_isnotBl (pv 0) pe_bl (nomark _))))))), ?_⟩
    refine ⟨_, rfl, _, _, _, _, true, rfl, .ty _, .base (.int _), kit_ty (by decide +kernel), true, rfl, iteT ?_⟩
    refine ⟨_, rfl, _, rfl, true, rfl, iteT ?_⟩
    exact ⟨_, rfl, _, rfl, k⟩
theorem ok_is_between (T : Tx w K mg) : Prom P w K mg base CX0 2 "is_between" s_is_between ["value", "least", "most"] spBetween := by
  refine Prom.of T.d_is_between sc_is_between (fun vs H Q E h => ?_) (fun _ _ _ _ _ _ us hl => match us, hl with | [_, _, _], _ => rfl) (fun f cdv A outer s H vs Q E hr h => ?_)
  · obtain ⟨v, l, m, rfl, _⟩ := h
    rfl
  · obtain ⟨v, l, m, rfl, k⟩ := h
    refine ⟨_, (pss_one (ps_ret (pe_and (pe_callP (ok_is_integer T) (hr.mono (by decide)) (by rfl) pass0 (pa_cons (pv 0) pa_nil)) (pe_one (pe_chain op_le op_le (pv 1) (pv 0) (pv 2)))))), ?_⟩
    refine ⟨_, rfl, v, rfl, true, rfl, iteT ?_⟩
    refine ⟨_, rfl, _, rfl, _, _, rfl, rfl, _, rfl, ifd (fun h1 => ?_) (fun h1 => ?_)⟩
    · refine ⟨_, rfl, _, _, rfl, rfl, ?_⟩
      show Q (.bl (decide (v ≤ m))) H
      have e : decide (v ≤ m) = decide (l ≤ v ∧ v ≤ m) := by simp [h1]
      rw [e]
      exact k
    · show Q (.bl false) H
      have e : false = decide (l ≤ v ∧ v ≤ m) := by simp [h1]
      rw [e]
      exact k
end
section
variable {P : Program} {w : World} {K : PySem.W.Frag} {mg : Str → Option Value} {base : Heap}
theorem ok_check_length (T : Tx w K mg) : Prom P w K mg base CX0 3 "check_length" s_check_length ["value"] spLength := by
  refine Prom.of T.d_check_length sc_check_length (fun vs H Q E h => ?_) (fun _ _ _ _ _ _ us hl => match us, hl with | [_], _ => rfl) (fun f cdv A outer s H vs Q E hr h => ?_)
  · obtain ⟨i, rfl, _⟩ := h
    rfl
  · obtain ⟨i, rfl, h0, h1, k⟩ := h
    refine ⟨_, (pss_one (ps_if (pt_not (pt_val (pe_callP (ok_is_between T) (hr.mono (by decide)) (by rfl) pass0 (pa_cons (pv 0) (pa_cons pe_int (pa_cons (pe_op op_sub (pe_gint T.c_MOST_LENGTH) pe_int) pa_nil)))))) (pss_one ps_never) pss_nil)), ?_⟩
    refine ⟨_, rfl, _, _, rfl, rfl, _, _, _, rfl, _, rfl, ?_⟩
    exact ifn (fun c => absurd (show (0 : Int) ≤ i ∧ i ≤ _ from ⟨h0, by omega⟩) c) (fun _ => k)
end
section
variable {P : Program} {w : World} {K : PySem.W.Frag} {mg : Str → Option Value} {base : Heap}
theorem ok_check_base (T : Tx w K mg) : Prom P w K mg base CX0 3 "check_base" s_check_base ["value"] spBase := by
  refine Prom.of T.d_check_base sc_check_base (fun vs H Q E h => ?_) (fun _ _ _ _ _ _ us hl => match us, hl with | [_], _ => rfl) (fun f cdv A outer s H vs Q E hr h => ?_)
  · obtain ⟨i, rfl, _⟩ := h
    rfl
  · obtain ⟨i, rfl, h0, h1, k⟩ := h
    refine ⟨_, (pss_one (ps_if (pt_not (pt_val (pe_callP (ok_is_between T) (hr.mono (by decide)) (by rfl) pass0 (pa_cons (pv 0) (pa_cons (pe_gint T.c_LEAST_BASE) (pa_cons (pe_gint T.c_MOST_BASE) pa_nil)))))) (pss_one ps_never) pss_nil)), ?_⟩
    refine ⟨_, rfl, _, _, _, rfl, _, rfl, ?_⟩
    exact ifn (fun c => absurd (show (2 : Int) ≤ i ∧ i ≤ 256 from ⟨h0, h1⟩) c) (fun _ => k)
end
section
variable {P : Program} {w : World} {K : PySem.W.Frag} {mg : Str → Option Value} {base : Heap}
theorem fig_mul {b p e n : Int} {j : Nat} (hb : 2 ≤ b) (hb2 : b ≤ 256) (hn : n < 2 ^ 4000) (hp : p = b ^ (j + 1)) (hj : j = 0 ∨ b ^ j ≤ n) (he : e = b ^ 8) : CMulW p e := by
  have b8 : b ^ 8 ≤ 256 ^ 8 := by
    have g : ∀ m : Nat, b ^ m ≤ 256 ^ m := fun m => by
      induction m with
      | zero => rw [Int.pow_zero, Int.pow_zero]; exact Int.le_refl _
      | succ m ih =>
        rw [Int.pow_succ, Int.pow_succ]
        exact Int.mul_le_mul ih hb2 (by omega) (Int.le_of_lt (Int.lt_of_lt_of_le (by decide) (pow_pos (show (1 : Int) ≤ 256 by decide) m)))
    exact g 8
  have p1 := pow_pos (show 1 ≤ b by omega) (j + 1)
  have p8 := pow_pos (show 1 ≤ b by omega) 8
  have hq : b ^ j ≤ 2 ^ 4000 := by
    rcases hj with h | h
    · rw [h, Int.pow_zero]
      exact pow_pos (by decide) 4000
    · omega
  have pj := pow_pos (show 1 ≤ b by omega) j
  have hp2 : p ≤ 2 ^ 4000 * 256 := by
    rw [hp, Int.pow_succ]
    exact Int.mul_le_mul hq hb2 (by omega) (Int.le_of_lt (Int.lt_of_lt_of_le (by decide) (pow_pos (show (1 : Int) ≤ 2 by decide) 4000)))
  refine wide_mul (a := 4009) (b := 65) ?_ ?_ (by decide) (by decide) (by decide)
  · have h1 : p < 2 ^ 4009 := Int.lt_of_le_of_lt hp2 (by decide)
    have h2 : ((p.natAbs : Nat) : Int) < ((2 ^ 4009 : Nat) : Int) := by
      rw [Int.natCast_pow]
      have e : ((2 : Nat) : Int) = 2 := rfl
      rw [e]
      omega
    exact Int.ofNat_lt.mp h2
  · have h1 : e < 2 ^ 65 := by
      rw [he]
      exact Int.lt_of_le_of_lt b8 (by decide)
    have h2 : ((e.natAbs : Nat) : Int) < ((2 ^ 65 : Nat) : Int) := by
      rw [Int.natCast_pow]
      have e : ((2 : Nat) : Int) = 2 := rfl
      rw [e]
      omega
    exact Int.ofNat_lt.mp h2
theorem ok_figures_of (T : Tx w K mg) : Prom P w K mg base CX0 1 "figures_of" s_figures_of ["length", "base"] spFig := by
  refine Prom.of T.d_figures_of sc_figures_of (fun vs H Q E h => ?_) (fun _ _ _ _ _ _ us hl => match us, hl with | [_, _], _ => rfl) (fun f cdv A outer s H vs Q E hr h => ?_)
  · obtain ⟨n, b, rfl, _⟩ := h
    rfl
  · obtain ⟨n, b, rfl, hb, hb2, hn, k⟩ := h
    refine ⟨_, (pss_cons (ps_par3 (i := 2) (j := 3) (l := 4) (by rfl) sc_figures_of.nd rfl rfl rfl (by decide) (by decide) (by decide) rfl rfl rfl (pa_cons pe_int (pa_cons (pv 1) (pa_cons pe_int pa_nil))) (by rfl))
      (pss_cons (ps_for PassesOwn.never (by rfl) (pi_range1 (by rfl) T.b_range (pa_cons pe_int pa_nil)) (pg_name (i := 5) sc_figures_of.nd rfl (Or.inl rfl)) (pss_one (ps_set (i := 4) sc_figures_of.nd rfl (Or.inl rfl) (pe_op op_mul (pv 4) (pv 1)))))
      (pss_cons (ps_while PassesOwn.never (pt_cmp (pc_le (pe_op op_mulW (pv 3) (pv 4)) (pv 0))) (pss_one (ps_par (i := 2) (j := 3) (by rfl) sc_figures_of.nd rfl rfl (by decide) rfl rfl (pa_cons (pe_op op_add (pv 2) pe_int) (pa_cons (pe_op op_mulW (pv 3) (pv 4)) pa_nil)) (by rfl))))
      (pss_cons (ps_while PassesOwn.never (pt_cmp (pc_le (pv 3) (pv 0))) (pss_one (ps_par (i := 2) (j := 3) (by rfl) sc_figures_of.nd rfl rfl (by decide) rfl rfl (pa_cons (pe_op op_add (pv 2) pe_int) (pa_cons (pe_op op_mul (pv 3) (pv 1)) pa_nil)) (by rfl))))
      (pss_one (ps_ret (pv 2))))))), ?_⟩
    -- count, power, eight = 1, base, 1
    refine ⟨_, rfl, _, _, _, rfl, ?_⟩
    -- for turn in range(8)
    refine ⟨8, rfl, by decide, by decide, for_range (lo := 0) (n := 8) (fun i σ H' => H' = H ∧ ∃ v, σ = [some (.int n), some (.int b), some (.int 1), some (.int b), some (.int (b ^ i)), v]) ⟨rfl, none, by rw [Int.pow_zero]; rfl⟩ ?_ ?_⟩
    · rintro i σ H' hi ⟨rfl, v, rfl⟩
      refine ⟨_, rfl, _, rfl, _, _, rfl, rfl, .inr ⟨by omega, by omega⟩, ?_⟩
      exact ⟨rfl, some (.int (0 + (i : Int))), by rw [Int.pow_succ]; rfl⟩
    · rintro σ H' ⟨rfl, v, rfl⟩
      -- while power * eight <= length
      refine ⟨fun m σ H1 => H1 = H' ∧ ∃ (j : Nat), σ = [some (.int n), some (.int b), some (.int ((j : Int) + 1)), some (.int (b ^ (j + 1))), some (.int (b ^ 8)), v] ∧ (j = 0 ∨ b ^ j ≤ n) ∧ m = (n + 1 - b ^ (j + 1)).toNat,
        ⟨_, rfl, 0, by rw [pow_one b]; rfl, .inl rfl, rfl⟩, ?_⟩
      rintro m σ H1 ⟨rfl, j, rfl, hj, hm⟩
      have p1 := pow_pos (show 1 ≤ b by omega) (j + 1)
      refine ⟨_, rfl, _, rfl, _, _, rfl, rfl, fig_mul hb hb2 hn rfl hj rfl, ?_⟩
      refine ⟨_, rfl, _, _, rfl, rfl, _, rfl, ifd (fun c => ?_) (fun c => ?_)⟩
      · refine ⟨_, fun σ' H' h => h, ?_⟩
        have e9 : b ^ (j + 1) * b ^ 8 = b ^ (j + 8 + 1) := by rw [← Int.pow_add]
        have e8 : b ^ (j + 1) < b ^ (j + 8 + 1) := Int.lt_of_lt_of_le (pow_lt hb (j + 1)) (pow_mono (show 1 ≤ b by omega) (by omega))
        refine ⟨_, rfl, _, _, rfl, rfl, _, rfl, _, rfl, _, _, rfl, rfl, fig_mul hb hb2 hn rfl hj rfl, _, _, rfl, ?_⟩
        refine ⟨_, ?_, rfl, j + 8, ?_, .inr ?_, rfl⟩
        · rw [hm]
          rw [e9] at c
          omega
        · show [some (V.int n), some (V.int b), some (V.int ((j : Int) + 1 + 8)), some (V.int (b ^ (j + 1) * b ^ 8)), some (V.int (b ^ 8)), v] = _
          rw [e9]
          have e : (j : Int) + 1 + 8 = ((j + 8 : Nat) : Int) + 1 := by omega
          rw [e]
        · rw [e9] at c
          exact Int.le_trans (pow_mono (show 1 ≤ b by omega) (by omega)) c
      · -- while power <= length
        refine ⟨fun m σ H2 => H2 = H1 ∧ ∃ (j : Nat), σ = [some (.int n), some (.int b), some (.int ((j : Int) + 1)), some (.int (b ^ (j + 1))), some (.int (b ^ 8)), v] ∧ (j = 0 ∨ b ^ j ≤ n) ∧ m = (n + 1 - b ^ (j + 1)).toNat,
          ⟨_, rfl, j, rfl, hj, rfl⟩, ?_⟩
        clear c hm p1 hj
        rintro m σ H2 ⟨rfl, j, rfl, hj, hm⟩
        have p1 := pow_pos (show 1 ≤ b by omega) (j + 1)
        refine ⟨_, rfl, _, rfl, _, _, rfl, rfl, _, rfl, ifd (fun c => ?_) (fun c => ?_)⟩
        · refine ⟨_, fun σ' H' h => h, ?_⟩
          have e8 := pow_lt hb (j + 1)
          refine ⟨_, rfl, _, _, rfl, rfl, _, rfl, _, rfl, _, _, rfl, rfl, .inr ⟨by omega, by omega⟩, _, _, rfl, ?_⟩
          refine ⟨_, ?_, rfl, j + 1, ?_, .inr c, rfl⟩
          · rw [hm]
            omega
          · show [some (V.int n), some (V.int b), some (V.int ((j : Int) + 1 + 1)), some (V.int (b ^ (j + 1) * b)), some (V.int (b ^ 8)), v] = _
            rw [← Int.pow_succ]
            have e : (j : Int) + 1 + 1 = ((j + 1 : Nat) : Int) + 1 := by omega
            rw [e]
        · exact ⟨_, rfl, k _ ⟨j, rfl, by omega, hj⟩⟩
end
section
variable {P : Program} {w : World} {K : PySem.W.Frag} {mg : Str → Option Value} {base : Heap}
def spTotal : Sp := fun vs H Q _ => ∃ n b : Int, vs = [.int n, .int b] ∧ 2 ≤ b ∧ b ≤ 256 ∧ 0 ≤ n ∧ n < 2 ^ 3900 ∧ ∀ s, IsTot b n s → s ≤ n + 4000 → Q (.int s) H
theorem ok_total_of (T : Tx w K mg) : Prom P w K mg base CX0 2 "total_of" s_total_of ["length", "base"] spTotal := by
  refine Prom.of T.d_total_of sc_total_of (fun vs H Q E h => ?_) (fun _ _ _ _ _ _ us hl => match us, hl with | [_, _], _ => rfl) (fun f cdv A outer s H vs Q E hr h => ?_)
  · obtain ⟨n, b, rfl, _⟩ := h
    rfl
  · obtain ⟨n, b, rfl, b0, b1, n0, n1, k⟩ := h
    have big : ∀ x : Int, x ≤ n + 4000 → x < 2 ^ 4000 := fun x hx => by
      have : (2 : Int) ^ 3900 + 4000 ≤ 2 ^ 4000 := by decide
      omega
    refine ⟨_, (pss_cons (ps_set (i := 2) sc_total_of.nd rfl (Or.inl rfl) (pe_callP (ok_figures_of T) (hr.mono (by decide)) (by rfl) pass0 (pa_cons (pv 0) (pa_cons (pv 1) pa_nil))))
      (pss_cons (ps_while PassesOwn.never (pt_cmp (pc_neI (pe_callP (ok_figures_of T) (hr.mono (by decide)) (by rfl) pass0 (pa_cons (pe_op op_add (pv 0) (pv 2)) (pa_cons (pv 1) pa_nil))) (pv 2))) (pss_one (ps_aug (i := 2) sc_total_of.nd rfl (.inl rfl) pe_int ip_add)))
      (pss_one (ps_ret (pe_op op_add (pv 0) (pv 2)))))), ?_⟩
    refine ⟨_, rfl, _, rfl, n, b, rfl, b0, b1, big n (by omega), fun z hz => ?_⟩
    have z0 := isF_pos hz
    have z1 := isF_bound b0 3900 n1 hz
    refine ⟨fun m σ H1 => H1 = H ∧ ((m = 1 ∧ σ = [some (.int n), some (.int b), some (.int z)]) ∨ (m = 0 ∧ σ = [some (.int n), some (.int b), some (.int (z + 1))] ∧ IsF b (n + z) (z + 1))), ⟨1, rfl, .inl ⟨rfl, rfl⟩⟩, ?_⟩
    rintro m σ H1 ⟨rfl, ⟨rfl, rfl⟩ | ⟨rfl, rfl, h1⟩⟩
    · refine ⟨_, rfl, _, rfl, _, _, rfl, rfl, _, rfl, n + z, b, rfl, b0, b1, big _ (by omega), fun g hg => ?_⟩
      refine ⟨_, rfl, _, _, rfl, rfl, _, rfl, ifn (fun c => ?_) (fun c => ?_)⟩
      · have e : g = z + 1 := (fig_grow b0 n0 hz hg).resolve_left c
        subst e
        exact ⟨_, fun _ _ h => h, _, rfl, _, _, rfl, rfl, 0, by decide, rfl, .inr ⟨rfl, rfl, hg⟩⟩
      · subst c
        exact ⟨_, rfl, _, rfl, _, _, rfl, rfl, k _ (isTot_first b0 hz hg) (by omega)⟩
    · refine ⟨_, rfl, _, rfl, _, _, rfl, rfl, _, rfl, n + (z + 1), b, rfl, b0, b1, big _ (by omega), fun g hg => ?_⟩
      have h2 := fig_next b0 n0 hz h1
      have e0 : n + (z + 1) = n + z + 1 := by omega
      rw [e0] at hg
      have e : g = z + 1 := isF_eq b0 hg h2
      refine ⟨_, rfl, _, _, rfl, rfl, _, rfl, ifn (fun c => absurd e c) (fun c => ?_)⟩
      refine ⟨_, rfl, _, rfl, _, _, rfl, rfl, ?_⟩
      show Q (.int (n + (z + 1))) _
      rw [e0]
      exact k _ (isTot_second b0 n0 hz h1) (by omega)
end
theorem log2_small {i : Int} (h0 : 0 ≤ i) (h1 : i < 10 ^ 70) : i.natAbs.log2 < 1920 := by
  have h3 : i.natAbs < 2 ^ 300 := Nat.lt_of_lt_of_le (show i.natAbs < 10 ^ 70 by omega) (by decide)
  exact Nat.lt_of_lt_of_le (PySem.Flt.log2_lt_of (by decide) h3) (by decide)
/-! ### ints shown -/
theorem shownAll_ints : ∀ xs : List Int, PyData.shownAll (xs.map PyData.int) = xs.map fun i => (toString i : Str)
  | [] => rfl
  | x :: xs => by
    show (toString x : Str) :: PyData.shownAll (xs.map PyData.int) = _
    rw [shownAll_ints xs]
    rfl
theorem sum_short : ∀ (xs : List Int), (∀ x ∈ xs, x.natAbs < 10 ^ 70) → ((xs.map fun i => (toString i : Str)).map (·.length)).sum ≤ 71 * xs.length
  | [], _ => by simp
  | x :: xs, h => by
    have h1 := sum_short xs fun y hy => h y (List.mem_cons_of_mem _ hy)
    have h2 : (toString x : Str).length ≤ 71 := by
      have := int_text_length_le10 (k := 70) (by decide) (h x (List.mem_cons_self ..))
      have e : (Str.ofString (toString x)).length = (toString x : String).length := PySem.ofString_length _
      show (Str.ofString (toString x)).length ≤ 71
      omega
    simp only [List.map_cons, List.sum_cons, List.length_cons]
    omega
def Shows (d : PyData) : Prop := d.showable = true ∧ d.hasDict = false ∧ d.depth ≤ 40 ∧ d.shown.length ≤ sizeLine
theorem ints_showable : ∀ xs : List Int, (∀ x ∈ xs, x.natAbs < 10 ^ 70) → PyData.showableAll (xs.map PyData.int) = true ∧ PyData.hasDictAll (xs.map PyData.int) = false ∧ PyData.depthAll (xs.map PyData.int) ≤ 2
  | [], _ => ⟨rfl, rfl, by decide⟩
  | x :: xs, h => by
    obtain ⟨h1, h2, h3⟩ := ints_showable xs fun y hy => h y (List.mem_cons_of_mem _ hy)
    have hx : x.natAbs.log2 < 1920 := by
      have h4 : x.natAbs < 2 ^ 300 := Nat.lt_of_lt_of_le (h x (List.mem_cons_self ..)) (by decide)
      exact Nat.lt_of_lt_of_le (PySem.Flt.log2_lt_of (by decide) h4) (by decide)
    refine ⟨?_, ?_, ?_⟩
    · show (decide (x.natAbs.log2 < 1920) && PyData.showableAll (xs.map PyData.int)) = true
      rw [h1, decide_eq_true hx] <;> rfl
    · show (false || PyData.hasDictAll (xs.map PyData.int)) = false
      rw [h2] <;> rfl
    · show max (PyData.depth (.int x)) (PyData.depthAll (xs.map PyData.int)) ≤ 2
      have : PyData.depth (.int x) ≤ 1 := by first | exact Nat.le_refl _ | exact Nat.zero_le _ | decide
      omega
theorem shows_tuple {xs : List Int} (h : ∀ x ∈ xs, x.natAbs < 10 ^ 70) (hl : xs.length ≤ 10000) : Shows (.tuple (xs.map PyData.int)) := by
  obtain ⟨h1, h2, h3⟩ := ints_showable xs h
  refine ⟨h1, h2, ?_, ?_⟩
  · show PyData.depthAll (xs.map PyData.int) + 1 ≤ 40
    omega
  · show (tupleText (PyData.shownAll (xs.map PyData.int))).length ≤ sizeLine
    have h4 := tupleText_len_le (PyData.shownAll (xs.map PyData.int))
    rw [shownAll_ints] at h4 ⊢
    have h5 := sum_short xs h
    rw [List.length_map] at h4
    rw [sizeLine_eq]
    omega
theorem shows_list {xs : List Int} (h : ∀ x ∈ xs, x.natAbs < 10 ^ 70) (hl : xs.length ≤ 10000) : Shows (.list (xs.map PyData.int)) := by
  obtain ⟨h1, h2, h3⟩ := ints_showable xs h
  refine ⟨h1, h2, ?_, ?_⟩
  · show PyData.depthAll (xs.map PyData.int) + 1 ≤ 40
    omega
  · show (listText (PyData.shownAll (xs.map PyData.int))).length ≤ sizeLine
    have h4 := listText_len_le (PyData.shownAll (xs.map PyData.int))
    rw [shownAll_ints] at h4 ⊢
    have h5 := sum_short xs h
    rw [List.length_map] at h4
    rw [sizeLine_eq]
    omega
theorem dp_ints {K : PySem.W.Frag} {H : Hp} : ∀ xs : List Int, DpAll K H (xs.map V.int) (xs.map PyData.int)
  | [] => .nil
  | x :: xs => .cons (.int x) (dp_ints xs)
/-! ### wraps -/
/-- the first number that does not do -/
def faultL : List (Int × Int) → List Int → Nat → Option Nat
  | q :: qs, n :: ns, i => if q.1 ≤ n ∧ n ≤ q.2 then faultL qs ns (i + 1) else some i
  | _, _, _ => none
def faultV (a : Wr) (ns : List Int) : V := match faultL a.rng ns 0 with
  | some i => .int (i : Nat)
  | none => if a.kind = "coded" ∧ ns.getD 1 0 < ns.getD 0 0 then .int 1 else .non
theorem faultL_drop : ∀ (qs : List (Int × Int)) (ns : List Int) (j i : Nat), qs.length = ns.length → (∀ m q n, m < i → qs[m]? = some q → ns[m]? = some n → q.1 ≤ n ∧ n ≤ q.2) → i ≤ ns.length → faultL qs ns j = faultL (qs.drop i) (ns.drop i) (j + i)
  | _, _, j, 0, _, _, _ => rfl
  | [], [], j, i + 1, _, _, h => by simp at h
  | [], _ :: _, j, i + 1, h, _, _ => by simp at h
  | _ :: _, [], j, i + 1, h, _, _ => by simp at h
  | q :: qs, n :: ns, j, i + 1, hl, hg, hi => by
    have h0 := hg 0 q n (by omega) rfl rfl
    have ih := faultL_drop qs ns (j + 1) i (by simpa using hl) (fun m q' n' hm h1 h2 => hg (m + 1) q' n' (by omega) (by simpa using h1) (by simpa using h2)) (by simpa using hi)
    show (if q.1 ≤ n ∧ n ≤ q.2 then faultL qs ns (j + 1) else some j) = _
    rw [if_pos h0, ih]
    have e : j + 1 + i = j + (i + 1) := by omega
    rw [e]
    rfl
theorem drop_at {α : Type} : ∀ {xs : List α} {i : Nat} {x : α}, xs[i]? = some x → xs.drop i = x :: xs.drop (i + 1)
  | [], i, x, h => by simp at h
  | y :: ys, 0, x, h => by
    simp at h
    rw [h]
    rfl
  | y :: ys, i + 1, x, h => drop_at (xs := ys) (i := i) (by simpa using h)
def spFault (K : PySem.W.Frag) : Sp := fun vs H Q _ => ∃ (a : Wr) (ns : List Int) (p : Addr), vs = [.str a.kind, .ref p] ∧ (SqL K H p (ns.map V.int) ∨ SqT K H p (ns.map V.int)) ∧ ns.length = a.rng.length ∧ ∀ H', Same H H' → Q (faultV a ns) H'
section
variable {P : Program} {w : World} {K : PySem.W.Frag} {mg : Str → Option Value} {base : Heap}
theorem sq_same {H H' : Hp} {p : Addr} {xs : List V} (s : Same H H') (h : SqL K H p xs ∨ SqT K H p xs) : SqL K H' p xs ∨ SqT K H' p xs := by
  rcases h with h | h
  · exact .inl (s.seq h)
  · refine .inr ?_
    rcases h with (h | ⟨o, h⟩) | h
    · exact .inl (.inl (s _ _ h))
    · exact .inl (.inr ⟨o, s _ _ h⟩)
    · exact .inr h
theorem ok_fault_in (T : Tx w K mg) : Prom P w K mg base CX0 3 "fault_in" s_fault_in ["kind", "numbers"] (spFault K) := by
  refine Prom.of T.d_fault_in sc_fault_in (fun vs H Q E h => ?_) (fun _ _ _ _ _ _ us hl => match us, hl with | [_, _], _ => rfl) (fun f cdv A outer s H vs Q E hr h => ?_)
  · obtain ⟨a, ns, p, rfl, _⟩ := h
    rfl
  · obtain ⟨a, ns, p, rfl, hS, hl, k⟩ := h
    obtain ⟨es, en, kd⟩ := T.kd
    obtain ⟨b, xs, hb, hq, hp⟩ := T.rg a
    have hlx := hp.len
    have at_ : ∀ {H' : Hp} {i : Nat} {n : Int} {Q' : VK}, Same H H' → ns[i]? = some n → Q' (.int n) H' → rIxL K (.ref p) (.int (i : Nat)) H' Q' ∨ rIxT K (.ref p) (.int (i : Nat)) H' Q' := fun {H' i n Q'} hs hn hQ => by
      have en : (ns.map V.int)[i]? = some (V.int n) := by rw [List.getElem?_map, hn]; rfl
      rcases sq_same hs hS with z | z
      · exact .inl ⟨p, _, _, _, rfl, rfl, z, atI_nat en, hQ⟩
      · exact .inr ⟨p, _, _, _, rfl, rfl, z, atI_nat en, hQ⟩
    refine ⟨_, (pss_cons (ps_for PassesOwn.never (by rfl) (pi_enumT (by rfl) T.b_enumerate (pa_cons (pe_ix ix_kdict (pe_glob (v := .ref _) (by rfl) T.k_RANGES rfl) (pv 0) (fun _ _ => rfl)) pa_nil)) (pg_tup rfl (pgs_cons (pg_name (i := 2) sc_fault_in.nd rfl (Or.inl rfl)) (pgs_cons (pg_tup rfl (pgs_cons (pg_name (i := 3) sc_fault_in.nd rfl (Or.inl rfl)) (pgs_cons (pg_name (i := 4) sc_fault_in.nd rfl (Or.inl rfl)) pgs_nil))) pgs_nil))) (pss_one (ps_if (pt_not (pt_val (pe_callP (ok_is_between T) (hr.mono (by decide)) (by rfl) pass0 (pa_cons (pe_ix ix_any (pv 1) (pv 2) (fun _ _ => rfl)) (pa_cons (pv 3) (pa_cons (pv 4) pa_nil)))))) (pss_one (ps_ret (pv 2))) pss_nil)))
      (pss_one (ps_ret (pe_ifExp (PW.pt (pw_and (pt_cmpR op_eq (pv 0) pe_str (nomark _)) (pw_and1 (pt_cmp (pc_lt (pe_ix ix_any (pv 1) pe_int (fun _ _ => rfl)) (pe_ix ix_any (pv 1) pe_int (fun _ _ => rfl))))))) pe_int pe_non)))), ?_⟩
    refine ⟨_, rfl, _, _, .ref b, rfl, rfl, ⟨es, en, _, kd.at_, kd.lit, hb, rfl⟩, b, xs, rfl, hq _, ?_⟩
    refine for_it (walk_enumT (K := K) (a := b) (xs := xs)) (fun i σ H' => Same H H' ∧ (∀ m q n, m < i → a.rng[m]? = some q → ns[m]? = some n → q.1 ≤ n ∧ n ≤ q.2) ∧ ∃ v1 v2 v3, σ = [some (.str a.kind), some (.ref p), v1, v2, v3]) ⟨Same.refl H, fun m q n h => absurd h (Nat.not_lt_zero m), none, none, none, rfl⟩ (fun _ _ H' _ _ => hq H') ?_ ?_
    · rintro i x σ H1 H2 hi ⟨hs, hg, v1, v2, v3, rfl⟩ ⟨t, x1, x2, rfl, ht, rfl, e1, e2⟩
      cases e1
      obtain ⟨c, q, rfl, hq2, hc⟩ := hp.get e2
      have hin : i < ns.length := by omega
      obtain ⟨n, hn⟩ : ∃ n, ns[i]? = some n := ⟨_, List.getElem?_eq_getElem hin⟩
      have hs2 : Same H (upd H1 t (.tup [.int (i : Nat), .ref c])) := fun y o e => by rw [upd_ne (ne_of_none (hs _ _ e) ht)]; exact hs _ _ e
      refine ⟨t, _, rfl, SqT.of upd_same, rfl, _, _, rfl, _, _, rfl, ?_⟩
      refine ⟨c, _, rfl, hc _, rfl, _, _, rfl, _, _, rfl, rfl, rfl, ?_⟩
      refine ⟨_, rfl, _, rfl, at_ hs2 hn ⟨_, rfl, _, rfl, n, q.1, q.2, rfl, _, rfl, ifn (fun c => ?_) (fun c => ?_)⟩⟩
      · have e : faultV a ns = .int (i : Nat) := by
          unfold faultV
          rw [faultL_drop a.rng ns 0 i hl.symm hg (by omega)]
          have d1 : a.rng.drop i = q :: a.rng.drop (i + 1) := drop_at hq2
          have d2 : ns.drop i = n :: ns.drop (i + 1) := drop_at hn
          rw [d1, d2]
          show (match (if q.1 ≤ n ∧ n ≤ q.2 then _ else some (0 + i)) with
            | some i => V.int (i : Nat)
            | none => _) = _
          rw [if_neg c, Nat.zero_add]
        have k2 := k _ hs2
        rw [e] at k2
        exact ⟨_, rfl, k2⟩
      · refine ⟨hs2, fun m q' n' hm h1 h2 => ?_, _, _, _, rfl⟩
        by_cases z : m = i
        · subst z
          rw [hq2] at h1
          rw [hn] at h2
          cases h1
          cases h2
          exact c
        · exact hg m q' n' (by omega) h1 h2
    · rintro σ H' ⟨hs, hg, v1, v2, v3, rfl⟩
      have e0 : faultL a.rng ns 0 = none := by
        rw [faultL_drop a.rng ns 0 ns.length hl.symm (by rw [hlx, ← hl] at hg; exact hg) (Nat.le_refl _)]
        rw [List.drop_length]
        cases a.rng.drop ns.length <;> rfl
      have k2 := k _ hs
      unfold faultV at k2
      rw [e0] at k2
      refine ⟨_, rfl, rfl, _, rfl, ifd (fun c => ?_) (fun c => ?_)⟩
      · have ec : a.kind = "coded" := by
          have c : V.str a.kind = V.str "coded" := c
          injection c
        have l2 : a.rng.length = 2 := by
          cases a with
          | coded _ _ => rfl
          | pieces _ _ => rfl
          | cut _ _ => rfl
          | plus _ => exact absurd (show ("plus" : Str) = "coded" from ec) (by decide)
          | told _ => exact absurd (show ("told" : Str) = "coded" from ec) (by decide)
          | whole _ => exact absurd (show ("whole" : Str) = "coded" from ec) (by decide)
          | filled _ => exact absurd (show ("filled" : Str) = "coded" from ec) (by decide)
        rw [l2] at hl
        obtain ⟨n0, n1, rfl⟩ : ∃ n0 n1, ns = [n0, n1] := by
          match ns, hl with
          | [n0, n1], _ => exact ⟨n0, n1, rfl⟩
        refine ⟨_, rfl, at_ (i := 1) (n := n1) hs rfl ⟨_, rfl, at_ (i := 0) (n := n0) hs rfl ⟨_, _, rfl, rfl, _, rfl, ifd (fun c2 => ?_) (fun c2 => ?_)⟩⟩⟩
        · rw [if_pos ⟨ec, c2⟩] at k2
          exact k2
        · rw [if_neg (fun z => c2 z.2)] at k2
          exact k2
      · rw [if_neg (fun z => c (congrArg V.str z.1))] at k2
        exact k2
end
/-- the text of a wrap -/
def Wr.text (a : Wr) : Str := Txt.join " " (a.kind :: a.nums.map fun i => (toString i : Str))
def wrapFs (a : Wr) (p : Addr) : List (Str × V) := [("kind", .str a.kind), ("numbers", .ref p), ("words", .str a.text)]
/-- a wrap stands there -/
def WrapAt (K : PySem.W.Frag) (H : Hp) (q : Addr) (a : Wr) : Prop := ∃ dx p, H q = some (.ins (He.ga K "Wrap") dx (wrapFs a p)) ∧ H p = some (.tup (a.nums.map V.int))
theorem WrapAt.same {K : PySem.W.Frag} {H H' : Hp} {q : Addr} {a : Wr} (h : WrapAt K H q a) (s : Same H H') : WrapAt K H' q a := by
  obtain ⟨dx, p, h1, h2⟩ := h
  exact ⟨dx, p, s _ _ h1, s _ _ h2⟩
def spInit (K : PySem.W.Frag) : Sp := fun vs H Q _ => ∃ (a : Wr) (x p dx : Addr), vs = [.ref x, .str a.kind, .ref p] ∧ a.ok ∧ H x = some (.ins (He.ga K "Wrap") dx []) ∧ H p = some (.tup (a.nums.map V.int)) ∧
  ∀ H', Kp x H H' → H' x = some (.ins (He.ga K "Wrap") dx (wrapFs a p)) → Q .non H'
def spWrap (K : PySem.W.Frag) : Sp := fun vs H Q _ => ∃ a : Wr, vs = .str a.kind :: a.nums.map V.int ∧ a.ok ∧ ∀ q H', H q = none → Same H H' → WrapAt K H' q a → Q (.ref q) H'
theorem kind_len (a : Wr) : a.kind.length ≤ 6 := by
  cases a with
  | plus _ => exact (show ("plus" : Str).length ≤ 6 by decide)
  | told _ => exact (show ("told" : Str).length ≤ 6 by decide)
  | whole _ => exact (show ("whole" : Str).length ≤ 6 by decide)
  | pieces _ _ => exact (show ("pieces" : Str).length ≤ 6 by decide)
  | cut _ _ => exact (show ("cut" : Str).length ≤ 6 by decide)
  | coded _ _ => exact (show ("coded" : Str).length ≤ 6 by decide)
  | filled _ => exact (show ("filled" : Str).length ≤ 6 by decide)
theorem faultL_one {q : Int × Int} {n : Int} (h : q.1 ≤ n ∧ n ≤ q.2) : faultL [q] [n] 0 = none := by
  show (if q.1 ≤ n ∧ n ≤ q.2 then none else some 0) = none
  rw [if_pos h]
theorem faultL_two {q r : Int × Int} {n m : Int} (h : q.1 ≤ n ∧ n ≤ q.2) (h2 : r.1 ≤ m ∧ m ≤ r.2) : faultL [q, r] [n, m] 0 = none := by
  show (if q.1 ≤ n ∧ n ≤ q.2 then (if r.1 ≤ m ∧ m ≤ r.2 then none else some 1) else some 0) = none
  rw [if_pos h, if_pos h2]
theorem fault_ok {a : Wr} (h : a.ok) : faultV a a.nums = .non := by
  unfold faultV
  cases a with
  | plus c => rw [show faultL (Wr.plus c).rng (Wr.plus c).nums 0 = none from faultL_one h]; rfl
  | told c => rw [show faultL (Wr.told c).rng (Wr.told c).nums 0 = none from faultL_one h]; rfl
  | whole c => rw [show faultL (Wr.whole c).rng (Wr.whole c).nums 0 = none from faultL_one h]; rfl
  | filled c => rw [show faultL (Wr.filled c).rng (Wr.filled c).nums 0 = none from faultL_one h]; rfl
  | pieces m c => rw [show faultL (Wr.pieces m c).rng (Wr.pieces m c).nums 0 = none from faultL_two ⟨h.1, h.2.1⟩ h.2.2]; rfl
  | cut m c => rw [show faultL (Wr.cut m c).rng (Wr.cut m c).nums 0 = none from faultL_two ⟨h.1, h.2.1⟩ h.2.2]; rfl
  | coded m c =>
    simp only [Wr.ok] at h
    rw [show faultL (Wr.coded m c).rng (Wr.coded m c).nums 0 = none from faultL_two ⟨h.1, h.2.1⟩ ⟨show (1 : Int) ≤ c by omega, h.2.2.2⟩]
    exact if_neg (fun z => absurd (show c < m from z.2) (by omega))
section
variable {P : Program} {w : World} {K : PySem.W.Frag} {mg : Str → Option Value} {base : Heap}
theorem ok_Wrap (T : Tx w K mg) : PromC P w K mg base CX0 4 "Wrap" (spWrap K) := by
  refine PromC.star (sp0 := spInit K) T.mk_Wrap T.k_Wrap T.dm_Wrap___init__ sc_Wrap___init__ (fun _ _ _ _ _ _ _ _ => rfl) (fun _ _ _ _ _ _ _ _ _ _ => rfl) (fun f cdv A outer s H vs Q E hr h => ?_) (fun vs H Q E h => ?_)
  · obtain ⟨a, x, p, dx, rfl, ha, hx, hp, k⟩ := h
    obtain ⟨es, en, kd⟩ := T.kd
    obtain ⟨b, xs, hb, hq, hps⟩ := T.rg a
    refine ⟨_, (pss_cons (ps_if (PW.pt (pw_or (pt_not (pt_val (pe_callB call_isi (by rfl) T.b_isinstance (by decide +kernel) (pa_cons (pv 1) (pa_cons (pe_bltn (v := .ty "str") (by rfl) T.b_str (by decide +kernel) rfl) pa_nil))))) (pw_or1 (pt_cmpR (op_notIn_kd kd) (pv 1) (pe_glob (v := .ref _) (by rfl) T.k_RANGES rfl) (by rfl))))) (pss_one ps_never) pss_nil)
      (pss_cons (ps_if (pt_cmp (pc_neI (pe_callB call_len_seq (by rfl) T.b_len (by decide +kernel) (pa_cons (pv 2) pa_nil)) (pe_callB call_len_seq (by rfl) T.b_len (by decide +kernel) (pa_cons (pe_ix ix_kdict (pe_glob (v := .ref _) (by rfl) T.k_RANGES rfl) (pv 1) (fun _ _ => rfl)) pa_nil)))) (pss_one ps_never) pss_nil)
      (pss_cons (ps_set (i := 3) sc_Wrap___init__.nd rfl (Or.inl rfl) (pe_callP (ok_fault_in T) (hr.mono (by decide)) (by rfl) pass0 (pa_cons (pv 1) (pa_cons (pv 2) pa_nil))))
      (pss_cons (ps_if (pt_cmpR op_notN (pv 3) pe_non (nomark _)) (pss_one ps_never) pss_nil)
      (pss_cons (ps_fld (pv 0) (pv 1) rfl)
      (pss_cons (ps_fld (pv 0) (pv 2) rfl)
      (pss_one (ps_fld (pv 0) (pe_join pe_str (pe_lst (pa_cons (pv 1) (StX.pa_star (pe_lc (own := [("number", 4)]) (g := (gName 4)) (tt := tYes) (by rfl) sc_Wrap___init__.nd (pi_tup (pv 2)) (blkOk_by (own := [("number", 4)]) (N := ["self", "kind", "numbers", "fault", "number"]) (sc := defScope s_Wrap___init__) (by decide +kernel)) (fun _ _ _ _ _ => (pg_name (i := 4) sc_Wrap___init__.nd rfl (Or.inl rfl))) (fun _ _ _ _ _ => pts_nil) (fun _ _ _ _ _ => (pe_joined1 (pe_fmt (pv 4))))) pa_nil)))) rfl)))))))), ?_⟩
    refine ⟨_, rfl, _, _, _, _, true, rfl, .ty _, .base (.str _), kit_ty (by decide +kernel), true, rfl, iteF ?_⟩
    refine ⟨_, rfl, _, _, rfl, rfl, hb, _, rfl, iteF ?_⟩
    refine ⟨_, rfl, p, _, rfl, .inr (SqT.of hp), _, rfl, _, _, .ref b, rfl, rfl, ⟨es, en, _, kd.at_, kd.lit, hb, rfl⟩, b, xs, rfl, .inr (hq _), _, _, rfl, rfl, _, rfl, ifn (fun c => ?_) (fun _ => ?_)⟩
    · refine absurd ?_ c
      rw [List.length_map, hps.len, nums_len]
      first | done | rfl
    refine ⟨_, rfl, _, rfl, a, a.nums, p, rfl, .inr (SqT.of hp), nums_len, fun H1 s1 => ?_⟩
    rw [fault_ok ha]
    refine ⟨_, rfl, rfl, _, rfl, iteF ?_⟩
    refine ⟨_, rfl, _, rfl, x, _, dx, _, rfl, s1 _ _ hx, T.cl_Wrap, T.na_Wrap_kind, by decide, ?_⟩
    refine ⟨_, rfl, _, rfl, x, _, dx, _, rfl, upd_same, T.cl_Wrap, T.na_Wrap_numbers, (show (1 : Nat) < 1000 by decide), ?_⟩
    obtain ⟨H3, e3, hx3, kp3⟩ : ∃ H3, upd (upd H1 x (.ins (He.ga K "Wrap") dx (putF "kind" (.str a.kind) []))) x (.ins (He.ga K "Wrap") dx (putF "numbers" (.ref p) (putF "kind" (.str a.kind) []))) = H3 ∧ H3 x = some (.ins (He.ga K "Wrap") dx [("kind", .str a.kind), ("numbers", .ref p)]) ∧ Kp x H H3 :=
      ⟨_, rfl, upd_same, Kp.set (Kp.set fun b o n e => s1 _ _ e)⟩
    rw [e3]
    have npx : p ≠ x := fun z => by
      rw [z, hx] at hp
      cases hp
    have hp3 : H3 p = some (.tup (a.nums.map V.int)) := kp3 _ _ npx hp
    refine ⟨⟨_, rfl⟩, _, rfl, _, rfl, p, rfl, ⟨_, SqT.of hp3⟩, fun D hD => ?_⟩
    refine lc_tup (K := K) (a := p) (xs := a.nums.map V.int) (Pv := fun i H' => Same H3 H' ∧ H' D = some (.lst ((a.nums.take i).map fun z => V.str (toString z)))) ⟨fun z o e => by rw [upd_ne (ne_of_none e hD)]; exact e, upd_same⟩ (fun i H' _ h => SqT.of (h.1 _ _ hp3)) ?_ ?_
    · rintro i y H' hi ⟨hs, hl⟩
      obtain ⟨n, hn, rfl⟩ : ∃ n, a.nums[i]? = some n ∧ y = V.int n := by
        rw [List.getElem?_map] at hi
        cases e : a.nums[i]? with
        | none =>
          rw [e] at hi
          cases hi
        | some n =>
          rw [e] at hi
          exact ⟨n, rfl, (Option.some.inj hi).symm⟩
      have hb := nums_small ha n (List.mem_of_getElem? hn)
      have hlen : a.nums.length ≤ 2 := by cases a <;> simp [Wr.nums]
      have hil : i < a.nums.length := by
        rcases List.getElem?_eq_some_iff.mp hn with ⟨z, _⟩
        exact z
      refine ⟨rfl, _, rfl, .inr ⟨n, rfl, log2_small hb.1 (by omega), _, hl, ?_, fun z o e => ?_, ?_⟩⟩
      · rw [List.length_map, List.length_take, sizeLine_eq]
        omega
      · rw [upd_ne (ne_of_none e hD)]
        exact hs _ _ e
      · rw [upd_same, List.take_succ, hn, List.map_append]
        rfl
    · rintro H' ⟨hs, hl⟩
      rw [List.length_map, List.take_length] at hl
      refine ⟨D, _, rfl, .inr (SqL.of hl), ?_, fun l hl2 => ?_⟩
      · have hlen : a.nums.length ≤ 2 := by cases a <;> simp [Wr.nums]
        simp
        rw [sizeLine_eq]
        omega
      have el : V.str a.kind :: (a.nums.map (fun z => V.str (toString z)) ++ []) = (a.kind :: a.nums.map fun z => (toString z : Str)).map V.str := by simp
      refine ⟨_, l, a.kind :: a.nums.map (fun z => (toString z : Str)), rfl, rfl, .inl (SqL.of (by rw [← el]; exact upd_same)), ?_, ?_⟩
      · have h1 := sum_short a.nums (fun z hz => by have := nums_small ha z hz; omega)
        have hlen : a.nums.length ≤ 2 := by cases a <;> simp [Wr.nums]
        have hk : a.kind.length ≤ 6 := kind_len a
        simp only [List.map_cons, List.sum_cons, List.length_cons, List.length_map]
        have h2 : (" " : Str).length = 1 := by decide
        rw [h2]
        omega
      · have hx5 : (upd H' l (.lst (V.str a.kind :: (a.nums.map (fun z => V.str (toString z)) ++ [])))) x = some (.ins (He.ga K "Wrap") dx [("kind", .str a.kind), ("numbers", .ref p)]) := by rw [upd_ne (ne_of_none (hs _ _ hx3) hl2)]; exact hs _ _ hx3
        refine ⟨_, rfl, x, _, dx, _, rfl, hx5, T.cl_Wrap, T.na_Wrap_words, (show (2 : Nat) < 1000 by decide), ?_⟩
        refine k _ (fun z o n e => ?_) upd_same
        have ez := hs _ _ (kp3 z o n e)
        rw [upd_ne n, upd_ne (ne_of_none ez hl2)]
        exact ez
  · obtain ⟨a, rfl, ha, k⟩ := h
    refine ⟨_, _, rfl, ?_, fun x dx p hx hdx nd np npd hp => ?_⟩
    · rw [List.length_map, sizeLine_eq]
      have hlen : a.nums.length ≤ 2 := by cases a <;> simp [Wr.nums]
      omega
    refine ⟨a, x, p, dx, rfl, ha, by rw [upd_ne (Ne.symm np)]; exact upd_same, upd_same, fun H' kp hx' => ⟨rfl, ?_⟩⟩
    refine k x H' hx (fun z o e => ?_) ⟨dx, p, hx', kp _ _ np upd_same⟩
    have n1 : z ≠ x := ne_of_none e hx
    refine kp _ _ n1 ?_
    rw [upd_ne (ne_of_none e hp), upd_ne n1, upd_ne (ne_of_none e hdx)]
    exact e
end
/-! ### sizes by wraps -/
def spBegun : Sp := fun vs H Q _ => ∃ n m : Int, vs = [.int n, .int m] ∧ 1 ≤ m ∧ m ≤ 1000 ∧ Q (.int (beg n m)) H
def spPieces : Sp := fun vs H Q _ => ∃ n m c b : Int, vs = [.int n, .int m, .int c, .int b] ∧ 0 ≤ n ∧ 1 ≤ m ∧ m ≤ 60 ∧ 0 ≤ c ∧ c ≤ 60 ∧ 2 ≤ b ∧ b ≤ 256 ∧ Q (.int ((Wr.pieces m c).gr b n)) H
def spGrown (K : PySem.W.Frag) : Sp := fun vs H Q _ => ∃ (a : Wr) (q : Addr) (n b : Int), vs = [.ref q, .int n, .int b] ∧ WrapAt K H q a ∧ a.ok ∧ 2 ≤ b ∧ b ≤ 256 ∧ 0 ≤ n ∧ n < 2 ^ 3000 ∧ Q (.int (a.gr b n)) H
def spSize (K : PySem.W.Frag) : Sp := fun vs H Q _ => ∃ (a : Wr) (q : Addr) (n b : Int), vs = [.ref q, .int n, .int b] ∧ WrapAt K H q a ∧ a.ok ∧ 2 ≤ b ∧ b ≤ 256 ∧ 0 ≤ n ∧ n ≤ 10 ^ 60 - 1 ∧ Q (.int (a.gr b n)) H
theorem ifs_neg {x y : Str} {A B : Prop} (h : x ≠ y) (hB : B) : if decide (V.str x = V.str y) = true then A else B := by
  rw [decide_eq_false (fun z => h (by injection z)), if_neg Bool.false_ne_true]
  exact hB
theorem nums_first {a : Wr} : ∃ m, (a.nums.map V.int)[0]? = some (.int m) ∧ ∃ l, atI (a.nums.map V.int) (-1) = some (.int l) := by
  cases a <;> exact ⟨_, rfl, _, rfl⟩
section
variable {P : Program} {w : World} {K : PySem.W.Frag} {mg : Str → Option Value} {base : Heap}
theorem ok_begun (T : Tx w K mg) : Prom P w K mg base CX0 1 "begun" s_begun ["length", "whole"] spBegun := by
  refine Prom.of T.d_begun sc_begun (fun vs H Q E h => ?_) (fun _ _ _ _ _ _ us hl => match us, hl with | [_, _], _ => rfl) (fun f cdv A outer s H vs Q E hr h => ?_)
  · obtain ⟨n, m, rfl, _⟩ := h
    rfl
  · obtain ⟨n, m, rfl, h0, h1, k⟩ := h
    refine ⟨_, (pss_one (ps_ret (pe_op op_fdiv (pe_op op_sub (pe_op op_add (pv 0) (pv 1)) pe_int) (pv 1)))), ?_⟩
    exact ⟨_, rfl, _, rfl, _, _, rfl, rfl, _, _, rfl, rfl, _, rfl, _, _, rfl, rfl, ⟨by omega, by omega⟩, k⟩
theorem ok_in_pieces (T : Tx w K mg) : Prom P w K mg base CX0 2 "in_pieces" s_in_pieces ["length", "most", "constant", "base"] spPieces := by
  refine Prom.of T.d_in_pieces sc_in_pieces (fun vs H Q E h => ?_) (fun _ _ _ _ _ _ us hl => match us, hl with | [_, _, _, _], _ => rfl) (fun f cdv A outer s H vs Q E hr h => ?_)
  · obtain ⟨n, m, c, b, rfl, _⟩ := h
    rfl
  · obtain ⟨n, m, c, b, rfl, n0, m0, m1, c0, c1, b0, b1, k⟩ := h
    have f1 := fig_small (b := b) (m := m) b0 m1
    have f2 := figF_pos (b := b) (n := m) b0
    have r0 := Int.emod_nonneg n (show m ≠ 0 by omega)
    have r1 := Int.emod_lt_of_pos n (show 0 < m by omega)
    have big : ∀ x : Int, x ≤ 60 → x < 2 ^ 4000 := fun x hx => Int.lt_of_le_of_lt hx (by decide)
    refine ⟨_, (pss_cons (ps_set (i := 4) sc_in_pieces.nd rfl (Or.inl rfl) (pe_op op_mul (pe_op op_fdiv (pv 0) (pv 1)) (pe_op op_add (pe_op op_add (pv 1) (pv 2)) (pe_callP (ok_figures_of T) (hr.mono (by decide)) (by rfl) pass0 (pa_cons (pv 1) (pa_cons (pv 3) pa_nil))))))
      (pss_cons (ps_set (i := 5) sc_in_pieces.nd rfl (Or.inl rfl) (pe_op op_mod (pe_callTy call_int1 (by rfl) T.b_int (by decide +kernel) (pa_cons (pv 0) pa_nil)) (pv 1)))
      (pss_cons (ps_if (pt_cmp (pc_gt (pv 5) pe_int)) (pss_one (ps_set (i := 4) sc_in_pieces.nd rfl (Or.inl rfl) (pe_op op_add (pe_op op_add (pe_op op_add (pv 4) (pv 5)) (pv 2)) (pe_callP (ok_figures_of T) (hr.mono (by decide)) (by rfl) pass0 (pa_cons (pv 5) (pa_cons (pv 3) pa_nil)))))) pss_nil)
      (pss_one (ps_ret (pe_op op_add (pe_op op_add (pv 4) (pv 2)) pe_int)))))), ?_⟩
    refine ⟨_, rfl, _, rfl, _, _, rfl, rfl, ⟨by omega, by omega⟩, _, rfl, _, rfl, _, _, rfl, rfl, _, rfl, _, rfl, m, b, rfl, b0, b1, big m m1, fun g hg => ?_⟩
    have eg := figF_eq b0 hg
    subst eg
    refine ⟨_, _, rfl, rfl, _, _, rfl, rfl, .inr ⟨by omega, by omega⟩, ?_⟩
    refine ⟨_, rfl, .inl ⟨_, rfl, _, rfl, _, _, rfl, rfl, (show 0 < m by omega), ?_⟩⟩
    simp only [Wr.gr] at k
    refine ⟨_, rfl, _, _, rfl, rfl, _, rfl, ifd (fun h1 => ?_) (fun h1 => ?_)⟩
    · have h1 : 0 < n % m := h1
      rw [if_pos h1] at k
      refine ⟨_, rfl, _, rfl, _, _, rfl, rfl, _, rfl, _, _, rfl, rfl, _, rfl, _, rfl, n % m, b, rfl, b0, b1, big _ (by omega), fun g hg => ?_⟩
      have eg := figF_eq b0 hg
      subst eg
      refine ⟨_, _, rfl, rfl, ?_⟩
      refine ⟨_, rfl, _, rfl, _, _, rfl, rfl, _, _, rfl, rfl, ?_⟩
      have e : n / m * (m + c + figF b m) + n % m + c + figF b (n % m) + c + 1 = n / m * (m + c + figF b m) + (n % m + c + figF b (n % m)) + c + 1 := by omega
      rw [← e] at k
      exact k
    · have h1 : ¬ 0 < n % m := h1
      rw [if_neg h1] at k
      refine ⟨_, rfl, _, rfl, _, _, rfl, rfl, _, _, rfl, rfl, ?_⟩
      have e : n / m * (m + c + figF b m) + 0 + c + 1 = n / m * (m + c + figF b m) + c + 1 := by omega
      rw [e] at k
      exact k
theorem ok_Wrap_grown (T : Tx w K mg) : PromM P w K mg base CX0 3 "Wrap" "grown" ["self", "length", "base"] (spGrown K) := by
  refine PromM.of T.cl_Wrap T.me_Wrap_grown T.dm_Wrap_grown sc_Wrap_grown (fun vs H Q E h => ?_) (fun _ _ _ _ _ _ us hl => match us, hl with | [_, _, _], _ => rfl) (fun f cdv A outer s H vs Q E hr h => ?_)
  · obtain ⟨a, q, n, b, rfl, _⟩ := h
    rfl
  · obtain ⟨a, q, n, b, rfl, ⟨dx, p, hq, hp⟩, ha, b0, b1, n0, n1, k⟩ := h
    obtain ⟨x1, hm, x2, hl⟩ := nums_first (a := a)
    refine ⟨_, (pss_cons (ps_par (i := 3) (j := 4) (by rfl) sc_Wrap_grown.nd rfl rfl (by decide) rfl rfl (pa_cons (pe_ix ix_tup (pe_fld (pv 0) rfl) pe_int (fun _ _ => rfl)) (pa_cons (pe_ix ix_tup (pe_fld (pv 0) rfl) (pe_un un_neg pe_int) (fun _ _ => rfl)) pa_nil)) (by rfl))
      (pss_cons (ps_if (pt_cmpR op_eq (pe_fld (pv 0) rfl) pe_str (nomark _)) (pss_one (ps_ret (pe_op op_add (pv 1) (pv 3)))) pss_nil)
      (pss_cons (ps_if (pt_cmpR op_eq (pe_fld (pv 0) rfl) pe_str (nomark _)) (pss_one (ps_ret (pe_op op_add (pe_op op_add (pv 1) (pv 3)) (pe_callP (ok_figures_of T) (hr.mono (by decide)) (by rfl) pass0 (pa_cons (pv 1) (pa_cons (pv 2) pa_nil)))))) pss_nil)
      (pss_cons (ps_if (pt_cmpR op_eq (pe_fld (pv 0) rfl) pe_str (nomark _)) (pss_one (ps_ret (pe_callP (ok_total_of T) (hr.mono (by decide)) (by rfl) pass0 (pa_cons (pe_op op_add (pv 1) (pv 3)) (pa_cons (pv 2) pa_nil))))) pss_nil)
      (pss_cons (ps_if (pt_cmpR op_eq (pe_fld (pv 0) rfl) pe_str (nomark _)) (pss_one (ps_ret (pe_op op_mul (pe_callP (ok_begun T) (hr.mono (by decide)) (by rfl) pass0 (pa_cons (pv 1) (pa_cons (pv 3) pa_nil))) (pv 4)))) pss_nil)
      (pss_cons (ps_if (pt_cmpR op_eq (pe_fld (pv 0) rfl) pe_str (nomark _)) (pss_one (ps_ret (pe_op op_mul (pe_callP (ok_begun T) (hr.mono (by decide)) (by rfl) pass0 (pa_cons (pv 1) (pa_cons (pv 3) pa_nil))) (pv 3)))) pss_nil)
      (pss_cons (ps_if (pt_cmpR op_eq (pe_fld (pv 0) rfl) pe_str (nomark _)) (pss_one (ps_ret (pe_op op_add (pv 1) (pe_op op_mul (pe_callP (ok_begun T) (hr.mono (by decide)) (by rfl) pass0 (pa_cons (pv 1) (pa_cons (pv 3) pa_nil))) (pv 4))))) pss_nil)
      (pss_one (ps_ret (pe_callP (ok_in_pieces T) (hr.mono (by decide)) (by rfl) pass0 (pa_cons (pv 1) (pa_cons (pv 3) (pa_cons (pv 4) (pa_cons (pv 2) pa_nil)))))))))))))), ?_⟩
    refine ⟨_, rfl, q, _, dx, _, _, rfl, hq, T.cl_Wrap, T.na_Wrap_numbers, rfl, p, _, _, _, rfl, rfl, SqT.of hp, atI_nat (j := 0) hm, ?_⟩
    have big : ∀ x : Int, x ≤ n → x < 2 ^ 4000 := fun x hx => Int.lt_of_lt_of_le (show x < 2 ^ 3000 by omega) (by decide)
    refine ⟨_, rfl, q, _, dx, _, _, rfl, hq, T.cl_Wrap, T.na_Wrap_numbers, rfl, _, rfl, p, _, _, _, rfl, rfl, SqT.of hp, hl, _, _, rfl, ?_⟩
    cases a with
    | plus c =>
      have e1 : c = x1 := by injection hm with z; injection z
      have e2 : c = x2 := by injection hl with z; injection z
      subst e1 e2
      simp only [Wr.ok] at ha
      refine ⟨_, rfl, q, _, dx, _, _, rfl, hq, T.cl_Wrap, T.na_Wrap_kind, rfl, rfl, _, rfl, ifd_pos rfl ?_⟩
      exact ⟨_, rfl, _, rfl, _, _, rfl, rfl, k⟩
    | told c =>
      have e1 : c = x1 := by injection hm with z; injection z
      have e2 : c = x2 := by injection hl with z; injection z
      subst e1 e2
      simp only [Wr.ok] at ha
      refine ⟨_, rfl, q, _, dx, _, _, rfl, hq, T.cl_Wrap, T.na_Wrap_kind, rfl, rfl, _, rfl, ifs_neg (show ("told" : Str) ≠ "plus" by decide) ?_⟩
      refine ⟨_, rfl, q, _, dx, _, _, rfl, hq, T.cl_Wrap, T.na_Wrap_kind, rfl, rfl, _, rfl, ifd_pos rfl ?_⟩
      refine ⟨_, rfl, _, rfl, _, _, rfl, rfl, _, rfl, _, rfl, n, b, rfl, b0, b1, big n (by omega), fun g hg => ?_⟩
      have eg := figF_eq b0 hg
      subst eg
      exact ⟨_, _, rfl, rfl, k⟩
    | whole c =>
      have e1 : c = x1 := by injection hm with z; injection z
      have e2 : c = x2 := by injection hl with z; injection z
      subst e1 e2
      simp only [Wr.ok] at ha
      refine ⟨_, rfl, q, _, dx, _, _, rfl, hq, T.cl_Wrap, T.na_Wrap_kind, rfl, rfl, _, rfl, ifs_neg (show ("whole" : Str) ≠ "plus" by decide) ?_⟩
      refine ⟨_, rfl, q, _, dx, _, _, rfl, hq, T.cl_Wrap, T.na_Wrap_kind, rfl, rfl, _, rfl, ifs_neg (show ("whole" : Str) ≠ "told" by decide) ?_⟩
      refine ⟨_, rfl, q, _, dx, _, _, rfl, hq, T.cl_Wrap, T.na_Wrap_kind, rfl, rfl, _, rfl, ifd_pos rfl ?_⟩
      refine ⟨_, rfl, _, rfl, _, _, rfl, rfl, _, rfl, n + c, b, rfl, b0, b1, by omega, Int.lt_of_lt_of_le (show n + c < 2 ^ 3000 + 1001 by omega) (by decide), fun s hs _ => ?_⟩
      have eg := totF_eq b0 (show 0 ≤ n + c by omega) hs
      subst eg
      exact k
    | pieces m c =>
      have e1 : m = x1 := by injection hm with z; injection z
      have e2 : c = x2 := by injection hl with z; injection z
      subst e1 e2
      simp only [Wr.ok] at ha
      refine ⟨_, rfl, q, _, dx, _, _, rfl, hq, T.cl_Wrap, T.na_Wrap_kind, rfl, rfl, _, rfl, ifs_neg (show ("pieces" : Str) ≠ "plus" by decide) ?_⟩
      refine ⟨_, rfl, q, _, dx, _, _, rfl, hq, T.cl_Wrap, T.na_Wrap_kind, rfl, rfl, _, rfl, ifs_neg (show ("pieces" : Str) ≠ "told" by decide) ?_⟩
      refine ⟨_, rfl, q, _, dx, _, _, rfl, hq, T.cl_Wrap, T.na_Wrap_kind, rfl, rfl, _, rfl, ifs_neg (show ("pieces" : Str) ≠ "whole" by decide) ?_⟩
      refine ⟨_, rfl, q, _, dx, _, _, rfl, hq, T.cl_Wrap, T.na_Wrap_kind, rfl, rfl, _, rfl, ifs_neg (show ("pieces" : Str) ≠ "coded" by decide) ?_⟩
      refine ⟨_, rfl, q, _, dx, _, _, rfl, hq, T.cl_Wrap, T.na_Wrap_kind, rfl, rfl, _, rfl, ifs_neg (show ("pieces" : Str) ≠ "filled" by decide) ?_⟩
      refine ⟨_, rfl, q, _, dx, _, _, rfl, hq, T.cl_Wrap, T.na_Wrap_kind, rfl, rfl, _, rfl, ifs_neg (show ("pieces" : Str) ≠ "cut" by decide) ?_⟩
      exact ⟨_, rfl, _, rfl, _, rfl, _, rfl, n, m, c, b, rfl, n0, by omega, by omega, by omega, by omega, b0, b1, k⟩
    | cut m c =>
      have e1 : m = x1 := by injection hm with z; injection z
      have e2 : c = x2 := by injection hl with z; injection z
      subst e1 e2
      simp only [Wr.ok] at ha
      refine ⟨_, rfl, q, _, dx, _, _, rfl, hq, T.cl_Wrap, T.na_Wrap_kind, rfl, rfl, _, rfl, ifs_neg (show ("cut" : Str) ≠ "plus" by decide) ?_⟩
      refine ⟨_, rfl, q, _, dx, _, _, rfl, hq, T.cl_Wrap, T.na_Wrap_kind, rfl, rfl, _, rfl, ifs_neg (show ("cut" : Str) ≠ "told" by decide) ?_⟩
      refine ⟨_, rfl, q, _, dx, _, _, rfl, hq, T.cl_Wrap, T.na_Wrap_kind, rfl, rfl, _, rfl, ifs_neg (show ("cut" : Str) ≠ "whole" by decide) ?_⟩
      refine ⟨_, rfl, q, _, dx, _, _, rfl, hq, T.cl_Wrap, T.na_Wrap_kind, rfl, rfl, _, rfl, ifs_neg (show ("cut" : Str) ≠ "coded" by decide) ?_⟩
      refine ⟨_, rfl, q, _, dx, _, _, rfl, hq, T.cl_Wrap, T.na_Wrap_kind, rfl, rfl, _, rfl, ifs_neg (show ("cut" : Str) ≠ "filled" by decide) ?_⟩
      refine ⟨_, rfl, q, _, dx, _, _, rfl, hq, T.cl_Wrap, T.na_Wrap_kind, rfl, rfl, _, rfl, ifd_pos rfl ?_⟩
      exact ⟨_, rfl, _, rfl, _, rfl, n, m, rfl, by omega, by omega, _, rfl, _, _, rfl, rfl, .inr ⟨by omega, by omega⟩, _, _, rfl, rfl, k⟩
    | coded m c =>
      have e1 : m = x1 := by injection hm with z; injection z
      have e2 : c = x2 := by injection hl with z; injection z
      subst e1 e2
      simp only [Wr.ok] at ha
      refine ⟨_, rfl, q, _, dx, _, _, rfl, hq, T.cl_Wrap, T.na_Wrap_kind, rfl, rfl, _, rfl, ifs_neg (show ("coded" : Str) ≠ "plus" by decide) ?_⟩
      refine ⟨_, rfl, q, _, dx, _, _, rfl, hq, T.cl_Wrap, T.na_Wrap_kind, rfl, rfl, _, rfl, ifs_neg (show ("coded" : Str) ≠ "told" by decide) ?_⟩
      refine ⟨_, rfl, q, _, dx, _, _, rfl, hq, T.cl_Wrap, T.na_Wrap_kind, rfl, rfl, _, rfl, ifs_neg (show ("coded" : Str) ≠ "whole" by decide) ?_⟩
      refine ⟨_, rfl, q, _, dx, _, _, rfl, hq, T.cl_Wrap, T.na_Wrap_kind, rfl, rfl, _, rfl, ifd_pos rfl ?_⟩
      exact ⟨_, rfl, _, rfl, n, m, rfl, by omega, by omega, _, rfl, _, _, rfl, rfl, .inr ⟨by omega, by omega⟩, k⟩
    | filled m =>
      have e1 : m = x1 := by injection hm with z; injection z
      have e2 : m = x2 := by injection hl with z; injection z
      subst e1 e2
      simp only [Wr.ok] at ha
      refine ⟨_, rfl, q, _, dx, _, _, rfl, hq, T.cl_Wrap, T.na_Wrap_kind, rfl, rfl, _, rfl, ifs_neg (show ("filled" : Str) ≠ "plus" by decide) ?_⟩
      refine ⟨_, rfl, q, _, dx, _, _, rfl, hq, T.cl_Wrap, T.na_Wrap_kind, rfl, rfl, _, rfl, ifs_neg (show ("filled" : Str) ≠ "told" by decide) ?_⟩
      refine ⟨_, rfl, q, _, dx, _, _, rfl, hq, T.cl_Wrap, T.na_Wrap_kind, rfl, rfl, _, rfl, ifs_neg (show ("filled" : Str) ≠ "whole" by decide) ?_⟩
      refine ⟨_, rfl, q, _, dx, _, _, rfl, hq, T.cl_Wrap, T.na_Wrap_kind, rfl, rfl, _, rfl, ifs_neg (show ("filled" : Str) ≠ "coded" by decide) ?_⟩
      refine ⟨_, rfl, q, _, dx, _, _, rfl, hq, T.cl_Wrap, T.na_Wrap_kind, rfl, rfl, _, rfl, ifd_pos rfl ?_⟩
      exact ⟨_, rfl, _, rfl, n, m, rfl, by omega, by omega, _, rfl, _, _, rfl, rfl, .inr ⟨by omega, by omega⟩, k⟩
end
/-! ### stacks -/
def stepF (p : Int) : Wr → Int
  | .coded m c => p * m * c
  | .pieces m _ => p * m
  | .cut m _ => p * m
  | .filled m => p * m
  | _ => p
def fineL (ws : List Wr) : Int := ws.foldl stepF 1
inductive WrapsAt (K : PySem.W.Frag) (H : Hp) : List V → List Wr → Prop where
  | nil : WrapsAt K H [] []
  | cons {a : Addr} {x : Wr} {xs : List V} {ws : List Wr} (h : WrapAt K H a x) (r : WrapsAt K H xs ws) : WrapsAt K H (.ref a :: xs) (x :: ws)
theorem WrapsAt.len {K : PySem.W.Frag} {H : Hp} {xs : List V} {ws : List Wr} (h : WrapsAt K H xs ws) : xs.length = ws.length := by
  induction h with
  | nil => rfl
  | cons _ _ ih => exact congrArg (· + 1) ih
theorem WrapsAt.get {K : PySem.W.Frag} {H : Hp} {xs : List V} {ws : List Wr} (h : WrapsAt K H xs ws) : ∀ {i : Nat} {x : V}, xs[i]? = some x → ∃ (a : Addr) (y : Wr), x = .ref a ∧ ws[i]? = some y ∧ WrapAt K H a y := by
  induction h with
  | nil =>
    intro i x e
    simp at e
  | cons h _ ih =>
    intro i x e
    cases i with
    | zero =>
      simp at e
      exact ⟨_, _, e.symm, rfl, h⟩
    | succ i => exact ih (by simpa using e)
theorem WrapsAt.same {K : PySem.W.Frag} {H H' : Hp} {xs : List V} {ws : List Wr} (h : WrapsAt K H xs ws) (s : Same H H') : WrapsAt K H' xs ws := by
  induction h with
  | nil => exact .nil
  | cons h _ ih => exact .cons (h.same s) ih
theorem WrapsAt.snoc {K : PySem.W.Frag} {H : Hp} {xs : List V} {ws : List Wr} {a : Addr} {x : Wr} (h : WrapsAt K H xs ws) (hx : WrapAt K H a x) : WrapsAt K H (xs ++ [.ref a]) (ws ++ [x]) := by
  induction h with
  | nil => exact .cons hx .nil
  | cons h _ ih => exact .cons h ih
def stkFs (b : Int) (t : Addr) (ws : List Wr) : List (Str × V) := [("base", .int b), ("wraps", .ref t), ("fineness", .int (fineL ws))]
structure StkOk (b : Int) (ws : List Wr) : Prop where
  b0 : 2 ≤ b
  b1 : b ≤ 256
  ok : ∀ a ∈ ws, a.ok
  len : ws.length ≤ 6
  fine : fineL ws ≤ 120
/-- a stack stands there -/
def StkAt (K : PySem.W.Frag) (H : Hp) (q : Addr) (b : Int) (ws : List Wr) : Prop := ∃ dx t xs, H q = some (.ins (He.ga K "Stack") dx (stkFs b t ws)) ∧ H t = some (.tup xs) ∧ WrapsAt K H xs ws
theorem StkAt.same {K : PySem.W.Frag} {H H' : Hp} {q : Addr} {b : Int} {ws : List Wr} (h : StkAt K H q b ws) (s : Same H H') : StkAt K H' q b ws := by
  obtain ⟨dx, t, xs, h1, h2, h3⟩ := h
  exact ⟨dx, t, xs, s _ _ h1, s _ _ h2, h3.same s⟩
/-- the size behind all wraps -/
noncomputable def grS (b : Int) (ws : List Wr) (n : Int) : Int := ws.foldl (fun m a => a.gr b m) n
def spFine (K : PySem.W.Frag) : Sp := fun vs H Q _ => ∃ (t : Addr) (xs : List V) (ws : List Wr), vs = [.ref t] ∧ (SqL K H t xs ∨ SqT K H t xs) ∧ WrapsAt K H xs ws ∧ (∀ a ∈ ws, a.ok) ∧ ∀ H', Same H H' → Q (.int (fineL ws)) H'
def spWraps (K : PySem.W.Frag) : Sp := fun vs H Q _ => ∃ (t : Addr) (xs : List V) (ws : List Wr), vs = [.ref t, .int 6] ∧ SqT K H t xs ∧ WrapsAt K H xs ws ∧ ws.length ≤ 6 ∧ ∀ H', Same H H' → Q .non H'
section
variable {P : Program} {w : World} {K : PySem.W.Frag} {mg : Str → Option Value} {base : Heap}
theorem up {H' : Hp} {z : Addr} {o : HO} (hz : H' z = none) : Same H' (upd H' z o) := fun y u e => by
  rw [upd_ne (ne_of_none e hz)]
  exact e
theorem ifb_pos {b : Bool} {A B : Prop} (h : b = true) (a : A) : if b = true then A else B := by
  rw [if_pos h]
  exact a
theorem ifb_neg {b : Bool} {A B : Prop} (h : b = false) (a : B) : if b = true then A else B := by
  rw [h, if_neg Bool.false_ne_true]
  exact a
theorem ok_fineness_of (T : Tx w K mg) : Prom P w K mg base CX0 1 "fineness_of" s_fineness_of ["wraps"] (spFine K) := by
  refine Prom.of T.d_fineness_of sc_fineness_of (fun vs H Q E h => ?_) (fun _ _ _ _ _ _ us hl => match us, hl with | [_], _ => rfl) (fun f cdv A outer s H vs Q E hr h => ?_)
  · obtain ⟨t, xs, ws, rfl, _⟩ := h
    rfl
  · obtain ⟨t, xs, ws, rfl, hT, hw, ha, k⟩ := h
    have inv : True := trivial
    refine ⟨_, (pss_cons (ps_set (i := 1) sc_fineness_of.nd rfl (Or.inl rfl) pe_int)
      (pss_cons (ps_for PassesOwn.never (by rfl) (pi_seq (pv 0)) (pg_name (i := 2) sc_fineness_of.nd rfl (Or.inl rfl)) (pss_one (ps_if (pt_cmpR op_eq (pe_fld (pv 2) rfl) pe_str (nomark _)) (pss_one (ps_set (i := 1) sc_fineness_of.nd rfl (Or.inl rfl) (pe_op op_mul (pe_op op_mul (pv 1) (pe_ix ix_tup (pe_fld (pv 2) rfl) pe_int (fun _ _ => rfl))) (pe_ix ix_tup (pe_fld (pv 2) rfl) pe_int (fun _ _ => rfl))))) (pss_one (ps_if (pt_cmpR op_in_seq (pe_fld (pv 2) rfl) (pe_tup (pa_cons pe_str (pa_cons pe_str (pa_cons pe_str pa_nil)))) (by rfl)) (pss_one (ps_set (i := 1) sc_fineness_of.nd rfl (Or.inl rfl) (pe_op op_mul (pv 1) (pe_ix ix_tup (pe_fld (pv 2) rfl) pe_int (fun _ _ => rfl))))) pss_nil)))))
      (pss_one (ps_ret (pv 1))))), ?_⟩
    rcases hT with hT | hT
    · have hT' : ∀ {H' : Hp}, Same H H' → SqL K H' t xs := fun {H'} hs => hs.seq hT
      refine .inl ⟨_, rfl, t, rfl, ⟨_, hT⟩, for_it (walk_list (K := K) (a := t) (xs := xs)) (fun i σ H' => Same H H' ∧ ∃ v, σ = [some (.ref t), some (.int ((ws.take i).foldl stepF 1)), v]) ⟨Same.refl H, none, rfl⟩ (fun _ _ H' _ h => hT' h.1) ?_ ?_⟩
      · rintro i x σ H1 H2 hi ⟨hs, v, rfl⟩ ⟨rfl, hx⟩
        obtain ⟨q, a, rfl, hq, hw1⟩ := hw.get hx
        have hok := ha a (List.mem_of_getElem? hq)
        obtain ⟨dx, p, h1, h2⟩ := hw1.same hs
        have et : (ws.take (i + 1)).foldl stepF 1 = stepF ((ws.take i).foldl stepF 1) a := by
          rw [List.take_succ, hq, List.foldl_append]
          rfl
        generalize (ws.take i).foldl stepF 1 = m at et ⊢
        rw [et]
        have num : ∀ {j : Nat} {n : Int}, a.nums[j]? = some n → atI (a.nums.map V.int) ((j : Nat) : Int) = some (.int n) := fun {j n} hj => atI_nat (by rw [List.getElem?_map, hj]; rfl)
        refine ⟨_, rfl, q, _, dx, _, _, rfl, h1, T.cl_Wrap, T.na_Wrap_kind, rfl, rfl, _, rfl, ?_⟩
        cases a with
        | coded m' c =>
          refine ifd_pos rfl ?_
          simp only [Wr.ok] at hok
          refine ⟨_, rfl, _, rfl, q, _, dx, _, _, rfl, h1, T.cl_Wrap, T.na_Wrap_numbers, rfl, p, _, _, _, rfl, rfl, SqT.of h2, num (j := 0) rfl, _, _, rfl, rfl, .inr ⟨by omega, by omega⟩, ?_⟩
          refine ⟨_, rfl, q, _, dx, _, _, rfl, h1, T.cl_Wrap, T.na_Wrap_numbers, rfl, p, _, _, _, rfl, rfl, SqT.of h2, num (j := 1) rfl, _, _, rfl, rfl, .inr ⟨by omega, by omega⟩, ?_⟩
          exact ⟨hs, _, rfl⟩
        | plus c =>
          refine ifs_neg (show ("plus" : Str) ≠ "coded" by decide) ?_
          refine ⟨_, rfl, q, _, dx, _, _, rfl, h1, T.cl_Wrap, T.na_Wrap_kind, rfl, (by show 3 ≤ sizeLine; decide), fun t2 ht2 => ?_⟩
          refine ⟨t2, _, rfl, .inr (SqT.of upd_same), rfl, rfl, _, rfl, ifb_neg (by kernel_rfl) ?_⟩
          exact ⟨hs.trans (up ht2), _, rfl⟩
        | told c =>
          refine ifs_neg (show ("told" : Str) ≠ "coded" by decide) ?_
          refine ⟨_, rfl, q, _, dx, _, _, rfl, h1, T.cl_Wrap, T.na_Wrap_kind, rfl, (by show 3 ≤ sizeLine; decide), fun t2 ht2 => ?_⟩
          refine ⟨t2, _, rfl, .inr (SqT.of upd_same), rfl, rfl, _, rfl, ifb_neg (by kernel_rfl) ?_⟩
          exact ⟨hs.trans (up ht2), _, rfl⟩
        | whole c =>
          refine ifs_neg (show ("whole" : Str) ≠ "coded" by decide) ?_
          refine ⟨_, rfl, q, _, dx, _, _, rfl, h1, T.cl_Wrap, T.na_Wrap_kind, rfl, (by show 3 ≤ sizeLine; decide), fun t2 ht2 => ?_⟩
          refine ⟨t2, _, rfl, .inr (SqT.of upd_same), rfl, rfl, _, rfl, ifb_neg (by kernel_rfl) ?_⟩
          exact ⟨hs.trans (up ht2), _, rfl⟩
        | pieces m' c =>
          refine ifs_neg (show ("pieces" : Str) ≠ "coded" by decide) ?_
          simp only [Wr.ok] at hok
          refine ⟨_, rfl, q, _, dx, _, _, rfl, h1, T.cl_Wrap, T.na_Wrap_kind, rfl, (by show 3 ≤ sizeLine; decide), fun t2 ht2 => ?_⟩
          refine ⟨t2, _, rfl, .inr (SqT.of upd_same), rfl, rfl, _, rfl, ifb_pos (by kernel_rfl) ?_⟩
          have g1 := (up ht2 (o := .tup [V.str "pieces", V.str "cut", V.str "filled"])) _ _ h1
          have g2 := (up ht2 (o := .tup [V.str "pieces", V.str "cut", V.str "filled"])) _ _ h2
          refine ⟨_, rfl, _, rfl, q, _, dx, _, _, rfl, g1, T.cl_Wrap, T.na_Wrap_numbers, rfl, p, _, _, _, rfl, rfl, SqT.of g2, num (j := 0) rfl, _, _, rfl, rfl, .inr ⟨by omega, by omega⟩, ?_⟩
          exact ⟨hs.trans (up ht2), _, rfl⟩
        | cut m' c =>
          refine ifs_neg (show ("cut" : Str) ≠ "coded" by decide) ?_
          simp only [Wr.ok] at hok
          refine ⟨_, rfl, q, _, dx, _, _, rfl, h1, T.cl_Wrap, T.na_Wrap_kind, rfl, (by show 3 ≤ sizeLine; decide), fun t2 ht2 => ?_⟩
          refine ⟨t2, _, rfl, .inr (SqT.of upd_same), rfl, rfl, _, rfl, ifb_pos (by kernel_rfl) ?_⟩
          have g1 := (up ht2 (o := .tup [V.str "pieces", V.str "cut", V.str "filled"])) _ _ h1
          have g2 := (up ht2 (o := .tup [V.str "pieces", V.str "cut", V.str "filled"])) _ _ h2
          refine ⟨_, rfl, _, rfl, q, _, dx, _, _, rfl, g1, T.cl_Wrap, T.na_Wrap_numbers, rfl, p, _, _, _, rfl, rfl, SqT.of g2, num (j := 0) rfl, _, _, rfl, rfl, .inr ⟨by omega, by omega⟩, ?_⟩
          exact ⟨hs.trans (up ht2), _, rfl⟩
        | filled m' =>
          refine ifs_neg (show ("filled" : Str) ≠ "coded" by decide) ?_
          simp only [Wr.ok] at hok
          refine ⟨_, rfl, q, _, dx, _, _, rfl, h1, T.cl_Wrap, T.na_Wrap_kind, rfl, (by show 3 ≤ sizeLine; decide), fun t2 ht2 => ?_⟩
          refine ⟨t2, _, rfl, .inr (SqT.of upd_same), rfl, rfl, _, rfl, ifb_pos (by kernel_rfl) ?_⟩
          have g1 := (up ht2 (o := .tup [V.str "pieces", V.str "cut", V.str "filled"])) _ _ h1
          have g2 := (up ht2 (o := .tup [V.str "pieces", V.str "cut", V.str "filled"])) _ _ h2
          refine ⟨_, rfl, _, rfl, q, _, dx, _, _, rfl, g1, T.cl_Wrap, T.na_Wrap_numbers, rfl, p, _, _, _, rfl, rfl, SqT.of g2, num (j := 0) rfl, _, _, rfl, rfl, .inr ⟨by omega, by omega⟩, ?_⟩
          exact ⟨hs.trans (up ht2), _, rfl⟩
      · rintro σ H' ⟨hs, v, rfl⟩
        rw [hw.len, List.take_length]
        exact ⟨_, rfl, k _ hs⟩
    · have hT' : ∀ {H' : Hp}, Same H H' → SqT K H' t xs := fun {H'} hs => by
        rcases hT with (h | ⟨o, h⟩) | h
        · exact .inl (.inl (hs _ _ h))
        · exact .inl (.inr ⟨o, hs _ _ h⟩)
        · exact .inr h
      refine .inr ⟨_, rfl, t, rfl, ⟨_, hT⟩, for_it (walk_tup (K := K) (a := t) (xs := xs)) (fun i σ H' => Same H H' ∧ ∃ v, σ = [some (.ref t), some (.int ((ws.take i).foldl stepF 1)), v]) ⟨Same.refl H, none, rfl⟩ (fun _ _ H' _ h => hT' h.1) ?_ ?_⟩
      · rintro i x σ H1 H2 hi ⟨hs, v, rfl⟩ ⟨rfl, hx⟩
        obtain ⟨q, a, rfl, hq, hw1⟩ := hw.get hx
        have hok := ha a (List.mem_of_getElem? hq)
        obtain ⟨dx, p, h1, h2⟩ := hw1.same hs
        have et : (ws.take (i + 1)).foldl stepF 1 = stepF ((ws.take i).foldl stepF 1) a := by
          rw [List.take_succ, hq, List.foldl_append]
          rfl
        generalize (ws.take i).foldl stepF 1 = m at et ⊢
        rw [et]
        have num : ∀ {j : Nat} {n : Int}, a.nums[j]? = some n → atI (a.nums.map V.int) ((j : Nat) : Int) = some (.int n) := fun {j n} hj => atI_nat (by rw [List.getElem?_map, hj]; rfl)
        refine ⟨_, rfl, q, _, dx, _, _, rfl, h1, T.cl_Wrap, T.na_Wrap_kind, rfl, rfl, _, rfl, ?_⟩
        cases a with
        | coded m' c =>
          refine ifd_pos rfl ?_
          simp only [Wr.ok] at hok
          refine ⟨_, rfl, _, rfl, q, _, dx, _, _, rfl, h1, T.cl_Wrap, T.na_Wrap_numbers, rfl, p, _, _, _, rfl, rfl, SqT.of h2, num (j := 0) rfl, _, _, rfl, rfl, .inr ⟨by omega, by omega⟩, ?_⟩
          refine ⟨_, rfl, q, _, dx, _, _, rfl, h1, T.cl_Wrap, T.na_Wrap_numbers, rfl, p, _, _, _, rfl, rfl, SqT.of h2, num (j := 1) rfl, _, _, rfl, rfl, .inr ⟨by omega, by omega⟩, ?_⟩
          exact ⟨hs, _, rfl⟩
        | plus c =>
          refine ifs_neg (show ("plus" : Str) ≠ "coded" by decide) ?_
          refine ⟨_, rfl, q, _, dx, _, _, rfl, h1, T.cl_Wrap, T.na_Wrap_kind, rfl, (by show 3 ≤ sizeLine; decide), fun t2 ht2 => ?_⟩
          refine ⟨t2, _, rfl, .inr (SqT.of upd_same), rfl, rfl, _, rfl, ifb_neg (by kernel_rfl) ?_⟩
          exact ⟨hs.trans (up ht2), _, rfl⟩
        | told c =>
          refine ifs_neg (show ("told" : Str) ≠ "coded" by decide) ?_
          refine ⟨_, rfl, q, _, dx, _, _, rfl, h1, T.cl_Wrap, T.na_Wrap_kind, rfl, (by show 3 ≤ sizeLine; decide), fun t2 ht2 => ?_⟩
          refine ⟨t2, _, rfl, .inr (SqT.of upd_same), rfl, rfl, _, rfl, ifb_neg (by kernel_rfl) ?_⟩
          exact ⟨hs.trans (up ht2), _, rfl⟩
        | whole c =>
          refine ifs_neg (show ("whole" : Str) ≠ "coded" by decide) ?_
          refine ⟨_, rfl, q, _, dx, _, _, rfl, h1, T.cl_Wrap, T.na_Wrap_kind, rfl, (by show 3 ≤ sizeLine; decide), fun t2 ht2 => ?_⟩
          refine ⟨t2, _, rfl, .inr (SqT.of upd_same), rfl, rfl, _, rfl, ifb_neg (by kernel_rfl) ?_⟩
          exact ⟨hs.trans (up ht2), _, rfl⟩
        | pieces m' c =>
          refine ifs_neg (show ("pieces" : Str) ≠ "coded" by decide) ?_
          simp only [Wr.ok] at hok
          refine ⟨_, rfl, q, _, dx, _, _, rfl, h1, T.cl_Wrap, T.na_Wrap_kind, rfl, (by show 3 ≤ sizeLine; decide), fun t2 ht2 => ?_⟩
          refine ⟨t2, _, rfl, .inr (SqT.of upd_same), rfl, rfl, _, rfl, ifb_pos (by kernel_rfl) ?_⟩
          have g1 := (up ht2 (o := .tup [V.str "pieces", V.str "cut", V.str "filled"])) _ _ h1
          have g2 := (up ht2 (o := .tup [V.str "pieces", V.str "cut", V.str "filled"])) _ _ h2
          refine ⟨_, rfl, _, rfl, q, _, dx, _, _, rfl, g1, T.cl_Wrap, T.na_Wrap_numbers, rfl, p, _, _, _, rfl, rfl, SqT.of g2, num (j := 0) rfl, _, _, rfl, rfl, .inr ⟨by omega, by omega⟩, ?_⟩
          exact ⟨hs.trans (up ht2), _, rfl⟩
        | cut m' c =>
          refine ifs_neg (show ("cut" : Str) ≠ "coded" by decide) ?_
          simp only [Wr.ok] at hok
          refine ⟨_, rfl, q, _, dx, _, _, rfl, h1, T.cl_Wrap, T.na_Wrap_kind, rfl, (by show 3 ≤ sizeLine; decide), fun t2 ht2 => ?_⟩
          refine ⟨t2, _, rfl, .inr (SqT.of upd_same), rfl, rfl, _, rfl, ifb_pos (by kernel_rfl) ?_⟩
          have g1 := (up ht2 (o := .tup [V.str "pieces", V.str "cut", V.str "filled"])) _ _ h1
          have g2 := (up ht2 (o := .tup [V.str "pieces", V.str "cut", V.str "filled"])) _ _ h2
          refine ⟨_, rfl, _, rfl, q, _, dx, _, _, rfl, g1, T.cl_Wrap, T.na_Wrap_numbers, rfl, p, _, _, _, rfl, rfl, SqT.of g2, num (j := 0) rfl, _, _, rfl, rfl, .inr ⟨by omega, by omega⟩, ?_⟩
          exact ⟨hs.trans (up ht2), _, rfl⟩
        | filled m' =>
          refine ifs_neg (show ("filled" : Str) ≠ "coded" by decide) ?_
          simp only [Wr.ok] at hok
          refine ⟨_, rfl, q, _, dx, _, _, rfl, h1, T.cl_Wrap, T.na_Wrap_kind, rfl, (by show 3 ≤ sizeLine; decide), fun t2 ht2 => ?_⟩
          refine ⟨t2, _, rfl, .inr (SqT.of upd_same), rfl, rfl, _, rfl, ifb_pos (by kernel_rfl) ?_⟩
          have g1 := (up ht2 (o := .tup [V.str "pieces", V.str "cut", V.str "filled"])) _ _ h1
          have g2 := (up ht2 (o := .tup [V.str "pieces", V.str "cut", V.str "filled"])) _ _ h2
          refine ⟨_, rfl, _, rfl, q, _, dx, _, _, rfl, g1, T.cl_Wrap, T.na_Wrap_numbers, rfl, p, _, _, _, rfl, rfl, SqT.of g2, num (j := 0) rfl, _, _, rfl, rfl, .inr ⟨by omega, by omega⟩, ?_⟩
          exact ⟨hs.trans (up ht2), _, rfl⟩
      · rintro σ H' ⟨hs, v, rfl⟩
        rw [hw.len, List.take_length]
        exact ⟨_, rfl, k _ hs⟩
end
theorem gr_pow {b : Int} {a : Wr} (hb : 2 ≤ b) (h : a.ok) {n : Int} {k : Nat} (hk : 12 ≤ k) (hn : 0 ≤ n) (hn2 : n < 2 ^ k) : 0 ≤ a.gr b n ∧ a.gr b n < 2 ^ (k + 8) := by
  have g := gr_le hb h hn
  have e : (2 : Int) ^ (k + 8) = 2 ^ k * 256 := by rw [Int.pow_add]; rfl
  have e2 : (2 : Int) ^ 12 ≤ 2 ^ k := pow_mono (by decide) hk
  have e3 : (2 : Int) ^ 12 = 4096 := by decide
  omega
theorem grS_pow {b : Int} (hb : 2 ≤ b) : ∀ (ws : List Wr), (∀ a ∈ ws, a.ok) → ∀ {n : Int} {k : Nat}, 12 ≤ k → 0 ≤ n → n < 2 ^ k → 0 ≤ grS b ws n ∧ grS b ws n < 2 ^ (k + 8 * ws.length)
  | [], _, n, k, _, h0, h1 => ⟨h0, h1⟩
  | a :: ws, ha, n, k, hk, h0, h1 => by
    have g := gr_pow hb (ha a (List.mem_cons_self ..)) hk h0 h1
    have ih := grS_pow hb ws (fun x hx => ha x (List.mem_cons_of_mem _ hx)) (show 12 ≤ k + 8 by omega) g.1 g.2
    refine ⟨ih.1, ?_⟩
    have e : k + 8 + 8 * ws.length = k + 8 * (a :: ws).length := by simp; omega
    rw [e] at ih
    exact ih.2
def spStack0 (K : PySem.W.Frag) : Sp := fun vs H Q _ => ∃ (x p dx : Addr) (b : Int) (xs : List V) (ws : List Wr), vs = [.ref x, .int b, .ref p] ∧ StkOk b ws ∧ H x = some (.ins (He.ga K "Stack") dx []) ∧ H p = some (.tup xs) ∧ WrapsAt K H xs ws ∧
  ∀ H', Kp x H H' → H' x = some (.ins (He.ga K "Stack") dx (stkFs b p ws)) → Q .non H'
def spStack (K : PySem.W.Frag) : Sp := fun vs H Q _ => ∃ (b : Int) (xs : List V) (ws : List Wr), vs = .int b :: xs ∧ StkOk b ws ∧ WrapsAt K H xs ws ∧ ∀ q H', H q = none → Same H H' → StkAt K H' q b ws → Q (.ref q) H'
def spSGrown (K : PySem.W.Frag) : Sp := fun vs H Q _ => ∃ (q : Addr) (b : Int) (ws : List Wr) (n : Int), vs = [.ref q, .int n] ∧ StkAt K H q b ws ∧ StkOk b ws ∧ 0 ≤ n ∧ n < 2 ^ 1000 ∧ Q (.int (grS b ws n)) H
def spSSize (K : PySem.W.Frag) : Sp := fun vs H Q _ => ∃ (q : Addr) (b : Int) (ws : List Wr) (n : Int), vs = [.ref q, .int n] ∧ StkAt K H q b ws ∧ StkOk b ws ∧ 0 ≤ n ∧ n ≤ 10 ^ 60 - 1 ∧ Q (.int (grS b ws n)) H
def spIsWrap (K : PySem.W.Frag) : Sp := fun vs H Q _ => ∃ (q : Addr) (a : Wr), vs = [.ref q] ∧ WrapAt K H q a ∧ Q .non H
def spIsStack (K : PySem.W.Frag) : Sp := fun vs H Q _ => ∃ (q : Addr) (b : Int) (ws : List Wr), vs = [.ref q] ∧ StkAt K H q b ws ∧ Q .non H
def spAdd (K : PySem.W.Frag) : Sp := fun vs H Q _ => ∃ (q r : Addr) (b : Int) (ws : List Wr) (a : Wr), vs = [.ref q, .ref r] ∧ StkAt K H q b ws ∧ WrapAt K H r a ∧ ws.length < 6 ∧ StkOk b (ws ++ [a]) ∧ ∀ q' H', H q' = none → Same H H' → StkAt K H' q' b (ws ++ [a]) → Q (.ref q') H'
section
variable {P : Program} {w : World} {K : PySem.W.Frag} {mg : Str → Option Value} {base : Heap}
theorem ok_check_wraps (T : Tx w K mg) : Prom P w K mg base CX0 1 "check_wraps" s_check_wraps ["values", "most"] (spWraps K) := by
  refine Prom.of T.d_check_wraps sc_check_wraps (fun vs H Q E h => ?_) (fun _ _ _ _ _ _ us hl => match us, hl with | [_, _], _ => rfl) (fun f cdv A outer s H vs Q E hr h => ?_)
  · obtain ⟨t, xs, ws, rfl, _⟩ := h
    rfl
  · obtain ⟨t, xs, ws, rfl, hT, hw, hl, k⟩ := h
    have hT' : ∀ {H' : Hp}, Same H H' → SqT K H' t xs := fun {H'} hs => by
      rcases hT with (h | ⟨o, h⟩) | h
      · exact .inl (.inl (hs _ _ h))
      · exact .inl (.inr ⟨o, hs _ _ h⟩)
      · exact .inr h
    have hlx := hw.len
    refine ⟨_, (pss_cons (ps_if (pt_cmp (pc_gt (pe_callB call_len_seq (by rfl) T.b_len (by decide +kernel) (pa_cons (pv 0) pa_nil)) (pv 1))) (pss_one ps_never) pss_nil)
      (pss_one (ps_for PassesOwn.never (by rfl) (pi_enumT (by rfl) T.b_enumerate (pa_cons (pv 0) pa_nil)) (pg_tup rfl (pgs_cons (pg_name (i := 2) sc_check_wraps.nd rfl (Or.inl rfl)) (pgs_cons (pg_name (i := 3) sc_check_wraps.nd rfl (Or.inl rfl)) pgs_nil))) (pss_one (ps_if (pt_not (pt_val (pe_callB call_isi (by rfl) T.b_isinstance (by decide +kernel) (pa_cons (pv 3) (pa_cons (pe_glob (v := .ref _) (by rfl) T.k_Wrap rfl) pa_nil))))) (pss_one ps_never) pss_nil))))), ?_⟩
    refine ⟨_, rfl, t, xs, rfl, .inr hT, _, rfl, _, _, rfl, rfl, _, rfl, ifd (fun c => absurd c (by show ¬ (6 : Int) < (xs.length : Int); omega)) (fun _ => ?_)⟩
    refine ⟨_, rfl, t, xs, rfl, hT, for_it (walk_enumT (K := K) (a := t) (xs := xs)) (fun i σ H' => Same H H' ∧ ∃ v1 v2, σ = [some (.ref t), some (.int 6), v1, v2]) ⟨Same.refl H, none, none, rfl⟩ (fun _ _ H' _ h => hT' h.1) ?_ ?_⟩
    · rintro i x σ H1 H2 hi ⟨hs, v1, v2, rfl⟩ ⟨t2, x1, x2, rfl, ht2, rfl, e1, e2⟩
      cases e1
      obtain ⟨q, a, rfl, hq, hw1⟩ := hw.get e2
      have hs2 := hs.trans (up (o := .tup [.int (i : Nat), .ref q]) ht2)
      obtain ⟨dx, p, h1, h2⟩ := hw1.same hs2
      refine ⟨t2, _, rfl, SqT.of upd_same, rfl, _, _, rfl, _, _, rfl, rfl, ?_⟩
      refine ⟨_, rfl, _, _, _, _, true, rfl, .own _, T.is_Wrap.ty h1, kit_self, true, rfl, iteF ?_⟩
      exact ⟨hs2, _, _, rfl⟩
    · rintro σ H' ⟨hs, v1, v2, rfl⟩
      exact k _ hs
theorem ok_Stack (T : Tx w K mg) : PromC P w K mg base CX0 4 "Stack" (spStack K) := by
  refine PromC.star (sp0 := spStack0 K) T.mk_Stack T.k_Stack T.dm_Stack___init__ sc_Stack___init__ (fun _ _ _ _ _ _ _ _ => rfl) (fun _ _ _ _ _ _ _ _ _ _ => rfl) (fun f cdv A outer s H vs Q E hr h => ?_) (fun vs H Q E h => ?_)
  · obtain ⟨x, p, dx, b, xs, ws, rfl, so, hx, hp, hw, k⟩ := h
    refine ⟨_, (pss_cons (ps_expr (pe_callP (ok_check_base T) (hr.mono (by decide)) (by rfl) pass0 (pa_cons (pv 1) pa_nil)))
      (pss_cons (ps_expr (pe_callP (ok_check_wraps T) (hr.mono (by decide)) (by rfl) pass0 (pa_cons (pv 2) (pa_cons (pe_gint T.c_MOST_WRAPS) pa_nil))))
      (pss_cons (ps_set (i := 3) sc_Stack___init__.nd rfl (Or.inl rfl) (pe_callP (ok_fineness_of T) (hr.mono (by decide)) (by rfl) pass0 (pa_cons (pv 2) pa_nil)))
      (pss_cons (ps_if (pt_cmp (pc_gt (pv 3) (pe_gint T.c_MOST_FINENESS))) (pss_one ps_never) pss_nil)
      (pss_cons (ps_fld (pv 0) (pv 1) rfl)
      (pss_cons (ps_fld (pv 0) (pv 2) rfl)
      (pss_one (ps_fld (pv 0) (pv 3) rfl)))))))), ?_⟩
    refine ⟨_, rfl, b, rfl, so.b0, so.b1, ?_⟩
    refine ⟨_, rfl, p, xs, ws, rfl, SqT.of hp, hw, so.len, fun H1 s1 => ?_⟩
    refine ⟨_, rfl, p, xs, ws, rfl, .inr (SqT.of (s1 _ _ hp)), hw.same s1, so.ok, fun H2 s2 => ?_⟩
    have sf := so.fine
    refine ⟨_, rfl, _, _, rfl, rfl, _, rfl, ifd (fun c => absurd c (by show ¬ (120 : Int) < fineL ws; omega)) (fun _ => ?_)⟩
    refine ⟨_, rfl, _, rfl, x, _, dx, _, rfl, s2 _ _ (s1 _ _ hx), T.cl_Stack, T.na_Stack_base, (show (0 : Nat) < 1000 by decide), ?_⟩
    refine ⟨_, rfl, _, rfl, x, _, dx, _, rfl, upd_same, T.cl_Stack, T.na_Stack_wraps, (show (1 : Nat) < 1000 by decide), ?_⟩
    refine ⟨_, rfl, _, rfl, x, _, dx, _, rfl, upd_same, T.cl_Stack, T.na_Stack_fineness, (show (2 : Nat) < 1000 by decide), ?_⟩
    exact k _ (Kp.set (Kp.set (Kp.set fun z o n e => s2 _ _ (s1 _ _ e)))) upd_same
  · obtain ⟨b, xs, ws, rfl, so, hw, k⟩ := h
    have hl : xs.length ≤ sizeLine := by
      rw [hw.len, sizeLine_eq]
      have := so.len
      omega
    refine ⟨_, _, rfl, hl, fun x dx p hx hdx nd np npd hp => ?_⟩
    have same : Same H (upd (upd (upd H dx (.own x)) x (.ins (He.ga K "Stack") dx [])) p (.tup xs)) := fun z o e => by
      rw [upd_ne (ne_of_none e hp), upd_ne (ne_of_none e hx), upd_ne (ne_of_none e hdx)]
      exact e
    refine ⟨x, p, dx, b, xs, ws, rfl, so, by rw [upd_ne (Ne.symm np)]; exact upd_same, upd_same, hw.same same, fun H' kp hx' => ⟨rfl, ?_⟩⟩
    have s2 : Same H H' := fun z o e => kp _ _ (ne_of_none e hx) (same _ _ e)
    exact k x H' hx s2 ⟨dx, p, xs, hx', kp _ _ np upd_same, hw.same s2⟩
theorem ok_Stack_grown (T : Tx w K mg) : PromM P w K mg base CX0 4 "Stack" "grown" ["self", "length"] (spSGrown K) := by
  refine PromM.of T.cl_Stack T.me_Stack_grown T.dm_Stack_grown sc_Stack_grown (fun vs H Q E h => ?_) (fun _ _ _ _ _ _ us hl => match us, hl with | [_, _], _ => rfl) (fun f cdv A outer s H vs Q E hr h => ?_)
  · obtain ⟨q, b, ws, n, rfl, _⟩ := h
    rfl
  · obtain ⟨q, b, ws, n, rfl, ⟨dx, t, xs, hq, ht, hw⟩, so, n0, n1, k⟩ := h
    refine ⟨_, (pss_cons (ps_for PassesOwn.never (by rfl) (pi_tup (pe_fld (pv 0) rfl)) (pg_name (i := 2) sc_Stack_grown.nd rfl (Or.inl rfl)) (pss_one (ps_set (i := 1) sc_Stack_grown.nd rfl (Or.inl rfl) (pe_methP (ok_Wrap_grown T) (hr.mono (by decide)) pass0 (pv 2) (pa_cons (pv 1) (pa_cons (pe_fld (pv 0) rfl) pa_nil))))))
      (pss_one (ps_ret (pv 1)))), ?_⟩
    refine ⟨_, rfl, q, _, dx, _, _, rfl, hq, T.cl_Stack, T.na_Stack_wraps, rfl, t, rfl, ⟨_, SqT.of ht⟩, for_it (walk_tup (K := K) (a := t) (xs := xs)) (fun i σ H' => H' = H ∧ ∃ v, σ = [some (.ref q), some (.int (grS b (ws.take i) n)), v]) ⟨rfl, none, rfl⟩ (fun _ _ H' _ h => by rw [h.1]; exact SqT.of ht) ?_ ?_⟩
    · rintro i x σ H1 H2 hi ⟨rfl, v, rfl⟩ ⟨rfl, hx⟩
      obtain ⟨r, a, rfl, hr2, hw1⟩ := hw.get hx
      have hok := so.ok a (List.mem_of_getElem? hr2)
      obtain ⟨dx2, p, h1, h2⟩ := id hw1
      have et : grS b (ws.take (i + 1)) n = a.gr b (grS b (ws.take i) n) := by
        unfold grS
        rw [List.take_succ, hr2, List.foldl_append]
        rfl
      have hl := so.len
      have hlt : (ws.take i).length ≤ 6 := by
        rw [List.length_take]
        omega
      have bd := grS_pow so.b0 (ws.take i) (fun z hz => so.ok z (List.mem_of_mem_take hz)) (show 12 ≤ 1000 by decide) n0 n1
      have bd2 : grS b (ws.take i) n < 2 ^ 3000 := Int.lt_of_lt_of_le bd.2 (pow_mono (by decide) (by omega))
      rw [et]
      generalize grS b (ws.take i) n = m at bd bd2 ⊢
      refine ⟨_, rfl, r, dx2, _, rfl, h1, rfl, _, rfl, _, rfl, q, _, dx, _, _, rfl, hq, T.cl_Stack, T.na_Stack_base, rfl, a, r, m, b, rfl, hw1, hok, so.b0, so.b1, bd.1, bd2, ?_⟩
      exact ⟨rfl, _, rfl⟩
    · rintro σ H' ⟨rfl, v, rfl⟩
      rw [hw.len, List.take_length]
      exact ⟨_, rfl, k⟩
end
section
variable {P : Program} {w : World} {K : PySem.W.Frag} {mg : Str → Option Value} {base : Heap}
theorem ok_check_wrap (T : Tx w K mg) : Prom P w K mg base CX0 1 "check_wrap" s_check_wrap ["value"] (spIsWrap K) := by
  refine Prom.of T.d_check_wrap sc_check_wrap (fun vs H Q E h => ?_) (fun _ _ _ _ _ _ us hl => match us, hl with | [_], _ => rfl) (fun f cdv A outer s H vs Q E hr h => ?_)
  · obtain ⟨q, a, rfl, _⟩ := h
    rfl
  · obtain ⟨q, a, rfl, ⟨dx, p, h1, h2⟩, k⟩ := h
    refine ⟨_, (pss_one (ps_if (pt_not (pt_val (pe_callB call_isi (by rfl) T.b_isinstance (by decide +kernel) (pa_cons (pv 0) (pa_cons (pe_glob (v := .ref _) (by rfl) T.k_Wrap rfl) pa_nil))))) (pss_one ps_never) pss_nil)), ?_⟩
    exact ⟨_, rfl, _, _, _, _, true, rfl, .own _, T.is_Wrap.ty h1, kit_self, true, rfl, iteF k⟩
end
def Wr.use : Wr → Int
  | .coded m c => m * c
  | .pieces m _ => m
  | .cut m _ => m
  | .filled m => m
  | _ => 1
theorem step_use (p : Int) (a : Wr) : stepF p a = p * a.use := by
  cases a <;> simp [stepF, Wr.use, Int.mul_assoc]
theorem use_pos {a : Wr} (h : a.ok) : 1 ≤ a.use := by
  cases a with
  | coded m c =>
    simp only [Wr.ok] at h
    simp only [Wr.use]
    have := Int.mul_le_mul h.1 (show 1 ≤ c by omega) (by decide) (by omega)
    omega
  | _ => simp only [Wr.ok] at h; simp only [Wr.use]; omega
theorem fine_app (ws : List Wr) (a : Wr) : fineL (ws ++ [a]) = fineL ws * a.use := by
  unfold fineL
  rw [List.foldl_append]
  exact step_use _ a
theorem fine_pos : ∀ {ws : List Wr}, (∀ a ∈ ws, a.ok) → ∀ {p : Int}, 1 ≤ p → p ≤ ws.foldl stepF p
  | [], _, p, _ => Int.le_refl p
  | a :: ws, h, p, hp => by
    have u := use_pos (h a (List.mem_cons_self ..))
    have m := Int.mul_le_mul_of_nonneg_left u (show 0 ≤ p by omega)
    rw [Int.mul_one] at m
    have e : stepF p a = p * a.use := step_use p a
    have ih := fine_pos (ws := ws) (fun x hx => h x (List.mem_cons_of_mem _ hx)) (p := stepF p a) (by omega)
    show p ≤ ws.foldl stepF (stepF p a)
    omega
theorem fine_take {ws : List Wr} (h : ∀ a ∈ ws, a.ok) (i : Nat) : fineL (ws.take i) ≤ fineL ws := by
  have e : fineL ws = (ws.drop i).foldl stepF (fineL (ws.take i)) := by
    unfold fineL
    rw [← List.foldl_append, List.take_append_drop]
  rw [e]
  exact fine_pos (fun x hx => h x (List.mem_of_mem_drop hx)) (fine_pos (fun x hx => h x (List.mem_of_mem_take hx)) (by decide))
/-- the numbers from lo on whose square is within the room, among so many -/
def sqs (r : Int) (i : Nat) : List Int := ((List.range i).map fun (j : Nat) => 1 + (j : Int)).filter fun z => decide (z * z ≤ r)
theorem sqs_succ (r : Int) (i : Nat) : sqs r (i + 1) = sqs r i ++ (if (1 + (i : Int)) * (1 + (i : Int)) ≤ r then [1 + (i : Int)] else []) := by
  unfold sqs
  rw [List.range_succ, List.map_append, List.filter_append]
  congr 1
  by_cases c : (1 + (i : Int)) * (1 + (i : Int)) ≤ r <;> simp [c]
theorem sqs_len {r : Int} (hr : 1 ≤ r) : ∀ i : Nat, (sqs r i).length ≤ i ∧ (1 ≤ i → 1 ≤ (sqs r i).length) ∧ ∀ z : Int, 1 ≤ z → z ≤ (sqs r i).length → z * z ≤ r
  | 0 => ⟨Nat.zero_le _, fun h => absurd h (by decide), fun z h0 h1 => by
    have e : (sqs r 0).length = 0 := rfl
    rw [e] at h1
    omega⟩
  | i + 1 => by
    obtain ⟨h1, h2, h3⟩ := sqs_len hr i
    have e := sqs_succ r i
    by_cases c : (1 + (i : Int)) * (1 + (i : Int)) ≤ r
    · rw [e, if_pos c, List.length_append]
      refine ⟨by simp; omega, fun _ => by simp, fun z z0 z1 => ?_⟩
      have zi : z ≤ 1 + (i : Int) := by
        simp at z1
        omega
      exact Int.le_trans (Int.mul_le_mul zi zi (by omega) (by omega)) c
    · rw [e, if_neg c, List.append_nil]
      refine ⟨by omega, fun _ => ?_, h3⟩
      by_cases i0 : i = 0
      · exfalso
        apply c
        rw [i0]
        simp
        omega
      · exact h2 (by omega)
theorem int_at {ns : List Int} {i : Nat} {x : V} (h : (ns.map V.int)[i]? = some x) : ∃ n, ns[i]? = some n ∧ x = .int n := by
  rw [List.getElem?_map] at h
  cases e : ns[i]? with
  | none =>
    rw [e] at h
    cases h
  | some n =>
    rw [e] at h
    exact ⟨n, rfl, (Option.some.inj h).symm⟩
/-! ### texts of wraps and stacks -/
theorem nums_two (a : Wr) : a.nums.length ≤ 2 := by cases a <;> simp [Wr.nums]
theorem text_len {a : Wr} (h : a.ok) : a.text.length ≤ 200 := by
  have h1 := join_len (sep := (" " : Str)) (ys := a.kind :: a.nums.map fun i => (toString i : Str))
  have h2 := sum_short a.nums fun z hz => by have := nums_small h z hz; omega
  have h3 := kind_len a
  have h4 := nums_two a
  have h5 : (" " : Str).length = 1 := by decide
  unfold Wr.text
  simp only [List.map_cons, List.sum_cons, List.length_cons, List.length_map] at h1
  rw [h5] at h1
  omega
def baseText (b : Int) : Str := Str.empty ++ "base " ++ (toString b : Str)
def stkText (b : Int) (ws : List Wr) : Str := Txt.join "\n" (baseText b :: ws.map Wr.text)
theorem small_text {b : Int} (h0 : 0 ≤ b) (h1 : b ≤ 256) : (toString b : Str).length ≤ 4 := by
  have h := int_text_length_le10 (k := 3) (a := b) (by decide) (by omega)
  have e : (Str.ofString (toString b)).length = (toString b : String).length := PySem.ofString_length _
  show (Str.ofString (toString b)).length ≤ 4
  omega
theorem texts_sum : ∀ {ws : List Wr}, (∀ a ∈ ws, a.ok) → ((ws.map Wr.text).map (·.length)).sum ≤ 200 * ws.length
  | [], _ => by simp
  | a :: ws, h => by
    have h1 := texts_sum (ws := ws) fun x hx => h x (List.mem_cons_of_mem _ hx)
    have h2 := text_len (h a (List.mem_cons_self ..))
    simp only [List.map_cons, List.sum_cons, List.length_cons]
    omega
def spWStr (K : PySem.W.Frag) : Sp := fun vs H Q _ => ∃ (q : Addr) (a : Wr), vs = [.ref q] ∧ WrapAt K H q a ∧ a.ok ∧ Q (.str a.text) H
def spSStr (K : PySem.W.Frag) : Sp := fun vs H Q _ => ∃ (q : Addr) (b : Int) (ws : List Wr), vs = [.ref q] ∧ StkAt K H q b ws ∧ StkOk b ws ∧ ∀ H', Same H H' → Q (.str (stkText b ws)) H'
section
variable {P : Program} {w : World} {K : PySem.W.Frag} {mg : Str → Option Value} {base : Heap}
theorem ok_Wrap___str__ (T : Tx w K mg) : PromM P w K mg base CX0 1 "Wrap" "__str__" ["self"] (spWStr K) := by
  refine PromM.of T.cl_Wrap T.me_Wrap___str__ T.dm_Wrap___str__ sc_Wrap___str__ (fun vs H Q E h => ?_) (fun _ _ _ _ _ _ us hl => match us, hl with | [_], _ => rfl) (fun f cdv A outer s H vs Q E hr h => ?_)
  · obtain ⟨q, a, rfl, _⟩ := h
    rfl
  · obtain ⟨q, a, rfl, ⟨dx, p, h1, h2⟩, ok, k⟩ := h
    have tl := text_len ok
    refine ⟨_, (pss_one (ps_ret (pe_joined1 (pe_fmt (pe_fld (pv 0) rfl))))), ?_⟩
    exact ⟨_, rfl, q, _, dx, _, _, rfl, h1, T.cl_Wrap, T.na_Wrap_words, rfl, .inl ⟨_, rfl, by rw [sizeLine_eq]; omega, k⟩⟩
theorem ok_Stack___str__ (T : Tx w K mg) : PromM P w K mg base CX0 3 "Stack" "__str__" ["self"] (spSStr K) := by
  refine PromM.of T.cl_Stack T.me_Stack___str__ T.dm_Stack___str__ sc_Stack___str__ (fun vs H Q E h => ?_) (fun _ _ _ _ _ _ us hl => match us, hl with | [_], _ => rfl) (fun f cdv A outer s H vs Q E hr h => ?_)
  · obtain ⟨q, b, ws, rfl, _⟩ := h
    rfl
  · obtain ⟨q, b, ws, rfl, ⟨dx, t, xs, hq, ht, hw⟩, so, k⟩ := h
    have hlx := hw.len
    have l6 := so.len
    have bl := small_text (b := b) (by have := so.b0; omega) so.b1
    have e5 : (Str.empty ++ ("base " : Str)).length = 5 := by decide
    have el : (baseText b).length ≤ 9 := by
      show (Str.empty ++ ("base " : Str) ++ (toString b : Str)).length ≤ 9
      rw [PySem.Str.length_append]
      omega
    refine ⟨_, (pss_one (ps_ret (pe_join pe_str (pe_lst (pa_cons (pe_joined (PJ.cons pe_str (PJ.cons (pe_fmt (pe_fld (pv 0) rfl)) PJ.nil))) (StX.pa_star (pe_lc (own := [("wrap", 1)]) (g := (gName 1)) (tt := tYes) (by rfl) sc_Stack___str__.nd (pi_tup (pe_fld (pv 0) rfl)) (blkOk_by (own := [("wrap", 1)]) (N := ["self", "wrap"]) (sc := defScope s_Stack___str__) (by decide +kernel)) (fun _ _ _ _ _ => (pg_name (i := 1) sc_Stack___str__.nd rfl (Or.inl rfl))) (fun _ _ _ _ _ => pts_nil) (fun _ _ _ _ _ => (pe_joined1 (show PE _ _ (tFmtO (He.ga K "Wrap") _ _ _) from (pe_fmtO T.st_Wrap (ok_Wrap___str__ T) (hr.mono (by decide)) pass0 (pv 1)))))) pa_nil)))))), ?_⟩
    refine ⟨⟨_, rfl⟩, _, rfl, by rw [e5]; decide, _, rfl, q, _, dx, _, _, rfl, hq, T.cl_Stack, T.na_Stack_base, rfl, .inr ⟨b, rfl, log2_small (by have := so.b0; omega) (by have := so.b1; omega), _, rfl, ?_, ?_⟩⟩
    · show (baseText b).length ≤ sizeLine
      rw [sizeLine_eq]
      omega
    refine ⟨_, rfl, q, _, dx, _, _, rfl, hq, T.cl_Stack, T.na_Stack_wraps, rfl, t, rfl, ⟨_, SqT.of ht⟩, fun D hD => ?_⟩
    refine lc_tup (K := K) (a := t) (xs := xs) (Pv := fun i H' => Same H H' ∧ H' D = some (.lst ((ws.take i).map fun z => V.str z.text))) ⟨up hD, upd_same⟩ (fun i H' _ h => SqT.of (h.1 _ _ ht)) ?_ ?_
    · rintro i y H' hi ⟨hs, hl⟩
      obtain ⟨r, a, rfl, ha, hw1⟩ := hw.get hi
      obtain ⟨dx2, p, g1, g2⟩ := hw1.same hs
      refine ⟨rfl, _, rfl, r, dx2, _, rfl, g1, r, a, rfl, ⟨dx2, p, g1, g2⟩, so.ok a (List.mem_of_getElem? ha), _, rfl, _, hl, ?_, fun z o e => ?_, ?_⟩
      · rw [List.length_map, List.length_take, sizeLine_eq]
        omega
      · rw [upd_ne (ne_of_none e hD)]
        exact hs _ _ e
      · rw [upd_same, List.take_succ, ha, List.map_append]
        rfl
    · rintro H' ⟨hs, hl⟩
      rw [hlx, List.take_length] at hl
      refine ⟨D, _, rfl, .inr (SqL.of hl), ?_, fun l hl2 => ?_⟩
      · simp
        rw [sizeLine_eq]
        omega
      have el2 : V.str (baseText b) :: (ws.map (fun z => V.str z.text) ++ []) = (baseText b :: ws.map Wr.text).map V.str := by simp
      refine ⟨_, l, baseText b :: ws.map Wr.text, rfl, rfl, .inl (SqL.of (by rw [← el2]; exact upd_same)), ?_, ?_⟩
      · have h1 := texts_sum so.ok
        have h2 : ("\n" : Str).length = 1 := by decide
        simp only [List.map_cons, List.sum_cons, List.length_cons, List.length_map] at h1 ⊢
        rw [h2]
        omega
      · exact k _ (hs.trans (up hl2))
end
theorem grS_mono {b : Int} (hb : 2 ≤ b) : ∀ (ws : List Wr), (∀ a ∈ ws, a.ok) → ∀ {n k : Int}, 0 ≤ n → n ≤ k → grS b ws n ≤ grS b ws k
  | [], _, n, k, _, h => h
  | a :: ws, ha, n, k, h0, h => grS_mono hb ws (fun x hx => ha x (List.mem_cons_of_mem _ hx)) (gr_le hb (ha a (List.mem_cons_self ..)) h0).1 (gr_mono hb (ha a (List.mem_cons_self ..)) h0 h)
theorem grS_ge {b : Int} (hb : 2 ≤ b) : ∀ (ws : List Wr), (∀ a ∈ ws, a.ok) → ∀ {n : Int}, 0 ≤ n → n ≤ grS b ws n
  | [], _, n, _ => Int.le_refl n
  | a :: ws, ha, n, h0 => Int.le_trans (gr_ge hb (ha a (List.mem_cons_self ..)) h0) (grS_ge hb ws (fun x hx => ha x (List.mem_cons_of_mem _ hx)) (gr_le hb (ha a (List.mem_cons_self ..)) h0).1)
/-- what is no list, and no such instance, stays -/
structure Keeps (K : PySem.W.Frag) (H H' : Hp) : Prop where
  tup : ∀ {q xs}, H q = some (.tup xs) → H' q = some (.tup xs)
  wrap : ∀ {q dx fs}, H q = some (.ins (He.ga K "Wrap") dx fs) → H' q = some (.ins (He.ga K "Wrap") dx fs)
  stack : ∀ {q dx fs}, H q = some (.ins (He.ga K "Stack") dx fs) → H' q = some (.ins (He.ga K "Stack") dx fs)
theorem Keeps.same {K : PySem.W.Frag} {H H' : Hp} (s : Same H H') : Keeps K H H' := ⟨fun h => s _ _ h, fun h => s _ _ h, fun h => s _ _ h⟩
theorem Keeps.lst {K : PySem.W.Frag} {H : Hp} {l : Addr} {ys zs : List V} (hl : H l = some (.lst ys)) : Keeps K H (upd H l (.lst zs)) :=
  ⟨fun {q xs} e => by rw [upd_ne (fun z => by rw [z, hl] at e; cases e)]; exact e, fun {q xs fs} e => by rw [upd_ne (fun z => by rw [z, hl] at e; cases e)]; exact e, fun {q xs fs} e => by rw [upd_ne (fun z => by rw [z, hl] at e; cases e)]; exact e⟩
theorem Keeps.trans {K : PySem.W.Frag} {H H1 H2 : Hp} (a : Keeps K H H1) (b : Keeps K H1 H2) : Keeps K H H2 := ⟨fun h => b.tup (a.tup h), fun h => b.wrap (a.wrap h), fun h => b.stack (a.stack h)⟩
/-- only the road at r changes -/
theorem Keeps.road {K : PySem.W.Frag} {H H' : Hp} {r dr : Addr} {fs : List (Str × V)} (n1 : He.ga K "Road" ≠ He.ga K "Wrap") (n2 : He.ga K "Road" ≠ He.ga K "Stack") (hr : H r = some (.ins (He.ga K "Road") dr fs)) (k : Kp r H H') : Keeps K H H' :=
  ⟨fun {q xs} e => k _ _ (fun z => by rw [z, hr] at e; cases e) e, fun {q xs fs} e => k _ _ (fun z => by rw [z, hr] at e; exact n1 (by injection e with e; injection e)) e, fun {q xs fs} e => k _ _ (fun z => by rw [z, hr] at e; exact n2 (by injection e with e; injection e)) e⟩
theorem WrapAt.keeps {K : PySem.W.Frag} {H H' : Hp} {q : Addr} {a : Wr} (h : WrapAt K H q a) (k : Keeps K H H') : WrapAt K H' q a := by
  obtain ⟨dx, p, h1, h2⟩ := h
  exact ⟨dx, p, k.wrap h1, k.tup h2⟩
theorem WrapsAt.keeps {K : PySem.W.Frag} {H H' : Hp} {xs : List V} {ws : List Wr} (h : WrapsAt K H xs ws) (k : Keeps K H H') : WrapsAt K H' xs ws := by
  induction h with
  | nil => exact .nil
  | cons h _ ih => exact .cons (h.keeps k) ih
theorem WrapsAt.dropLast {K : PySem.W.Frag} {H : Hp} {xs : List V} {ws : List Wr} (h : WrapsAt K H xs ws) : WrapsAt K H xs.dropLast ws.dropLast := by
  induction h with
  | nil => exact .nil
  | cons h r ih =>
    cases r with
    | nil => exact .nil
    | cons h2 r2 => exact .cons h ih
theorem StkAt.keeps {K : PySem.W.Frag} {H H' : Hp} {q : Addr} {b : Int} {ws : List Wr} (h : StkAt K H q b ws) (k : Keeps K H H') : StkAt K H' q b ws := by
  obtain ⟨dx, t, xs, h1, h2, h3⟩ := h
  exact ⟨dx, t, xs, k.stack h1, k.tup h2, h3.keeps k⟩
/-! ### the law's bowl: what is drawn lies in its range, and nothing else is told of it -/
def PurseAt (H : Hp) (p : Addr) : Prop := ∃ d m c : Int, H p = some (.lst [.int d, .int m, .int c]) ∧ 0 ≤ d ∧ 0 ≤ m ∧ m < 1073741719 ∧ 0 ≤ c
theorem PurseAt.of {H : Hp} {p : Addr} {d m c : Int} (h : H p = some (.lst [.int d, .int m, .int c])) (h1 : 0 ≤ d) (h2 : 0 ≤ m) (h3 : m < 1073741719) (h4 : 0 ≤ c) : PurseAt H p := ⟨d, m, c, h, h1, h2, h3, h4⟩
structure Drew (p : Addr) (H H' : Hp) : Prop where
  at_ : PurseAt H' p
  kp : Kp p H H'
theorem Drew.refl {p : Addr} {H : Hp} (h : PurseAt H p) : Drew p H H := ⟨h, Kp.refl p H⟩
theorem Drew.trans {p : Addr} {H H1 H2 : Hp} (a : Drew p H H1) (b : Drew p H1 H2) : Drew p H H2 := ⟨b.at_, a.kp.trans b.kp⟩
theorem Drew.new {p q : Addr} {H H' : Hp} {o : HO} (a : Drew p H H') (h : H' q = none) : Drew p H (upd H' q o) := by
  obtain ⟨m, d, c, e, r⟩ := a.at_
  exact ⟨⟨m, d, c, by rw [upd_ne (ne_of_none e h)]; exact e, r⟩, a.kp.new h⟩
theorem Drew.same {p : Addr} {H H1 H2 : Hp} (a : Drew p H H1) (b : Same H1 H2) : Drew p H H2 := by
  obtain ⟨m, d, c, e, r⟩ := a.at_
  exact ⟨⟨m, d, c, b _ _ e, r⟩, fun x o n h => b _ _ (a.kp x o n h)⟩
def spRight : Sp := fun vs H Q _ => ∃ (p : Addr), vs = [.ref p] ∧ PurseAt H p ∧ ∀ H', Drew p H H' → Q (.bl true) H'
def spBowl (K : PySem.W.Frag) : Sp := fun vs H Q _ => ∃ (a : Addr) (ns : List Int) (k : Int), vs = [.ref a, .int k] ∧ SqL K H a (ns.map V.int) ∧ 0 ≤ k ∧ k ≤ 1000 ∧ ∀ p H', H p = none → Same H H' → PurseAt H' p → Q (.ref p) H'
def spTake : Sp := fun vs H Q _ => ∃ (p : Addr) (n : Int), vs = [.ref p, .int n] ∧ PurseAt H p ∧ 0 < n ∧ n ≤ 1000000000000000000000000000000 ∧ ∀ r H', 0 ≤ r → r < n → Drew p H H' → Q (.int r) H'
def spDraw (lo hi : Int) : Sp := fun vs H Q _ => ∃ (p : Addr), vs = [.ref p] ∧ PurseAt H p ∧ ∀ r H', lo ≤ r → r ≤ hi → Drew p H H' → Q (.int r) H'
/-- one of the things -/
def spOne : Sp := fun vs H Q _ => ∃ (p t : Addr) (xs : List V), vs = [.ref p, .ref t] ∧ PurseAt H p ∧ t ≠ p ∧ H t = some (.lst xs) ∧ 0 < xs.length ∧ xs.length ≤ 1000 ∧ ∀ (i : Nat) x H', xs[i]? = some x → Drew p H H' → Q x H'
theorem cutV_ints (ns : List Int) (lo hi : Option Int) : ∃ ms : List Int, cutV (ns.map V.int) lo hi = ms.map V.int := by
  unfold cutV
  exact ⟨_, by rw [← List.map_drop, ← List.map_take]⟩
theorem item_int {ns : List Int} {i : Nat} {x : V} (h : (ns.map V.int)[i]? = some x) : ∃ z, x = .int z := by
  rw [List.getElem?_map] at h
  cases e : ns[i]? with
  | none =>
    rw [e] at h
    cases h
  | some z =>
    rw [e] at h
    exact ⟨z, (Option.some.inj h).symm⟩
section
variable {P : Program} {w : World} {K : PySem.W.Frag} {mg : Str → Option Value} {base : Heap}
theorem ok_L_bowl (T : Tx w K mg) : Prom P w K mg base CX0 1 "_law_bowl" s_L_bowl ["_law_script", "_law_k"] (spBowl K) := by
  refine Prom.of T.d_L_bowl sc_L_bowl (fun vs H Q E h => ?_) (fun _ _ _ _ _ _ us hl => match us, hl with | [_, _], _ => rfl) (fun f cdv A outer s H vs Q E hr h => ?_)
  · obtain ⟨a, ns, n, rfl, _⟩ := h
    rfl
  · obtain ⟨a, ns, n, rfl, hS, h0, h1, k⟩ := h
    have d0 : (0 : Int) < 1073741719 := by decide
    refine ⟨_, (pss_cons (ps_set (i := 2) sc_L_bowl.nd rfl (Or.inl rfl) (pe_op op_add pe_int (pe_op op_mul pe_int (pv 1))))
      (pss_cons (ps_for PassesOwn.never (by rfl) (pi_list (pe_slice sl_list (pv 0) po_none (po_some pe_int))) (pg_name (i := 3) sc_L_bowl.nd rfl (Or.inl rfl)) (pss_one (ps_set (i := 2) sc_L_bowl.nd rfl (Or.inl rfl) (pe_op op_mod (pe_callTy call_int1 (by rfl) T.b_int (by decide +kernel) (pa_cons (pe_op op_add (pe_op op_mul (pv 2) pe_int) (pe_op op_mod (pe_callTy call_int1 (by rfl) T.b_int (by decide +kernel) (pa_cons (pv 3) pa_nil)) pe_int)) pa_nil)) pe_int))))
      (pss_cons (ps_set (i := 4) sc_L_bowl.nd rfl (Or.inl rfl) (pe_ifExp (pt_cmp (pc_lt (pv 1) (pe_callB call_len_seq (by rfl) T.b_len (by decide +kernel) (pa_cons (pv 0) pa_nil)))) (pe_callTy call_int1 (by rfl) T.b_int (by decide +kernel) (pa_cons (pe_ix ix_list (pv 0) (pv 1) (fun _ _ => rfl)) pa_nil)) (pe_op op_mul pe_int (pv 1))))
      (pss_one (ps_ret (pe_lst (pa_cons (pe_ifExp (PW.pt (pw_or (pt_cmp (pc_lt (pv 4) pe_int)) (pw_or1 (pt_cmp (pc_ge (pv 4) (pe_op op_pow pe_int pe_int)))))) (pe_callB call_abs (by rfl) T.b_abs (by decide +kernel) (pa_cons (pv 4) pa_nil)) pe_int) (pa_cons (pe_op op_mod (pe_callTy call_int1 (by rfl) T.b_int (by decide +kernel) (pa_cons (pe_op op_add (pv 2) (pe_op op_mod (pv 4) pe_int)) pa_nil)) pe_int) (pa_cons pe_int pa_nil))))))))), ?_⟩
    refine ⟨_, rfl, _, _, rfl, rfl, .inl ⟨by decide, by decide⟩, _, _, rfl, rfl, ?_⟩
    obtain ⟨ms, hms⟩ := cutV_ints ns none (some 12)
    refine ⟨_, rfl, _, rfl, a, _, rfl, hS, fun p hp => ?_⟩
    rw [hms]
    refine ⟨p, rfl, ⟨_, SqL.of upd_same⟩, for_list (K := K) (a := p) (xs := ms.map V.int) (fun i σ H' => Same (upd H p (.lst (ms.map V.int))) H' ∧ ∃ m v1 v2, σ = [some (.ref a), some (.int n), some (.int m), v1, v2]) ⟨Same.refl _, _, none, none, rfl⟩ (fun i σ H' _ h => SqL.of (h.1 _ _ upd_same)) ?_ ?_⟩
    · rintro i x σ H' hi ⟨hs, m, v1, v2, rfl⟩
      obtain ⟨z, rfl⟩ := item_int hi
      exact ⟨_, rfl, _, _, rfl, rfl, .inr ⟨by decide, by decide⟩, _, rfl, .inl ⟨_, rfl, _, _, rfl, rfl, d0, _, _, rfl, rfl, .inl ⟨_, rfl, _, _, rfl, rfl, d0, hs, _, _, _, rfl⟩⟩⟩
    · rintro σ H' ⟨hs, m, v1, v2, rfl⟩
      have hs0 : Same H H' := Same.trans (fun b o e => by rw [upd_ne (ne_of_none e hp)]; exact e) hs
      have hS' := hs0.seq hS
      have fin : ∀ d x : Int, 0 ≤ d → ∀ q, H' q = none → Q (.ref q) (upd H' q (.lst [.int d, .int (x % 1073741719), .int 0])) := fun d x hd q hq =>
        k q _ (by
          cases e : H q with
          | none => rfl
          | some o =>
            rw [hs0 _ _ e] at hq
            cases hq) (fun b o e => by rw [upd_ne (ne_of_none (hs0 _ _ e) hq)]; exact hs0 _ _ e) (PurseAt.of upd_same hd (Int.emod_nonneg _ (by decide)) (Int.emod_lt_of_pos _ d0) (Int.le_refl 0))
      have rest : ∀ own : Int, ∃ k : Bool, True := fun _ => ⟨true, trivial⟩
      refine ⟨_, rfl, _, rfl, _, _, rfl, .inl hS', _, _, rfl, rfl, _, rfl, ifd (fun c => ?_) (fun c => ?_)⟩
      · rw [List.length_map] at c
        have hi : n.toNat < ns.length := by omega
        obtain ⟨z, hz⟩ : ∃ z, ns[n.toNat]? = some z := ⟨_, List.getElem?_eq_getElem hi⟩
        have ez : (ns.map V.int)[n.toNat]? = some (V.int z) := by rw [List.getElem?_map, hz]; rfl
        refine ⟨_, rfl, _, rfl, _, _, _, _, rfl, rfl, hS', at_of (show n = ((n.toNat : Nat) : Int) by omega) ez, .inl ⟨_, rfl, ?_⟩⟩
        refine ⟨_, rfl, _, _, rfl, rfl, _, rfl, ifd (fun c1 => iteT ?_) (fun c1 => ?_)⟩
        · refine ⟨_, rfl, _, rfl, _, rfl, _, rfl, _, _, rfl, rfl, d0, _, _, rfl, rfl, .inl ⟨_, rfl, _, _, rfl, rfl, d0, (by show 3 ≤ sizeLine; decide), fun q hq => fin _ _ ?_ q hq⟩⟩
          split <;> omega
        refine ⟨_, rfl, _, _, rfl, rfl, ⟨by decide, by decide, by decide⟩, _, _, rfl, rfl, _, rfl, ifd (fun c2 => ?_) (fun c2 => ?_)⟩
        · refine ⟨_, rfl, _, rfl, _, rfl, _, rfl, _, _, rfl, rfl, d0, _, _, rfl, rfl, .inl ⟨_, rfl, _, _, rfl, rfl, d0, (by show 3 ≤ sizeLine; decide), fun q hq => fin _ _ ?_ q hq⟩⟩
          split <;> omega
        · exact ⟨_, rfl, _, rfl, _, _, rfl, rfl, d0, _, _, rfl, rfl, .inl ⟨_, rfl, _, _, rfl, rfl, d0, (by show 3 ≤ sizeLine; decide), fun q hq => fin 0 _ (Int.le_refl 0) q hq⟩⟩
      · refine ⟨_, rfl, _, _, rfl, rfl, .inl ⟨by decide, by decide⟩, ?_⟩
        refine ⟨_, rfl, _, _, rfl, rfl, _, rfl, ifd (fun c1 => iteT ?_) (fun c1 => ?_)⟩
        · refine ⟨_, rfl, _, rfl, _, rfl, _, rfl, _, _, rfl, rfl, d0, _, _, rfl, rfl, .inl ⟨_, rfl, _, _, rfl, rfl, d0, (by show 3 ≤ sizeLine; decide), fun q hq => fin _ _ ?_ q hq⟩⟩
          split <;> omega
        refine ⟨_, rfl, _, _, rfl, rfl, ⟨by decide, by decide, by decide⟩, _, _, rfl, rfl, _, rfl, ifd (fun c2 => ?_) (fun c2 => ?_)⟩
        · refine ⟨_, rfl, _, rfl, _, rfl, _, rfl, _, _, rfl, rfl, d0, _, _, rfl, rfl, .inl ⟨_, rfl, _, _, rfl, rfl, d0, (by show 3 ≤ sizeLine; decide), fun q hq => fin _ _ ?_ q hq⟩⟩
          split <;> omega
        · exact ⟨_, rfl, _, rfl, _, _, rfl, rfl, d0, _, _, rfl, rfl, .inl ⟨_, rfl, _, _, rfl, rfl, d0, (by show 3 ≤ sizeLine; decide), fun q hq => fin 0 _ (Int.le_refl 0) q hq⟩⟩
theorem ok_L_scoop (T : Tx w K mg) : Prom P w K mg base CX0 1 "_law_scoop" s_L_scoop ["_law_bowl_here", "_law_many"] spTake := by
  refine Prom.of T.d_L_scoop sc_L_scoop (fun vs H Q E h => ?_) (fun _ _ _ _ _ _ us hl => match us, hl with | [_, _], _ => rfl) (fun f cdv A outer s H vs Q E hr h => ?_)
  · obtain ⟨p, n, rfl, _⟩ := h
    rfl
  · obtain ⟨p, n, rfl, ⟨d, m, c, hp, h1, h2, h3, h4⟩, hn, hn2, k⟩ := h
    refine ⟨_, (pss_cons (ps_if (pt_cmp (pc_gt (pe_ix ix_list (pv 0) pe_int (fun _ _ => rfl)) pe_int)) (pss_cons (ps_asg (pe_callB call_divmodW (by rfl) T.b_divmod (by decide +kernel) (pa_cons (pe_callTy call_int1 (by rfl) T.b_int (by decide +kernel) (pa_cons (pe_ix ix_list (pv 0) pe_int (fun _ _ => rfl)) pa_nil)) (pa_cons (pv 1) pa_nil))) (pg_tup rfl (pgs_cons (pg_sub (pv 0) pe_int set_list) (pgs_cons (pg_name (i := 2) sc_L_scoop.nd rfl (Or.inl rfl)) pgs_nil))))
      (pss_one (ps_ret (pv 2)))) pss_nil)
      (pss_cons (ps_asg (pe_op op_add (pe_ix ix_list (pv 0) pe_int (fun _ _ => rfl)) pe_int) (pg_sub (pv 0) pe_int set_list))
      (pss_cons (ps_asg (pe_op op_mod (pe_callTy call_int1 (by rfl) T.b_int (by decide +kernel) (pa_cons (pe_op op_add (pe_op op_add (pe_op op_mul (pe_ix ix_list (pv 0) pe_int (fun _ _ => rfl)) pe_int) (pe_op op_mul (pe_op op_fdiv (pe_ix ix_list (pv 0) pe_int (fun _ _ => rfl)) pe_int) pe_int)) (pe_op op_mul pe_int (pe_ix ix_list (pv 0) pe_int (fun _ _ => rfl)))) pa_nil)) pe_int) (pg_sub (pv 0) pe_int set_list))
      (pss_one (ps_ret (pe_op op_mod (pe_callTy call_int1 (by rfl) T.b_int (by decide +kernel) (pa_cons (pe_op op_fdiv (pe_ix ix_list (pv 0) pe_int (fun _ _ => rfl)) pe_int) pa_nil)) (pv 1))))))), ?_⟩
    refine ⟨_, rfl, _, _, _, _, rfl, rfl, SqL.of hp, rfl, _, _, rfl, rfl, _, rfl, ifd (fun c1 => ?_) (fun c1 => ?_)⟩
    · refine ⟨_, rfl, _, _, _, _, rfl, rfl, SqL.of hp, rfl, .inl ⟨_, rfl, _, rfl, _, _, rfl, divp_small hn hn2, fun q hq => ?_⟩⟩
      have nq : p ≠ q := ne_of_none hp hq
      refine ⟨q, _, rfl, SqT.of upd_same, rfl, _, _, rfl, ?_⟩
      refine ⟨_, rfl, _, _, _, _, rfl, rfl, (by rw [upd_ne nq]; exact hp), rfl, ?_⟩
      refine ⟨_, _, rfl, rfl, ?_⟩
      refine ⟨_, rfl, k _ _ (Int.emod_nonneg _ (by omega)) (Int.emod_lt_of_pos _ hn) ⟨PurseAt.of upd_same (Int.ediv_nonneg (by omega) (by omega)) h2 h3 h4, ?_⟩⟩
      exact Kp.set (Kp.new (Kp.refl p H) hq)
    · refine ⟨_, rfl, _, _, _, _, rfl, rfl, SqL.of hp, rfl, _, _, rfl, rfl, _, rfl, _, _, _, _, rfl, rfl, hp, rfl, ?_⟩
      have e1 : (upd H p (.lst ([V.int d, V.int m, V.int c].set 2 (V.int (c + 1))))) p = some (.lst [.int d, .int m, .int (c + 1)]) := upd_same
      refine ⟨_, rfl, _, _, _, _, rfl, rfl, SqL.of e1, rfl, _, _, rfl, rfl, .inr ⟨by decide, by decide⟩, _, rfl, _, _, _, _, rfl, rfl, SqL.of e1, rfl, _, _, rfl, rfl, ⟨by decide, by decide⟩, _, _, rfl, rfl, .inr ⟨by decide, by decide⟩, _, _, rfl, rfl,
        _, rfl, _, _, _, _, rfl, rfl, SqL.of e1, rfl, _, _, rfl, rfl, .inl ⟨by decide, by decide⟩, _, _, rfl, rfl, .inl ⟨_, rfl, _, _, rfl, rfl, (show (0 : Int) < 1073741719 by decide), ?_⟩⟩
      refine ⟨_, rfl, _, _, _, _, rfl, rfl, e1, rfl, ?_⟩
      have c2 : ∀ x : Int, 0 ≤ x % 1073741719 := fun x => Int.emod_nonneg _ (by decide)
      have c3 : ∀ x : Int, x % 1073741719 < 1073741719 := fun x => Int.emod_lt_of_pos _ (by decide)
      refine ⟨_, rfl, _, _, _, _, rfl, rfl, SqL.of upd_same, rfl, _, _, rfl, rfl, ⟨by decide, by decide⟩, .inl ⟨_, rfl, _, rfl, _, _, rfl, rfl, hn, ?_⟩⟩
      refine k _ _ (Int.emod_nonneg _ (by omega)) (Int.emod_lt_of_pos _ hn) ⟨PurseAt.of upd_same h1 (c2 _) (c3 _) (by omega), ?_⟩
      exact Kp.set (Kp.set (Kp.refl p H))
theorem ok_L_one_of (T : Tx w K mg) : Prom P w K mg base CX0 2 "_law_one_of" s_L_one_of ["_law_bowl_here", "_law_things"] spOne := by
  refine Prom.of T.d_L_one_of sc_L_one_of (fun vs H Q E h => ?_) (fun _ _ _ _ _ _ us hl => match us, hl with | [_, _], _ => rfl) (fun f cdv A outer s H vs Q E hr h => ?_)
  · obtain ⟨p, t, xs, rfl, _⟩ := h
    rfl
  · obtain ⟨p, t, xs, rfl, hp, nt, ht, l0, l1, k⟩ := h
    refine ⟨_, (pss_one (ps_ret (pe_ix ix_list (pv 1) (pe_callP (ok_L_scoop T) (hr.mono (by decide)) (by rfl) pass0 (pa_cons (pv 0) (pa_cons (pe_callB call_len_seq (by rfl) T.b_len (by decide +kernel) (pa_cons (pv 1) pa_nil)) pa_nil))) (fun _ _ => rfl)))), ?_⟩
    refine ⟨_, rfl, _, rfl, _, rfl, t, xs, rfl, .inl (SqL.of ht), p, _, rfl, hp, by omega, by omega, fun r H' r0 r1 d => ?_⟩
    have hi : r.toNat < xs.length := by omega
    have ht' := d.kp _ _ nt ht
    have hx : xs[r.toNat]? = some xs[r.toNat] := List.getElem?_eq_getElem hi
    exact ⟨t, xs, _, _, rfl, rfl, SqL.of ht', at_of (show r = ((r.toNat : Nat) : Int) by omega) hx, k _ _ H' hx d⟩
end
section
variable {P : Program} {w : World} {K : PySem.W.Frag} {mg : Str → Option Value} {base : Heap}
theorem drew_one {p t : Addr} {H H1 H2 : Hp} {o : HO} (a : Drew p H H1) (ht : H1 t = none) (b : Drew p (upd H1 t o) H2) : Drew p H H2 := (a.new ht).trans b
theorem Drew.ne {p t : Addr} {H H1 : Hp} (a : Drew p H H1) (ht : H1 t = none) : t ≠ p := by
  obtain ⟨_, _, _, e, _⟩ := a.at_
  exact Ne.symm (ne_of_none e ht)
theorem Drew.seq {p l : Addr} {H H1 : Hp} {xs : List V} (a : Drew p H H1) (h : H l = some (.lst xs)) (n : l ≠ p) : H1 l = some (.lst xs) := a.kp _ _ n h
theorem Drew.wrap {p q : Addr} {H H1 : Hp} {x : Wr} (a : Drew p H H1) (hp : PurseAt H p) (h : WrapAt K H q x) : WrapAt K H1 q x := by
  obtain ⟨dx, t, h1, h2⟩ := h
  obtain ⟨_, _, _, e, _⟩ := hp
  refine ⟨dx, t, a.kp _ _ (fun z => ?_) h1, a.kp _ _ (fun z => ?_) h2⟩
  · rw [z, e] at h1
    cases h1
  · rw [z, e] at h2
    cases h2
theorem ok_L_root (T : Tx w K mg) : Prom P w K mg base CX0 3 "_law_root" s_L_root ["_law_bowl_here"] (spDraw 2 256) := by
  refine Prom.of T.d_L_root sc_L_root (fun vs H Q E h => ?_) (fun _ _ _ _ _ _ us hl => match us, hl with | [_], _ => rfl) (fun f cdv A outer s H vs Q E hr h => ?_)
  · obtain ⟨p, rfl, _⟩ := h
    rfl
  · obtain ⟨p, rfl, hp, k⟩ := h
    refine ⟨_, (pss_one (ps_ret (pe_callP (ok_L_one_of T) (hr.mono (by decide)) (by rfl) pass0 (pa_cons (pv 0) (pa_cons (pe_lst (pa_cons pe_int (pa_cons pe_int (pa_cons pe_int (pa_cons pe_int (pa_cons pe_int (pa_cons pe_int (pa_cons pe_int (pa_cons (pe_op op_add pe_int (pe_callP (ok_L_scoop T) (hr.mono (by decide)) (by rfl) pass0 (pa_cons (pv 0) (pa_cons pe_int pa_nil)))) pa_nil))))))))) pa_nil))))), ?_⟩
    refine ⟨_, rfl, _, rfl, p, _, rfl, hp, by decide, by decide, fun r H1 r0 r1 d1 => ?_⟩
    refine ⟨_, _, rfl, rfl, (by show 8 ≤ sizeLine; decide), fun t ht => ?_⟩
    refine ⟨p, t, _, rfl, (d1.new ht).at_, d1.ne ht, upd_same, (show 0 < 8 by decide), (show 8 ≤ 1000 by decide), fun i x H2 hx d2 => ?_⟩
    have d := drew_one d1 ht d2
    have fin : ∀ y : Int, 2 ≤ y → y ≤ 256 → x = .int y → Q x H2 := fun y h1 h2 e => by
      rw [e]
      exact k y H2 h1 h2 d
    match i, hx with
    | 0, hx => exact fin 10 (by decide) (by decide) (Option.some.inj hx).symm
    | 1, hx => exact fin 10 (by decide) (by decide) (Option.some.inj hx).symm
    | 2, hx => exact fin 2 (by decide) (by decide) (Option.some.inj hx).symm
    | 3, hx => exact fin 16 (by decide) (by decide) (Option.some.inj hx).symm
    | 4, hx => exact fin 128 (by decide) (by decide) (Option.some.inj hx).symm
    | 5, hx => exact fin 256 (by decide) (by decide) (Option.some.inj hx).symm
    | 6, hx => exact fin 3 (by decide) (by decide) (Option.some.inj hx).symm
    | 7, hx => exact fin (2 + r) (by omega) (by omega) (Option.some.inj hx).symm
    | n + 8, hx => exact absurd hx (by simp)
end
section
variable {P : Program} {w : World} {K : PySem.W.Frag} {mg : Str → Option Value} {base : Heap}
def spFig2 : Sp := fun vs H Q _ => ∃ n b : Int, vs = [.int n, .int b] ∧ 2 ≤ b ∧ b ≤ 256 ∧ Q (.int (figF b n)) H
theorem ok_L_figures (T : Tx w K mg) : Prom P w K mg base CX0 1 "_law_figures" s_L_figures ["_law_n", "_law_root_here"] spFig2 := by
  refine Prom.of T.d_L_figures sc_L_figures (fun vs H Q E h => ?_) (fun _ _ _ _ _ _ us hl => match us, hl with | [_, _], _ => rfl) (fun f cdv A outer s H vs Q E hr h => ?_)
  · obtain ⟨n, b, rfl, _⟩ := h
    rfl
  · obtain ⟨n, b, rfl, hb, hb2, k⟩ := h
    refine ⟨_, (pss_cons (ps_set (i := 2) sc_L_figures.nd rfl (Or.inl rfl) pe_int)
      (pss_cons (ps_while PassesOwn.never (pt_cmp (pc_ge (pv 0) (pv 1))) (pss_one (ps_par (i := 0) (j := 2) (by rfl) sc_L_figures.nd rfl rfl (by decide) rfl rfl (pa_cons (pe_op op_fdiv (pv 0) (pv 1)) (pa_cons (pe_op op_add (pv 2) pe_int) pa_nil)) (by rfl))))
      (pss_one (ps_ret (pv 2))))), ?_⟩
    refine ⟨fun m σ H2 => H2 = H ∧ ∃ (j : Nat), σ = [some (.int (n / b ^ j)), some (.int b), some (.int ((j : Int) + 1))] ∧ (j = 0 ∨ b ^ j ≤ n) ∧ m = (n / b ^ j).toNat,
      ⟨_, rfl, 0, by rw [Int.pow_zero, Int.ediv_one]; rfl, .inl rfl, rfl⟩, ?_⟩
    rintro m σ H2 ⟨rfl, j, rfl, hj, hm⟩
    have p1 := pow_pos (show 1 ≤ b by omega) j
    refine ⟨_, rfl, _, rfl, _, _, rfl, rfl, _, rfl, ifd (fun c => ?_) (fun c => ?_)⟩
    · have c : b ≤ n / b ^ j := c
      refine ⟨_, fun σ' H' h => h, ?_⟩
      refine ⟨_, rfl, _, rfl, _, _, rfl, rfl, ⟨by omega, by omega⟩, _, rfl, _, _, rfl, rfl, _, _, rfl, ?_⟩
      have e1 : n / b ^ j / b = n / b ^ (j + 1) := by rw [Int.pow_succ, Int.ediv_ediv_of_nonneg (by omega)]
      have lt : n / b ^ j / b < n / b ^ j := Int.ediv_lt_self_of_pos_of_ne_one (by omega) (by omega)
      have ge : 0 ≤ n / b ^ j / b := Int.ediv_nonneg (by omega) (by omega)
      refine ⟨_, ?_, rfl, j + 1, ?_, .inr ?_, rfl⟩
      · rw [hm, ← e1]
        omega
      · show [some (V.int (n / b ^ j / b)), some (V.int b), some (V.int ((j : Int) + 1 + 1))] = _
        rw [e1]
        have e : (j : Int) + 1 + 1 = ((j + 1 : Nat) : Int) + 1 := by omega
        rw [e]
      · rw [Int.pow_succ]
        have := Int.mul_le_of_le_ediv (show 0 < b ^ j by omega) c
        rw [Int.mul_comm] at this
        exact this
    · have c : ¬ b ≤ n / b ^ j := c
      have isf : IsF b n ((j : Int) + 1) := by
        refine ⟨j, rfl, ?_, hj⟩
        have := Int.lt_mul_of_ediv_lt (show 0 < b ^ j by omega) (show n / b ^ j < b by omega)
        rw [Int.pow_succ, Int.mul_comm]
        exact this
      have e := figF_eq hb isf
      rw [← e] at k
      exact ⟨_, rfl, k⟩
end
set_option pp.maxSteps 900
/-! ### plans: a wrap as a list of its kind and its numbers -/
def PlanAt (H : Hp) (q : Addr) (a : Wr) : Prop := H q = some (.lst (V.str a.kind :: a.nums.map V.int))
inductive PlansAt (H : Hp) : List V → List Wr → Prop where
  | nil : PlansAt H [] []
  | cons {p : Addr} {a : Wr} {xs : List V} {ws : List Wr} (h : PlanAt H p a) (r : PlansAt H xs ws) : PlansAt H (.ref p :: xs) (a :: ws)
theorem PlansAt.len {H : Hp} {xs : List V} {ws : List Wr} (h : PlansAt H xs ws) : xs.length = ws.length := by
  induction h with
  | nil => rfl
  | cons _ _ ih => exact congrArg (· + 1) ih
theorem PlansAt.get {H : Hp} {xs : List V} {ws : List Wr} (h : PlansAt H xs ws) : ∀ {i : Nat} {x : V}, xs[i]? = some x → ∃ (p : Addr) (a : Wr), x = .ref p ∧ ws[i]? = some a ∧ PlanAt H p a := by
  induction h with
  | nil =>
    intro i x e
    simp at e
  | cons h _ ih =>
    intro i x e
    cases i with
    | zero =>
      simp at e
      exact ⟨_, _, e.symm, rfl, h⟩
    | succ i => exact ih (by simpa using e)
theorem PlansAt.same {H H' : Hp} {xs : List V} {ws : List Wr} (h : PlansAt H xs ws) (s : Same H H') : PlansAt H' xs ws := by
  induction h with
  | nil => exact .nil
  | cons h _ ih => exact .cons (s _ _ h) ih
theorem PlansAt.snoc {H : Hp} {xs : List V} {ws : List Wr} {p : Addr} {a : Wr} (h : PlansAt H xs ws) (hx : PlanAt H p a) : PlansAt H (xs ++ [.ref p]) (ws ++ [a]) := by
  induction h with
  | nil => exact .cons hx .nil
  | cons h _ ih => exact .cons h ih
theorem PlansAt.drop {H : Hp} {xs : List V} {ws : List Wr} (h : PlansAt H xs ws) : ∀ i : Nat, PlansAt H (xs.drop i) (ws.drop i) := by
  induction h with
  | nil => intro i; simp; exact .nil
  | cons h r ih =>
    intro i
    cases i with
    | zero => exact .cons h r
    | succ i => exact ih i
/-- what differs from the bowl and the list stays -/
theorem PlansAt.kp {H H' : Hp} {xs : List V} {ws : List Wr} (h : PlansAt H xs ws) (k : ∀ p a, PlanAt H p a → V.ref p ∈ xs → PlanAt H' p a) : PlansAt H' xs ws := by
  induction h with
  | nil => exact .nil
  | cons h _ ih => exact .cons (k _ _ h (List.mem_cons_self ..)) (ih fun p a hp hm => k p a hp (List.mem_cons_of_mem _ hm))
/-- str of a text or a number -/
def strV : V → Option Str
  | .str y => some y
  | .int i => if i.natAbs.log2 < 1920 then some (toString i) else none
  | _ => none
theorem cr_strV {X : Cx} : CallR X (.type "str") (fun xs H Q => ∃ v z, xs = [v] ∧ strV v = some z ∧ Q (.str z) H) := by
  intro pins s σ H xs us Q I r h
  obtain ⟨v, z, rfl, hz, q⟩ := h
  cases v with
  | str y =>
    obtain rfl : y = z := Option.some.inj hz
    exact SkE.call_str_str pins s σ H _ us Q I r ⟨y, rfl, q⟩
  | int i =>
    by_cases c : i.natAbs.log2 < 1920
    · have hz2 : (if i.natAbs.log2 < 1920 then some (toString i : Str) else none) = some z := hz
      rw [if_pos c] at hz2
      obtain rfl := Option.some.inj hz2
      exact call_str_int pins s σ H _ us Q I r ⟨i, rfl, c, q⟩
    · have hz2 : (if i.natAbs.log2 < 1920 then some (toString i : Str) else none) = some z := hz
      rw [if_neg c] at hz2
      cases hz2
  | _ => cases hz
def spSmall : Sp := fun vs H Q _ => ∃ (p : Addr) (m : Int), vs = [.ref p, .int m] ∧ PurseAt H p ∧ 0 ≤ m ∧ m ≤ 1000 ∧ ∀ r H', 0 ≤ r → Drew p H H' → Q (.int r) H'
def spPlan : Sp := fun vs H Q _ => ∃ (p : Addr) (r : Int), vs = [.ref p, .int r] ∧ PurseAt H p ∧ 1 ≤ r ∧ r ≤ 120 ∧ ∀ q a H', a.ok → a.use ≤ r → H q = none → Drew p H H' → PlanAt H' q a → Q (.ref q) H'
def spFineP : Sp := fun vs H Q _ => ∃ (q : Addr) (a : Wr), vs = [.ref q] ∧ PlanAt H q a ∧ a.ok ∧ ∀ H', Same H H' → Q (.int a.use) H'
def spWrapP (K : PySem.W.Frag) : Sp := fun vs H Q _ => ∃ (q : Addr) (a : Wr), vs = [.ref q] ∧ PlanAt H q a ∧ a.ok ∧ ∀ r H', H r = none → Same H H' → WrapAt K H' r a → Q (.ref r) H'
def spWordsP : Sp := fun vs H Q _ => ∃ (q : Addr) (a : Wr), vs = [.ref q] ∧ PlanAt H q a ∧ a.ok ∧ ∀ H', Same H H' → Q (.str a.text) H'
def spRowsP : Sp := fun vs H Q _ => ∃ (l : Addr) (b : Int) (xs : List V) (ws : List Wr), vs = [.int b, .ref l] ∧ H l = some (.lst xs) ∧ PlansAt H xs ws ∧ StkOk b ws ∧ ∀ H', Same H H' → Q (.str (stkText b ws)) H'
section
variable {P : Program} {w : World} {K : PySem.W.Frag} {mg : Str → Option Value} {base : Heap}
theorem ok_L_small (T : Tx w K mg) : Prom P w K mg base CX0 3 "_law_small" s_L_small ["_law_bowl_here", "_law_most"] spSmall := by
  refine Prom.of T.d_L_small sc_L_small (fun vs H Q E h => ?_) (fun _ _ _ _ _ _ us hl => match us, hl with | [_, _], _ => rfl) (fun f cdv A outer s H vs Q E hr h => ?_)
  · obtain ⟨p, m, rfl, _⟩ := h
    rfl
  · obtain ⟨p, m, rfl, hp, m0, m1, k⟩ := h
    refine ⟨_, (pss_one (ps_ret (pe_callP (ok_L_one_of T) (hr.mono (by decide)) (by rfl) pass0 (pa_cons (pv 0) (pa_cons (pe_lst (pa_cons pe_int (pa_cons pe_int (pa_cons pe_int (pa_cons pe_int (pa_cons (pe_callP (ok_L_scoop T) (hr.mono (by decide)) (by rfl) pass0 (pa_cons (pv 0) (pa_cons pe_int pa_nil))) (pa_cons (pv 1) (pa_cons (pe_callP (ok_L_scoop T) (hr.mono (by decide)) (by rfl) pass0 (pa_cons (pv 0) (pa_cons (pe_op op_add (pv 1) pe_int) pa_nil))) pa_nil)))))))) pa_nil))))), ?_⟩
    refine ⟨_, rfl, _, rfl, p, _, rfl, hp, by decide, by decide, fun r H1 r0 r1 d1 => ?_⟩
    refine ⟨_, rfl, _, rfl, _, rfl, _, _, rfl, rfl, p, _, rfl, d1.at_, by omega, by omega, fun r2 H2 r20 r21 d2 => ?_⟩
    have d2 := d1.trans d2
    refine ⟨(by show 7 ≤ sizeLine; decide), fun t ht => ?_⟩
    refine ⟨p, t, _, rfl, (d2.new ht).at_, d2.ne ht, upd_same, (show 0 < 7 by decide), (show 7 ≤ 1000 by decide), fun i x H3 hx d3 => ?_⟩
    have d := drew_one d2 ht d3
    have fin : ∀ y : Int, 0 ≤ y → x = .int y → Q x H3 := fun y h1 e => by
      rw [e]
      exact k y H3 h1 d
    match i, hx with
    | 0, hx => exact fin 0 (by decide) (Option.some.inj hx).symm
    | 1, hx => exact fin 1 (by decide) (Option.some.inj hx).symm
    | 2, hx => exact fin 2 (by decide) (Option.some.inj hx).symm
    | 3, hx => exact fin 3 (by decide) (Option.some.inj hx).symm
    | 4, hx => exact fin r r0 (Option.some.inj hx).symm
    | 5, hx => exact fin m m0 (Option.some.inj hx).symm
    | 6, hx => exact fin r2 r20 (Option.some.inj hx).symm
    | n + 7, hx => exact absurd hx (by simp)
theorem ok_L_fine (T : Tx w K mg) : Prom P w K mg base CX0 1 "_law_fine" s_L_fine ["_law_plan_here"] spFineP := by
  refine Prom.of T.d_L_fine sc_L_fine (fun vs H Q E h => ?_) (fun _ _ _ _ _ _ us hl => match us, hl with | [_], _ => rfl) (fun f cdv A outer s H vs Q E hr h => ?_)
  · obtain ⟨q, a, rfl, _⟩ := h
    rfl
  · obtain ⟨q, a, rfl, hq, ok, k⟩ := h
    have hq : H q = _ := hq
    refine ⟨_, (pss_cons (ps_if (pt_cmpR op_eq (pe_ix ix_list (pv 0) pe_int (fun _ _ => rfl)) pe_str (nomark _)) (pss_one (ps_ret (pe_op op_mul (pe_ix ix_list (pv 0) pe_int (fun _ _ => rfl)) (pe_ix ix_list (pv 0) pe_int (fun _ _ => rfl))))) pss_nil)
      (pss_one (ps_ret (pe_ifExp (pt_cmpR op_in_seq (pe_ix ix_list (pv 0) pe_int (fun _ _ => rfl)) (pe_lst (pa_cons pe_str (pa_cons pe_str (pa_cons pe_str pa_nil)))) (by rfl)) (pe_ix ix_list (pv 0) pe_int (fun _ _ => rfl)) pe_int)))), ?_⟩
    refine ⟨_, rfl, q, _, _, .str a.kind, rfl, rfl, SqL.of hq, at_of (j := 0) rfl rfl, rfl, _, rfl, ?_⟩
    cases a with
    | coded m c =>
      simp only [Wr.ok] at ok
      exact ifd_pos rfl ⟨_, rfl, q, _, _, .int m, rfl, rfl, SqL.of hq, at_of (j := 1) rfl rfl, _, rfl, q, _, _, .int c, rfl, rfl, SqL.of hq, at_of (j := 2) rfl rfl, _, _, rfl, rfl, .inl ⟨by omega, by omega⟩, k _ (Same.refl _)⟩
    | plus c =>
      refine ifs_neg (show ("plus" : Str) ≠ "coded" by decide) ⟨_, rfl, q, _, _, .str "plus", rfl, rfl, SqL.of hq, at_of (j := 0) rfl rfl, (by show 3 ≤ sizeLine; decide), fun l hl => ?_⟩
      exact ⟨l, _, rfl, .inl (SqL.of upd_same), rfl, rfl, _, rfl, ifb_neg (by kernel_rfl) (k _ (up hl))⟩
    | told c =>
      refine ifs_neg (show ("told" : Str) ≠ "coded" by decide) ⟨_, rfl, q, _, _, .str "told", rfl, rfl, SqL.of hq, at_of (j := 0) rfl rfl, (by show 3 ≤ sizeLine; decide), fun l hl => ?_⟩
      exact ⟨l, _, rfl, .inl (SqL.of upd_same), rfl, rfl, _, rfl, ifb_neg (by kernel_rfl) (k _ (up hl))⟩
    | whole c =>
      refine ifs_neg (show ("whole" : Str) ≠ "coded" by decide) ⟨_, rfl, q, _, _, .str "whole", rfl, rfl, SqL.of hq, at_of (j := 0) rfl rfl, (by show 3 ≤ sizeLine; decide), fun l hl => ?_⟩
      exact ⟨l, _, rfl, .inl (SqL.of upd_same), rfl, rfl, _, rfl, ifb_neg (by kernel_rfl) (k _ (up hl))⟩
    | pieces m c =>
      refine ifs_neg (show ("pieces" : Str) ≠ "coded" by decide) ⟨_, rfl, q, _, _, .str "pieces", rfl, rfl, SqL.of hq, at_of (j := 0) rfl rfl, (by show 3 ≤ sizeLine; decide), fun l hl => ?_⟩
      exact ⟨l, _, rfl, .inl (SqL.of upd_same), rfl, rfl, _, rfl, ifb_pos (by kernel_rfl) ⟨_, rfl, q, _, _, .int m, rfl, rfl, SqL.of (up hl _ _ hq), at_of (j := 1) rfl rfl, k _ (up hl)⟩⟩
    | cut m c =>
      refine ifs_neg (show ("cut" : Str) ≠ "coded" by decide) ⟨_, rfl, q, _, _, .str "cut", rfl, rfl, SqL.of hq, at_of (j := 0) rfl rfl, (by show 3 ≤ sizeLine; decide), fun l hl => ?_⟩
      exact ⟨l, _, rfl, .inl (SqL.of upd_same), rfl, rfl, _, rfl, ifb_pos (by kernel_rfl) ⟨_, rfl, q, _, _, .int m, rfl, rfl, SqL.of (up hl _ _ hq), at_of (j := 1) rfl rfl, k _ (up hl)⟩⟩
    | filled m =>
      refine ifs_neg (show ("filled" : Str) ≠ "coded" by decide) ⟨_, rfl, q, _, _, .str "filled", rfl, rfl, SqL.of hq, at_of (j := 0) rfl rfl, (by show 3 ≤ sizeLine; decide), fun l hl => ?_⟩
      exact ⟨l, _, rfl, .inl (SqL.of upd_same), rfl, rfl, _, rfl, ifb_pos (by kernel_rfl) ⟨_, rfl, q, _, _, .int m, rfl, rfl, SqL.of (up hl _ _ hq), at_of (j := 1) rfl rfl, k _ (up hl)⟩⟩
theorem ok_L_wrap (T : Tx w K mg) : Prom P w K mg base CX0 6 "_law_wrap" s_L_wrap ["_law_plan_here"] (spWrapP K) := by
  refine Prom.of T.d_L_wrap sc_L_wrap (fun vs H Q E h => ?_) (fun _ _ _ _ _ _ us hl => match us, hl with | [_], _ => rfl) (fun f cdv A outer s H vs Q E hr h => ?_)
  · obtain ⟨q, a, rfl, _⟩ := h
    rfl
  · obtain ⟨q, a, rfl, hq, ok, k⟩ := h
    have hq : H q = _ := hq
    refine ⟨_, (pss_one (ps_ret (pe_ifExp (pt_cmp (pc_eqI (pe_callB call_len_seq (by rfl) T.b_len (by decide +kernel) (pa_cons (pv 0) pa_nil)) pe_int)) (pe_newP (ok_Wrap T) (hr.mono (by decide)) (by rfl) pass0 (pa_cons (pe_ix ix_list (pv 0) pe_int (fun _ _ => rfl)) (pa_cons (pe_ix ix_list (pv 0) pe_int (fun _ _ => rfl)) pa_nil))) (pe_newP (ok_Wrap T) (hr.mono (by decide)) (by rfl) pass0 (pa_cons (pe_ix ix_list (pv 0) pe_int (fun _ _ => rfl)) (pa_cons (pe_ix ix_list (pv 0) pe_int (fun _ _ => rfl)) (pa_cons (pe_ix ix_list (pv 0) pe_int (fun _ _ => rfl)) pa_nil))))))), ?_⟩
    refine ⟨_, rfl, q, _, rfl, .inl (SqL.of hq), _, _, rfl, rfl, _, rfl, ?_⟩
    cases a with
    | plus c => exact ifd_pos rfl ⟨_, rfl, q, _, _, .str "plus", rfl, rfl, SqL.of hq, at_of (j := 0) rfl rfl, _, rfl, q, _, _, .int c, rfl, rfl, SqL.of hq, at_of (j := 1) rfl rfl, Wr.plus c, rfl, ok, k⟩
    | told c => exact ifd_pos rfl ⟨_, rfl, q, _, _, .str "told", rfl, rfl, SqL.of hq, at_of (j := 0) rfl rfl, _, rfl, q, _, _, .int c, rfl, rfl, SqL.of hq, at_of (j := 1) rfl rfl, Wr.told c, rfl, ok, k⟩
    | whole c => exact ifd_pos rfl ⟨_, rfl, q, _, _, .str "whole", rfl, rfl, SqL.of hq, at_of (j := 0) rfl rfl, _, rfl, q, _, _, .int c, rfl, rfl, SqL.of hq, at_of (j := 1) rfl rfl, Wr.whole c, rfl, ok, k⟩
    | filled c => exact ifd_pos rfl ⟨_, rfl, q, _, _, .str "filled", rfl, rfl, SqL.of hq, at_of (j := 0) rfl rfl, _, rfl, q, _, _, .int c, rfl, rfl, SqL.of hq, at_of (j := 1) rfl rfl, Wr.filled c, rfl, ok, k⟩
    | pieces m c => exact ifd_neg (show ¬ ((3 : Nat) : Int) = 2 by decide) ⟨_, rfl, q, _, _, .str "pieces", rfl, rfl, SqL.of hq, at_of (j := 0) rfl rfl, _, rfl, q, _, _, .int m, rfl, rfl, SqL.of hq, at_of (j := 1) rfl rfl, _, rfl, q, _, _, .int c, rfl, rfl, SqL.of hq, at_of (j := 2) rfl rfl, Wr.pieces m c, rfl, ok, k⟩
    | cut m c => exact ifd_neg (show ¬ ((3 : Nat) : Int) = 2 by decide) ⟨_, rfl, q, _, _, .str "cut", rfl, rfl, SqL.of hq, at_of (j := 0) rfl rfl, _, rfl, q, _, _, .int m, rfl, rfl, SqL.of hq, at_of (j := 1) rfl rfl, _, rfl, q, _, _, .int c, rfl, rfl, SqL.of hq, at_of (j := 2) rfl rfl, Wr.cut m c, rfl, ok, k⟩
    | coded m c => exact ifd_neg (show ¬ ((3 : Nat) : Int) = 2 by decide) ⟨_, rfl, q, _, _, .str "coded", rfl, rfl, SqL.of hq, at_of (j := 0) rfl rfl, _, rfl, q, _, _, .int m, rfl, rfl, SqL.of hq, at_of (j := 1) rfl rfl, _, rfl, q, _, _, .int c, rfl, rfl, SqL.of hq, at_of (j := 2) rfl rfl, Wr.coded m c, rfl, ok, k⟩
theorem ok_L_words (T : Tx w K mg) : Prom P w K mg base CX0 1 "_law_words" s_L_words ["_law_plan_here"] spWordsP := by
  refine Prom.of T.d_L_words sc_L_words (fun vs H Q E h => ?_) (fun _ _ _ _ _ _ us hl => match us, hl with | [_], _ => rfl) (fun f cdv A outer s H vs Q E hr h => ?_)
  · obtain ⟨q, a, rfl, _⟩ := h
    rfl
  · obtain ⟨q, a, rfl, hq, ok, k⟩ := h
    have hq : H q = _ := hq
    have nt := nums_two a
    refine ⟨_, (pss_one (ps_ret (pe_join pe_str (pe_lc (own := [("_law_thing", 1)]) (g := (gName 1)) (tt := tYes) (by rfl) sc_L_words.nd (pi_list (pv 0)) (blkOk_by (own := [("_law_thing", 1)]) (N := ["_law_plan_here", "_law_thing"]) (sc := defScope s_L_words) (by decide +kernel)) (fun _ _ _ _ _ => (pg_name (i := 1) sc_L_words.nd rfl (Or.inl rfl))) (fun _ _ _ _ _ => pts_nil) (fun _ _ _ _ _ => (pe_callTy cr_strV (by rfl) T.b_str (by decide +kernel) (pa_cons (pv 1) pa_nil))))))), ?_⟩
    refine ⟨⟨_, rfl⟩, _, rfl, q, rfl, ⟨_, SqL.of hq⟩, fun D hD => ?_⟩
    refine lc_list (K := K) (a := q) (xs := V.str a.kind :: a.nums.map V.int) (Pv := fun i H' => Same H H' ∧ H' D = some (.lst (((a.kind :: a.nums.map fun i => (toString i : Str)).take i).map V.str))) ⟨up hD, upd_same⟩ (fun i H' _ h => SqL.of (h.1 _ _ hq)) ?_ ?_
    · rintro i x H' hi ⟨hs, hd⟩
      obtain ⟨z, hz, hx⟩ : ∃ z, (a.kind :: a.nums.map fun i => (toString i : Str))[i]? = some z ∧ strV x = some z := by
        cases i with
        | zero =>
          have e : V.str a.kind = x := Option.some.inj hi
          subst e
          exact ⟨_, rfl, rfl⟩
        | succ i =>
          have hi : (a.nums.map V.int)[i]? = some x := hi
          obtain ⟨n, hn, rfl⟩ := int_at hi
          have sm := nums_small ok n (List.mem_of_getElem? hn)
          refine ⟨toString n, ?_, if_pos (log2_small sm.1 (by omega))⟩
          show (a.nums.map fun i => (toString i : Str))[i]? = _
          rw [List.getElem?_map, hn]
          rfl
      refine ⟨rfl, _, rfl, x, z, rfl, hx, _, hd, ?_, fun y o e => ?_, ?_⟩
      · rw [List.length_map, sizeLine_eq]
        have := List.length_take_le' i (a.kind :: a.nums.map fun i => (toString i : Str))
        rw [List.length_cons, List.length_map] at this
        omega
      · rw [upd_ne (ne_of_none e hD)]
        exact hs _ _ e
      · rw [upd_same, List.take_succ, hz, List.map_append]
        rfl
    · rintro H' ⟨hs, hd⟩
      have e : (V.str a.kind :: a.nums.map V.int).length = (a.kind :: a.nums.map fun i => (toString i : Str)).length := by simp
      rw [e, List.take_length] at hd
      have h2 := sum_short a.nums fun z hz => by have := nums_small ok z hz; omega
      have h3 := kind_len a
      have h5 : (" " : Str).length = 1 := by decide
      refine ⟨_, D, a.kind :: a.nums.map fun i => (toString i : Str), rfl, rfl, .inl (SqL.of hd), ?_, k _ hs⟩
      simp only [List.map_cons, List.sum_cons, List.length_cons, List.length_map]
      rw [h5]
      omega
theorem ok_L_rows (T : Tx w K mg) : Prom P w K mg base CX0 2 "_law_rows" s_L_rows ["_law_root_here", "_law_plans"] spRowsP := by
  refine Prom.of T.d_L_rows sc_L_rows (fun vs H Q E h => ?_) (fun _ _ _ _ _ _ us hl => match us, hl with | [_, _], _ => rfl) (fun f cdv A outer s H vs Q E hr h => ?_)
  · obtain ⟨l, b, xs, ws, rfl, _⟩ := h
    rfl
  · obtain ⟨l, b, xs, ws, rfl, hl, hw, so, k⟩ := h
    have hlx := hw.len
    have l6 := so.len
    have b0 := so.b0
    have b1 := so.b1
    have bl := small_text (b := b) (by omega) b1
    have e5 : ("base " : Str).length = 5 := by decide
    refine ⟨_, (pss_one (ps_ret (pe_join pe_str (pe_op op_cat (pe_lst (pa_cons (pe_op op_add_str pe_str (pe_callTy call_str_int (by rfl) T.b_str (by decide +kernel) (pa_cons (pv 0) pa_nil))) pa_nil)) (pe_lc (own := [("_law_plan_here", 2)]) (g := (gName 2)) (tt := tYes) (by rfl) sc_L_rows.nd (pi_list (pv 1)) (blkOk_by (own := [("_law_plan_here", 2)]) (N := ["_law_root_here", "_law_plans", "_law_plan_here"]) (sc := defScope s_L_rows) (by decide +kernel)) (fun _ _ _ _ _ => (pg_name (i := 2) sc_L_rows.nd rfl (Or.inl rfl))) (fun _ _ _ _ _ => pts_nil) (fun _ _ _ _ _ => (pe_callP (ok_L_words T) (hr.mono (by decide)) (by rfl) pass0 (pa_cons (pv 2) pa_nil)))))))), ?_⟩
    refine ⟨⟨_, rfl⟩, _, rfl, b, rfl, log2_small (by omega) (by omega), _, _, rfl, rfl, by rw [e5, sizeLine_eq]; omega, (by show 1 ≤ sizeLine; decide), fun l1 hl1 => ?_⟩
    have v1 := up (o := .lst [.str ("base " ++ (toString b : Str))]) hl1
    have hlv := v1 _ _ hl
    refine ⟨_, rfl, l, rfl, ⟨_, SqL.of hlv⟩, fun D hD => ?_⟩
    refine lc_list (K := K) (a := l) (xs := xs) (Pv := fun i H' => Same (upd H l1 (.lst [.str ("base " ++ (toString b : Str))])) H' ∧ H' D = some (.lst ((ws.take i).map fun z => V.str z.text))) ⟨up hD, upd_same⟩ (fun i H' _ h => SqL.of (h.1 _ _ hlv)) ?_ ?_
    · rintro i x H' hi ⟨hs, hd⟩
      obtain ⟨q, a, rfl, ha, hq⟩ := (hw.same (v1.trans hs)).get hi
      refine ⟨rfl, _, rfl, q, a, rfl, hq, so.ok a (List.mem_of_getElem? ha), fun H3 s3 => ⟨_, s3 _ _ hd, ?_, fun y o e => ?_, ?_⟩⟩
      · rw [List.length_map, List.length_take, sizeLine_eq]
        omega
      · rw [upd_ne (ne_of_none e hD)]
        exact s3 _ _ (hs _ _ e)
      · rw [upd_same, List.take_succ, ha, List.map_append]
        rfl
    · rintro H' ⟨hs, hd⟩
      rw [hlx, List.take_length] at hd
      refine ⟨l1, D, _, _, rfl, rfl, hs _ _ upd_same, hd, ?_, fun l3 hl3 => ?_⟩
      · rw [List.length_map, List.length_singleton, sizeLine_eq]
        omega
      have eb : (("base " : Str) ++ (toString b : Str)) = baseText b := by
        unfold baseText
        rw [PySem.Str.empty_append]
      have el2 : [V.str ("base " ++ (toString b : Str))] ++ ws.map (fun z => V.str z.text) = (baseText b :: ws.map Wr.text).map V.str := by
        rw [eb]
        simp
      refine ⟨_, l3, baseText b :: ws.map Wr.text, rfl, rfl, .inl (SqL.of (by rw [← el2]; exact upd_same)), ?_, k _ ((v1.trans hs).trans (up hl3))⟩
      have h1 := texts_sum so.ok
      have h2 : ("\n" : Str).length = 1 := by decide
      have h3 : (baseText b).length ≤ 9 := by
        rw [← eb, PySem.Str.length_append]
        omega
      simp only [List.map_cons, List.sum_cons, List.length_cons, List.length_map] at h1 ⊢
      rw [h2]
      omega
end
set_option pp.maxSteps 900
theorem new_beforeB {p q : Addr} {H H1 : Hp} (d : Drew p H H1) (h : H1 q = none) : H q = none := by
  cases e : H q with
  | none => rfl
  | some o =>
    have n : q ≠ p := fun z => by
      obtain ⟨_, _, _, e2, _⟩ := d.at_
      rw [z, e2] at h
      cases h
    rw [d.kp _ _ n e] at h
    cases h
theorem use_most {a : Wr} (h : a.ok) : a.use ≤ 7200 := by
  cases a <;> simp only [Wr.ok] at h <;> simp only [Wr.use] <;> try omega
  rename_i m c
  have := Int.mul_le_mul h.2.1 h.2.2.2 (by omega) (show (0 : Int) ≤ 60 by decide)
  omega
def spFinenessP : Sp := fun vs H Q _ => ∃ (l : Addr) (xs : List V) (ws : List Wr), vs = [.ref l] ∧ H l = some (.lst xs) ∧ PlansAt H xs ws ∧ (∀ a ∈ ws, a.ok) ∧ ws.length ≤ 6 ∧ ∀ H', Same H H' → Q (.int (fineL ws)) H'
def spFarB : Sp := fun vs H Q _ => ∃ (p : Addr) (b : Int), vs = [.ref p, .int b] ∧ PurseAt H p ∧ 2 ≤ b ∧ b ≤ 256 ∧ ∀ r H', 0 ≤ r → r ≤ 10 ^ 60 - 1 → Drew p H H' → Q (.int r) H'
section
variable {P : Program} {w : World} {K : PySem.W.Frag} {mg : Str → Option Value} {base : Heap}
theorem ok_L_plan (T : Tx w K mg) : Prom P w K mg base CX0 4 "_law_plan" s_L_plan ["_law_bowl_here", "_law_room"] spPlan := by
  refine Prom.of T.d_L_plan sc_L_plan (fun vs H Q E h => ?_) (fun _ _ _ _ _ _ us hl => match us, hl with | [_, _], _ => rfl) (fun f cdv A outer s H vs Q E hr h => ?_)
  · obtain ⟨p, r, rfl, _⟩ := h
    rfl
  · obtain ⟨p, rm, rfl, hp, r0', rm1, k⟩ := h
    refine ⟨_, (pss_cons (ps_set (i := 2) sc_L_plan.nd rfl (Or.inl rfl) (pe_callP (ok_L_one_of T) (hr.mono (by decide)) (by rfl) pass0 (pa_cons (pv 0) (pa_cons (pe_lst (pa_cons pe_str (pa_cons pe_str (pa_cons pe_str (pa_cons pe_str (pa_cons pe_str (pa_cons pe_str (pa_cons pe_str (pa_cons pe_str (pa_cons pe_str pa_nil)))))))))) pa_nil))))
      (pss_cons (ps_if (pt_cmpR op_in_seq (pv 2) (pe_lst (pa_cons pe_str (pa_cons pe_str (pa_cons pe_str pa_nil)))) (by rfl)) (pss_one (ps_ret (pe_lst (pa_cons (pv 2) (pa_cons (pe_callB (call_min2 rfl) (by rfl) T.b_min (by decide +kernel) (pa_cons pe_int (pa_cons (pe_callP (ok_L_small T) (hr.mono (by decide)) (by rfl) pass0 (pa_cons (pv 0) (pa_cons pe_int pa_nil))) pa_nil))) pa_nil))))) pss_nil)
      (pss_cons (ps_set (i := 3) sc_L_plan.nd rfl (Or.inl rfl) (pe_op op_add pe_int (pe_callP (ok_L_scoop T) (hr.mono (by decide)) (by rfl) pass0 (pa_cons (pv 0) (pa_cons (pe_callB (call_min2 rfl) (by rfl) T.b_min (by decide +kernel) (pa_cons pe_int (pa_cons (pv 1) pa_nil))) pa_nil)))))
      (pss_cons (ps_if (pt_cmpR op_eq (pv 2) pe_str (nomark _)) (pss_one (ps_ret (pe_lst (pa_cons (pv 2) (pa_cons (pv 3) pa_nil))))) pss_nil)
      (pss_cons (ps_if (pt_cmpR op_in_seq (pv 2) (pe_lst (pa_cons pe_str (pa_cons pe_str pa_nil))) (by rfl)) (pss_one (ps_ret (pe_lst (pa_cons (pv 2) (pa_cons (pv 3) (pa_cons (pe_callB (call_min2 rfl) (by rfl) T.b_min (by decide +kernel) (pa_cons pe_int (pa_cons (pe_callP (ok_L_small T) (hr.mono (by decide)) (by rfl) pass0 (pa_cons (pv 0) (pa_cons pe_int pa_nil))) pa_nil))) pa_nil)))))) pss_nil)
      (pss_cons (ps_while PassesOwn.never (pt_cmp (pc_gt (pe_op op_mul (pv 3) (pv 3)) (pv 1))) (pss_one (ps_set (i := 3) sc_L_plan.nd rfl (Or.inl rfl) (pe_op op_add pe_int (pe_op op_fdiv (pv 3) pe_int)))))
      (pss_one (ps_ret (pe_lst (pa_cons (pv 2) (pa_cons (pv 3) (pa_cons (pe_op op_add (pv 3) (pe_callP (ok_L_scoop T) (hr.mono (by decide)) (by rfl) pass0 (pa_cons (pv 0) (pa_cons (pe_op op_add (pe_op op_sub (pe_callB (call_min2 rfl) (by rfl) T.b_min (by decide +kernel) (pa_cons pe_int (pa_cons (pe_op op_fdiv (pv 1) (pv 3)) pa_nil))) (pv 3)) pe_int) pa_nil)))) pa_nil)))))))))))), ?_⟩
    refine ⟨_, rfl, (by show 9 ≤ sizeLine; decide), fun t ht => ?_⟩
    have d0 := (Drew.refl hp).new (o := .lst [V.str "told", V.str "whole", V.str "plus", V.str "told", V.str "whole", V.str "pieces", V.str "cut", V.str "coded", V.str "filled"]) ht
    refine ⟨p, t, _, rfl, d0.at_, (Drew.refl hp).ne ht, upd_same, (show 0 < 9 by decide), (show 9 ≤ 1000 by decide), fun i x H1 hx d1 => ?_⟩
    have d1 := d0.trans d1
    obtain ⟨s, rfl, hs⟩ : ∃ s : Str, x = .str s ∧ (s = "told" ∨ s = "whole" ∨ s = "plus" ∨ s = "pieces" ∨ s = "cut" ∨ s = "coded" ∨ s = "filled") := by
      match i, hx with
      | 0, hx => exact ⟨_, (Option.some.inj hx).symm, .inl rfl⟩
      | 1, hx => exact ⟨_, (Option.some.inj hx).symm, .inr (.inl rfl)⟩
      | 2, hx => exact ⟨_, (Option.some.inj hx).symm, .inr (.inr (.inl rfl))⟩
      | 3, hx => exact ⟨_, (Option.some.inj hx).symm, .inl rfl⟩
      | 4, hx => exact ⟨_, (Option.some.inj hx).symm, .inr (.inl rfl)⟩
      | 5, hx => exact ⟨_, (Option.some.inj hx).symm, .inr (.inr (.inr (.inl rfl)))⟩
      | 6, hx => exact ⟨_, (Option.some.inj hx).symm, .inr (.inr (.inr (.inr (.inl rfl))))⟩
      | 7, hx => exact ⟨_, (Option.some.inj hx).symm, .inr (.inr (.inr (.inr (.inr (.inl rfl)))))⟩
      | 8, hx => exact ⟨_, (Option.some.inj hx).symm, .inr (.inr (.inr (.inr (.inr (.inr rfl)))))⟩
      | n + 9, hx => exact absurd hx (by simp)
    rcases hs with rfl | rfl | rfl | rfl | rfl | rfl | rfl
    · refine ⟨_, rfl, (by show 3 ≤ sizeLine; decide), fun l hl => ⟨l, _, rfl, .inl (SqL.of upd_same), rfl, rfl, _, rfl, ifb_pos (by kernel_rfl) ?_⟩⟩
      have d2 := d1.new (o := .lst [V.str "told", V.str "whole", V.str "plus"]) hl
      refine ⟨_, rfl, _, rfl, p, _, rfl, d2.at_, by decide, by decide, fun r H2 r0 d3 => ⟨_, _, rfl, (by show 2 ≤ sizeLine; decide), fun q hq => ?_⟩⟩
      have d3 := d2.trans d3
      exact k q (Wr.told (if r < 1000 then r else 1000)) _ ⟨by split <;> omega, by split <;> omega⟩ r0' (new_beforeB d3 hq) (d3.new hq) upd_same
    · refine ⟨_, rfl, (by show 3 ≤ sizeLine; decide), fun l hl => ⟨l, _, rfl, .inl (SqL.of upd_same), rfl, rfl, _, rfl, ifb_pos (by kernel_rfl) ?_⟩⟩
      have d2 := d1.new (o := .lst [V.str "told", V.str "whole", V.str "plus"]) hl
      refine ⟨_, rfl, _, rfl, p, _, rfl, d2.at_, by decide, by decide, fun r H2 r0 d3 => ⟨_, _, rfl, (by show 2 ≤ sizeLine; decide), fun q hq => ?_⟩⟩
      have d3 := d2.trans d3
      exact k q (Wr.whole (if r < 1000 then r else 1000)) _ ⟨by split <;> omega, by split <;> omega⟩ r0' (new_beforeB d3 hq) (d3.new hq) upd_same
    · refine ⟨_, rfl, (by show 3 ≤ sizeLine; decide), fun l hl => ⟨l, _, rfl, .inl (SqL.of upd_same), rfl, rfl, _, rfl, ifb_pos (by kernel_rfl) ?_⟩⟩
      have d2 := d1.new (o := .lst [V.str "told", V.str "whole", V.str "plus"]) hl
      refine ⟨_, rfl, _, rfl, p, _, rfl, d2.at_, by decide, by decide, fun r H2 r0 d3 => ⟨_, _, rfl, (by show 2 ≤ sizeLine; decide), fun q hq => ?_⟩⟩
      have d3 := d2.trans d3
      exact k q (Wr.plus (if r < 1000 then r else 1000)) _ ⟨by split <;> omega, by split <;> omega⟩ r0' (new_beforeB d3 hq) (d3.new hq) upd_same
    · refine ⟨_, rfl, (by show 3 ≤ sizeLine; decide), fun l hl => ⟨l, _, rfl, .inl (SqL.of upd_same), rfl, rfl, _, rfl, ifb_neg (by kernel_rfl) ?_⟩⟩
      have d2 := d1.new (o := .lst [V.str "told", V.str "whole", V.str "plus"]) hl
      generalize upd H1 l (.lst [V.str "told", V.str "whole", V.str "plus"]) = H2 at d2 ⊢
      refine ⟨_, rfl, _, rfl, _, _, rfl, p, _, rfl, d2.at_, by split <;> omega, by split <;> omega, fun r H3 r0 r1 d3 => ⟨_, _, rfl, rfl, ?_⟩⟩
      have d3 := d2.trans d3
      have q0 : 1 ≤ 1 + r := by omega
      have q1 : 1 + r ≤ 60 ∧ 1 + r ≤ rm := by split at r1 <;> omega
      show gName 3 (V.int (1 + r)) _ _ _
      generalize 1 + r = pt at q0 q1 ⊢
      refine ⟨_, rfl, rfl, _, rfl, ifs_neg (show ("pieces" : Str) ≠ "filled" by decide) ?_⟩
      refine ⟨_, rfl, (by show 2 ≤ sizeLine; decide), fun l2 hl2 => ⟨l2, _, rfl, .inl (SqL.of upd_same), rfl, rfl, _, rfl, ifb_pos (by kernel_rfl) ?_⟩⟩
      have d4 := d3.new (o := .lst [V.str "cut", V.str "pieces"]) hl2
      refine ⟨_, rfl, _, rfl, _, rfl, p, _, rfl, d4.at_, by decide, by decide, fun z H4 z0 d5 => ⟨_, _, rfl, (by show 3 ≤ sizeLine; decide), fun q hq => ?_⟩⟩
      have d5 := d4.trans d5
      exact k q (Wr.pieces pt (if z < 60 then z else 60)) _ ⟨q0, q1.1, by split <;> omega, by split <;> omega⟩ q1.2 (new_beforeB d5 hq) (d5.new hq) upd_same
    · refine ⟨_, rfl, (by show 3 ≤ sizeLine; decide), fun l hl => ⟨l, _, rfl, .inl (SqL.of upd_same), rfl, rfl, _, rfl, ifb_neg (by kernel_rfl) ?_⟩⟩
      have d2 := d1.new (o := .lst [V.str "told", V.str "whole", V.str "plus"]) hl
      generalize upd H1 l (.lst [V.str "told", V.str "whole", V.str "plus"]) = H2 at d2 ⊢
      refine ⟨_, rfl, _, rfl, _, _, rfl, p, _, rfl, d2.at_, by split <;> omega, by split <;> omega, fun r H3 r0 r1 d3 => ⟨_, _, rfl, rfl, ?_⟩⟩
      have d3 := d2.trans d3
      have q0 : 1 ≤ 1 + r := by omega
      have q1 : 1 + r ≤ 60 ∧ 1 + r ≤ rm := by split at r1 <;> omega
      show gName 3 (V.int (1 + r)) _ _ _
      generalize 1 + r = pt at q0 q1 ⊢
      refine ⟨_, rfl, rfl, _, rfl, ifs_neg (show ("cut" : Str) ≠ "filled" by decide) ?_⟩
      refine ⟨_, rfl, (by show 2 ≤ sizeLine; decide), fun l2 hl2 => ⟨l2, _, rfl, .inl (SqL.of upd_same), rfl, rfl, _, rfl, ifb_pos (by kernel_rfl) ?_⟩⟩
      have d4 := d3.new (o := .lst [V.str "cut", V.str "pieces"]) hl2
      refine ⟨_, rfl, _, rfl, _, rfl, p, _, rfl, d4.at_, by decide, by decide, fun z H4 z0 d5 => ⟨_, _, rfl, (by show 3 ≤ sizeLine; decide), fun q hq => ?_⟩⟩
      have d5 := d4.trans d5
      exact k q (Wr.cut pt (if z < 60 then z else 60)) _ ⟨q0, q1.1, by split <;> omega, by split <;> omega⟩ q1.2 (new_beforeB d5 hq) (d5.new hq) upd_same
    · refine ⟨_, rfl, (by show 3 ≤ sizeLine; decide), fun l hl => ⟨l, _, rfl, .inl (SqL.of upd_same), rfl, rfl, _, rfl, ifb_neg (by kernel_rfl) ?_⟩⟩
      have d2 := d1.new (o := .lst [V.str "told", V.str "whole", V.str "plus"]) hl
      generalize upd H1 l (.lst [V.str "told", V.str "whole", V.str "plus"]) = H2 at d2 ⊢
      refine ⟨_, rfl, _, rfl, _, _, rfl, p, _, rfl, d2.at_, by split <;> omega, by split <;> omega, fun r H3 r0 r1 d3 => ⟨_, _, rfl, rfl, ?_⟩⟩
      have d3 := d2.trans d3
      have q0 : 1 ≤ 1 + r := by omega
      have q1 : 1 + r ≤ 60 ∧ 1 + r ≤ rm := by split at r1 <;> omega
      show gName 3 (V.int (1 + r)) _ _ _
      generalize 1 + r = pt at q0 q1 ⊢
      refine ⟨_, rfl, rfl, _, rfl, ifs_neg (show ("coded" : Str) ≠ "filled" by decide) ?_⟩
      refine ⟨_, rfl, (by show 2 ≤ sizeLine; decide), fun l2 hl2 => ⟨l2, _, rfl, .inl (SqL.of upd_same), rfl, rfl, _, rfl, ifb_neg (by kernel_rfl) ?_⟩⟩
      have d4 := d3.new (o := .lst [V.str "cut", V.str "pieces"]) hl2
      generalize upd H3 l2 (.lst [V.str "cut", V.str "pieces"]) = H4 at d4 ⊢
      refine ⟨fun m σ H5 => H5 = H4 ∧ ∃ g : Int, 1 ≤ g ∧ g ≤ 60 ∧ m = g.toNat ∧ σ = [some (.ref p), some (.int rm), some (.str "coded"), some (.int g)], ⟨_, rfl, pt, q0, q1.1, rfl, rfl⟩, ?_⟩
      rintro m σ H5 ⟨rfl, g, g0, g1, rfl, rfl⟩
      refine ⟨_, rfl, _, rfl, _, _, rfl, rfl, .inl ⟨by omega, by omega⟩, _, rfl, _, _, rfl, rfl, _, rfl, ifd (fun c => ?_) (fun c => ?_)⟩
      · have c : g * g > rm := c
        have g2 : 2 ≤ g := by
          by_cases z : g = 1
          · subst z
            omega
          · omega
        refine ⟨_, fun σ' H' h => h, ?_⟩
        refine ⟨_, rfl, _, _, rfl, rfl, ⟨by decide, by decide⟩, _, _, rfl, rfl, ?_⟩
        exact ⟨_, by show (1 + g / 3).toNat < g.toNat; omega, rfl, 1 + g / 3, by omega, by omega, rfl, rfl⟩
      · have c : ¬ g * g > rm := c
        have gd : g ≤ rm / g := (Int.le_ediv_iff_mul_le (by omega)).mpr (by omega)
        have gg : g * (rm / g) ≤ rm := by
          have := Int.ediv_mul_le rm (show g ≠ 0 by omega)
          rw [Int.mul_comm]
          exact this
        refine ⟨_, rfl, _, rfl, _, rfl, _, rfl, _, rfl, _, rfl, _, _, rfl, rfl, ⟨by omega, by omega⟩, _, _, rfl, _, rfl, _, _, rfl, rfl, _, _, rfl, rfl, p, _, rfl, d4.at_, by split <;> omega, by split <;> omega, fun y H6 y0 y1 d6 => ⟨_, _, rfl, rfl, (by show 3 ≤ sizeLine; decide), fun q hq => ?_⟩⟩
        have d6 := d4.trans d6
        have y2 : g + y ≤ 120 ∧ g + y ≤ rm / g := by split at y1 <;> omega
        have us : g * (g + y) ≤ rm := Int.le_trans (Int.mul_le_mul_of_nonneg_left y2.2 (by omega)) gg
        exact k q (Wr.coded g (g + y)) _ ⟨g0, g1, by omega, y2.1⟩ us (new_beforeB d6 hq) (d6.new hq) upd_same
    · refine ⟨_, rfl, (by show 3 ≤ sizeLine; decide), fun l hl => ⟨l, _, rfl, .inl (SqL.of upd_same), rfl, rfl, _, rfl, ifb_neg (by kernel_rfl) ?_⟩⟩
      have d2 := d1.new (o := .lst [V.str "told", V.str "whole", V.str "plus"]) hl
      generalize upd H1 l (.lst [V.str "told", V.str "whole", V.str "plus"]) = H2 at d2 ⊢
      refine ⟨_, rfl, _, rfl, _, _, rfl, p, _, rfl, d2.at_, by split <;> omega, by split <;> omega, fun r H3 r0 r1 d3 => ⟨_, _, rfl, rfl, ?_⟩⟩
      have d3 := d2.trans d3
      have q0 : 1 ≤ 1 + r := by omega
      have q1 : 1 + r ≤ 60 ∧ 1 + r ≤ rm := by split at r1 <;> omega
      show gName 3 (V.int (1 + r)) _ _ _
      generalize 1 + r = pt at q0 q1 ⊢
      refine ⟨_, rfl, rfl, _, rfl, ifd_pos rfl ?_⟩
      refine ⟨_, rfl, _, rfl, (by show 2 ≤ sizeLine; decide), fun q hq => ?_⟩
      exact k q (Wr.filled pt) _ ⟨q0, q1.1⟩ q1.2 (new_beforeB d3 hq) (d3.new hq) upd_same
theorem ok_L_far (T : Tx w K mg) : Prom P w K mg base CX0 3 "_law_far" s_L_far ["_law_bowl_here", "_law_root_here"] spFarB := by
  refine Prom.of T.d_L_far sc_L_far (fun vs H Q E h => ?_) (fun _ _ _ _ _ _ us hl => match us, hl with | [_, _], _ => rfl) (fun f cdv A outer s H vs Q E hr h => ?_)
  · obtain ⟨p, b, rfl, _⟩ := h
    rfl
  · obtain ⟨p, b, rfl, hp, b0, b1, k⟩ := h
    refine ⟨_, (pss_cons (ps_set (i := 2) sc_L_far.nd rfl (Or.inl rfl) pe_int)
      (pss_cons (ps_for PassesOwn.never (by rfl) (pi_range1 (by rfl) T.b_range (pa_cons (pe_callP (ok_L_scoop T) (hr.mono (by decide)) (by rfl) pass0 (pa_cons (pv 0) (pa_cons pe_int pa_nil))) pa_nil)) (pg_name (i := 3) sc_L_far.nd rfl (Or.inl rfl)) (pss_one (ps_if (pt_cmp (pc_lt (pe_op op_mul (pv 2) (pv 1)) (pe_op op_pow pe_int pe_int))) (pss_one (ps_set (i := 2) sc_L_far.nd rfl (Or.inl rfl) (pe_op op_mul (pv 2) (pv 1)))) pss_nil)))
      (pss_cons (ps_set (i := 4) sc_L_far.nd rfl (Or.inl rfl) (pe_callB (call_max2 rfl) (by rfl) T.b_max (by decide +kernel) (pa_cons pe_int (pa_cons (pe_callTy call_int1 (by rfl) T.b_int (by decide +kernel) (pa_cons (pe_op op_sub (pe_op op_add (pv 2) (pe_callP (ok_L_scoop T) (hr.mono (by decide)) (by rfl) pass0 (pa_cons (pv 0) (pa_cons pe_int pa_nil)))) pe_int) pa_nil)) pa_nil))))
      (pss_cons (ps_set (i := 5) sc_L_far.nd rfl (Or.inl rfl) (pe_op op_mul (pe_callP (ok_L_scoop T) (hr.mono (by decide)) (by rfl) pass0 (pa_cons (pv 0) (pa_cons (pe_op op_pow pe_int pe_int) pa_nil))) (pe_callP (ok_L_one_of T) (hr.mono (by decide)) (by rfl) pass0 (pa_cons (pv 0) (pa_cons (pe_lst (pa_cons pe_int (pa_cons (pe_op op_pow pe_int pe_int) (pa_cons (pe_op op_pow pe_int pe_int) (pa_cons (pe_op op_pow pe_int pe_int) pa_nil))))) pa_nil)))))
      (pss_cons (ps_set (i := 5) sc_L_far.nd rfl (Or.inl rfl) (pe_callTy call_int1 (by rfl) T.b_int (by decide +kernel) (pa_cons (pe_op op_add (pv 5) (pe_callP (ok_L_scoop T) (hr.mono (by decide)) (by rfl) pass0 (pa_cons (pv 0) (pa_cons pe_int pa_nil)))) pa_nil)))
      (pss_one (ps_ret (pe_callP (ok_L_one_of T) (hr.mono (by decide)) (by rfl) pass0 (pa_cons (pv 0) (pa_cons (pe_lst (pa_cons (pe_callP (ok_L_scoop T) (hr.mono (by decide)) (by rfl) pass0 (pa_cons (pv 0) (pa_cons pe_int pa_nil))) (pa_cons (pv 4) (pa_cons (pv 4) (pa_cons (pv 5) (pa_cons (pe_op op_sub (pe_op op_sub (pe_op op_pow pe_int pe_int) pe_int) (pe_callP (ok_L_scoop T) (hr.mono (by decide)) (by rfl) pass0 (pa_cons (pv 0) (pa_cons pe_int pa_nil)))) pa_nil)))))) pa_nil)))))))))), ?_⟩
    refine ⟨_, rfl, p, _, rfl, hp, by decide, by decide, fun m H1 m0 m1 d1 => ?_⟩
    refine ⟨_, rfl, by omega, by omega, for_range (lo := 0) (n := m.toNat) (fun i σ H' => H' = H1 ∧ ∃ (st : Int) (v : Option V), 1 ≤ st ∧ st < 10 ^ 59 ∧ σ = [some (.ref p), some (.int b), some (.int st), v, none, none]) ⟨rfl, 1, none, by decide, by decide, rfl⟩ ?_ ?_⟩
    · rintro i σ H2 hi ⟨rfl, st, v, s0, s1, rfl⟩
      refine ⟨_, rfl, _, rfl, _, _, rfl, rfl, .inr ⟨by omega, by omega⟩, _, _, rfl, rfl, ⟨by decide, by decide, by decide⟩, _, _, rfl, rfl, _, rfl, ifd (fun c => ?_) (fun c => ⟨rfl, st, _, s0, s1, rfl⟩)⟩
      have c : st * b < 10 ^ 59 := c
      have sb : 1 ≤ st * b := by
        have := Int.mul_le_mul s0 (show 1 ≤ b by omega) (by decide) (by omega)
        omega
      exact ⟨_, rfl, _, rfl, _, _, rfl, rfl, .inr ⟨by omega, by omega⟩, rfl, st * b, _, sb, c, rfl⟩
    · rintro σ H2 ⟨rfl, st, v, s0, s1, rfl⟩
      refine ⟨_, rfl, _, rfl, p, _, rfl, d1.at_, by decide, by decide, fun r H3 r0 r1 d3 => ?_⟩
      have d3 := d1.trans d3
      refine ⟨_, _, rfl, rfl, _, _, rfl, rfl, .inl ⟨_, rfl, _, _, rfl, ?_⟩⟩
      have e0 : 0 ≤ (if st + r - 40 > 0 then st + r - 40 else 0) := by split <;> omega
      have e1 : (if st + r - 40 > 0 then st + r - 40 else 0) ≤ 10 ^ 60 - 1 := by split <;> omega
      show gName 4 (V.int (if st + r - 40 > 0 then st + r - 40 else 0)) _ _ _
      generalize (if st + r - 40 > 0 then st + r - 40 else 0) = near at e0 e1 ⊢
      refine ⟨_, rfl, _, _, rfl, rfl, ⟨by decide, by decide, by decide⟩, p, _, rfl, d3.at_, by decide, by decide, fun g H4 g0 g1 d4 => ?_⟩
      have d4 := d3.trans d4
      have g1 : g < 1000000000 := g1
      refine ⟨_, rfl, _, _, rfl, rfl, ⟨by decide, by decide, by decide⟩, _, _, rfl, rfl, ⟨by decide, by decide, by decide⟩, _, _, rfl, rfl, ⟨by decide, by decide, by decide⟩, (by show 4 ≤ sizeLine; decide), fun t ht => ?_⟩
      refine ⟨p, t, _, rfl, (d4.new ht).at_, d4.ne ht, upd_same, (show 0 < 4 by decide), (show 4 ≤ 1000 by decide), fun i x H5 hx d5 => ?_⟩
      have d5 := drew_one d4 ht d5
      obtain ⟨y, rfl, y0, y1⟩ : ∃ y : Int, x = .int y ∧ 0 ≤ y ∧ y ≤ 10 ^ 50 := by
        match i, hx with
        | 0, hx => exact ⟨_, (Option.some.inj hx).symm, by decide, by decide⟩
        | 1, hx => exact ⟨_, (Option.some.inj hx).symm, by decide, by decide⟩
        | 2, hx => exact ⟨_, (Option.some.inj hx).symm, by decide, by decide⟩
        | 3, hx => exact ⟨_, (Option.some.inj hx).symm, by decide, by decide⟩
        | n + 4, hx => exact absurd hx (by simp)
      refine ⟨_, _, rfl, rfl, .inl ⟨by omega, by omega⟩, ?_⟩
      have a0 : 0 ≤ g * y := Int.mul_nonneg g0 y0
      have a1 : g * y ≤ 1000000000 * 10 ^ 50 := Int.mul_le_mul (by omega) y1 y0 (by decide)
      show gName 5 (V.int (g * y)) _ _ _
      generalize g * y = an at a0 a1 ⊢
      refine ⟨_, rfl, _, rfl, p, _, rfl, d5.at_, by decide, by decide, fun z H6 z0 z1 d6 => ⟨_, _, rfl, rfl, .inl ⟨_, rfl, ?_⟩⟩⟩
      have d6 := d5.trans d6
      refine ⟨_, rfl, _, rfl, p, _, rfl, d6.at_, by decide, by decide, fun u1 H7 u10 u11 d7 => ?_⟩
      have d7 := d6.trans d7
      refine ⟨_, rfl, _, rfl, _, rfl, _, _, rfl, rfl, ⟨by decide, by decide, by decide⟩, _, _, rfl, rfl, _, rfl, p, _, rfl, d7.at_, by decide, by decide, fun u2 H8 u20 u21 d8 => ⟨_, _, rfl, rfl, (by show 5 ≤ sizeLine; decide), fun t2 ht2 => ?_⟩⟩
      have d8 := d7.trans d8
      refine ⟨p, t2, _, rfl, (d8.new ht2).at_, d8.ne ht2, upd_same, (show 0 < 5 by decide), (show 5 ≤ 1000 by decide), fun i x H9 hx d9 => ?_⟩
      have d := drew_one d8 ht2 d9
      have fin : ∀ y : Int, 0 ≤ y → y ≤ 10 ^ 60 - 1 → x = .int y → Q x H9 := fun y h1 h2 e => by
        rw [e]
        exact k y H9 h1 h2 d
      match i, hx with
      | 0, hx => exact fin u1 u10 (by omega) (Option.some.inj hx).symm
      | 1, hx => exact fin near e0 e1 (Option.some.inj hx).symm
      | 2, hx => exact fin near e0 e1 (Option.some.inj hx).symm
      | 3, hx => exact fin (an + z) (by omega) (by omega) (Option.some.inj hx).symm
      | 4, hx => exact fin (10 ^ 60 - 1 - u2) (by omega) (by omega) (Option.some.inj hx).symm
      | n + 5, hx => exact absurd hx (by simp)
theorem ok_L_fineness (T : Tx w K mg) : Prom P w K mg base CX0 2 "_law_fineness" s_L_fineness ["_law_plans"] spFinenessP := by
  refine Prom.of T.d_L_fineness sc_L_fineness (fun vs H Q E h => ?_) (fun _ _ _ _ _ _ us hl => match us, hl with | [_], _ => rfl) (fun f cdv A outer s H vs Q E hr h => ?_)
  · obtain ⟨l, xs, ws, rfl, _⟩ := h
    rfl
  · obtain ⟨l, xs, ws, rfl, hl, hw, ok, len, k⟩ := h
    refine ⟨_, (pss_cons (ps_set (i := 1) sc_L_fineness.nd rfl (Or.inl rfl) pe_int)
      (pss_cons (ps_for PassesOwn.never (by rfl) (pi_list (pv 0)) (pg_name (i := 2) sc_L_fineness.nd rfl (Or.inl rfl)) (pss_one (ps_set (i := 1) sc_L_fineness.nd rfl (Or.inl rfl) (pe_op op_mul (pv 1) (pe_callP (ok_L_fine T) (hr.mono (by decide)) (by rfl) pass0 (pa_cons (pv 2) pa_nil))))))
      (pss_one (ps_ret (pv 1))))), ?_⟩
    refine ⟨_, rfl, l, rfl, ⟨_, SqL.of hl⟩, for_list (K := K) (a := l) (xs := xs) (fun i σ H' => Same H H' ∧ ∃ v : Option V, σ = [some (.ref l), some (.int (fineL (ws.take i))), v]) ⟨Same.refl _, none, rfl⟩ (fun i σ H' _ h => SqL.of (h.1 _ _ hl)) ?_ ?_⟩
    · rintro i x σ H1 hi ⟨hs, v, rfl⟩
      obtain ⟨q, a, rfl, ha, hq⟩ := (hw.same hs).get hi
      have oka := ok a (List.mem_of_getElem? ha)
      have et : fineL (ws.take (i + 1)) = fineL (ws.take i) * a.use := by
        unfold fineL
        rw [List.take_succ, ha, List.foldl_append]
        show stepF _ a = _
        rw [step_use]
      rw [et]
      have up_ : a.use ≤ 7200 := use_most oka
      have u0 := use_pos oka
      refine ⟨_, rfl, _, rfl, q, a, rfl, hq, oka, fun H2 s2 => ⟨_, _, rfl, rfl, .inr ⟨by omega, by omega⟩, hs.trans s2, _, rfl⟩⟩
    · rintro σ H1 ⟨hs, v, rfl⟩
      rw [hw.len, List.take_length]
      exact ⟨_, rfl, k _ hs⟩
end
theorem st_eq {F : L2.St → Hp → Prop} {σ : L2.St} {H : Hp} (σ' : L2.St) (e : σ = σ') (k : F σ' H) : F σ H := e ▸ k
theorem nxt {i : Nat} {v : V} {σ : L2.St} {H : Hp} {Q : L2.St → Hp → Prop} (h : Q (σ.set i (some v)) H) : gName i v σ H Q := h
theorem seq_if {c : TT} {t u v : TS} {D : Ends} {σ : L2.St} {H : Hp} (R : L2.St → Hp → Prop) (h : ∀ N : L2.St → Hp → Prop, (∀ σ' H', R σ' H' → N σ' H') → tIfS c t u { D with nx := N } σ H) (k : ∀ σ' H', R σ' H' → v D σ' H') : tSeq (tIfS c t u) v D σ H := h _ k
set_option pp.maxSteps 900
theorem plan_ne {H : Hp} {q lf : Addr} {a : Wr} {ys : List V} {us : List Wr} (hq : PlanAt H q a) (hl : H lf = some (.lst ys)) (hy : PlansAt H ys us) : q ≠ lf := fun z => by
  have hq : H q = _ := hq
  rw [z, hl] at hq
  injection hq with hq
  injection hq with hq
  cases hy with
  | nil => cases hq
  | cons _ _ => injection hq with h1 _; cases h1
theorem plan_np {H : Hp} {q p : Addr} {a : Wr} (hq : PlanAt H q a) (hp : PurseAt H p) : q ≠ p := fun z => by
  obtain ⟨_, _, _, e, _⟩ := hp
  have hq : H q = _ := hq
  rw [z, e] at hq
  injection hq with hq
  injection hq with hq
  injection hq with h1 _
  cases h1
theorem Drew.plan {p q : Addr} {H H1 : Hp} {a : Wr} (d : Drew p H H1) (hp : PurseAt H p) (h : PlanAt H q a) : PlanAt H1 q a := d.kp _ _ (plan_np h hp) h
theorem Drew.plans {p : Addr} {H H1 : Hp} {xs : List V} {ws : List Wr} (d : Drew p H H1) (hp : PurseAt H p) (h : PlansAt H xs ws) : PlansAt H1 xs ws := h.kp fun q a hq _ => d.plan hp hq
theorem PlansAt.put {H : Hp} {lf : Addr} {xs ys zs : List V} {ws us : List Wr} (h : PlansAt H xs ws) (hl : H lf = some (.lst ys)) (hy : PlansAt H ys us) : PlansAt (upd H lf (.lst zs)) xs ws := h.kp fun q a hq _ => by
  show (upd H lf (.lst zs)) q = _
  rw [upd_ne (plan_ne hq hl hy)]
  exact hq
theorem Drew.putB {p l : Addr} {H H' : Hp} {o : HO} (a : Drew p H H') (h : H l = none) (n : l ≠ p) : Drew p H (upd H' l o) := by
  obtain ⟨m, d, c, e, r⟩ := a.at_
  refine ⟨⟨m, d, c, by rw [upd_ne (Ne.symm n)]; exact e, r⟩, fun b u nb e => ?_⟩
  rw [upd_ne (ne_of_none e h)]
  exact a.kp b u nb e
def spPileP : Sp := fun vs H Q _ => ∃ (p : Addr) (b m : Int), vs = [.ref p, .int b, .int m, .int 120] ∧ PurseAt H p ∧ 2 ≤ b ∧ b ≤ 256 ∧ 0 ≤ m ∧ m ≤ 6 ∧ ∀ l xs ws H', (∀ a ∈ ws, a.ok) → (ws.length : Int) ≤ m → fineL ws ≤ 120 → H l = none → Drew p H H' → H' l = some (.lst xs) → PlansAt H' xs ws → Q (.ref l) H'
def spHandful : Sp := fun vs H Q _ => ∃ (p : Addr) (b m : Int), vs = [.ref p, .int b, .int m] ∧ PurseAt H p ∧ 2 ≤ b ∧ b ≤ 256 ∧ 0 ≤ m ∧ m ≤ 6 ∧ ∀ l xs ws H', (∀ a ∈ ws, a.ok) → (ws.length : Int) ≤ m → fineL ws ≤ 120 → H l = none → Drew p H H' → H' l = some (.lst xs) → PlansAt H' xs ws → Q (.ref l) H'
section
variable {P : Program} {w : World} {K : PySem.W.Frag} {mg : Str → Option Value} {base : Heap}
theorem ok_L_pile (T : Tx w K mg) : Prom P w K mg base CX0 5 "_law_pile" s_L_pile ["_law_bowl_here", "_law_root_here", "_law_most", "_law_room"] spPileP := by
  refine Prom.of T.d_L_pile sc_L_pile (fun vs H Q E h => ?_) (fun _ _ _ _ _ _ us hl => match us, hl with | [_, _, _, _], _ => rfl) (fun f cdv A outer s H vs Q E hr h => ?_)
  · obtain ⟨p, b, m, rfl, _⟩ := h
    rfl
  · obtain ⟨p, b, m, rfl, hp, b0, b1, m0, m1, k⟩ := h
    refine ⟨_, (pss_cons (ps_par (i := 4) (j := 5) (by rfl) sc_L_pile.nd rfl rfl (by decide) rfl rfl (pa_cons (pe_lst pa_nil) (pa_cons (pe_op op_add (pe_op op_add pe_int (pe_callTy call_int1 (by rfl) T.b_int (by decide +kernel) (pa_cons (pe_cmp (pc_gt (pv 1) pe_int)) pa_nil))) (pe_callTy call_int1 (by rfl) T.b_int (by decide +kernel) (pa_cons (pe_cmp (pc_gt (pv 1) pe_int)) pa_nil))) pa_nil)) (by rfl))
      (pss_cons (ps_for PassesOwn.never (by rfl) (pi_range1 (by rfl) T.b_range (pa_cons (pe_callP (ok_L_scoop T) (hr.mono (by decide)) (by rfl) pass0 (pa_cons (pv 0) (pa_cons (pe_op op_add (pv 2) pe_int) pa_nil))) pa_nil)) (pg_name (i := 6) sc_L_pile.nd rfl (Or.inl rfl)) (pss_cons (ps_set (i := 7) sc_L_pile.nd rfl (Or.inl rfl) (pe_callP (ok_L_plan T) (hr.mono (by decide)) (by rfl) pass0 (pa_cons (pv 0) (pa_cons (pv 3) pa_nil))))
      (pss_cons (ps_if (pt_cmpR op_in_seq (pe_ix ix_list (pv 7) pe_int (fun _ _ => rfl)) (pe_lst (pa_cons pe_str (pa_cons pe_str pa_nil))) (by rfl)) (pss_cons (ps_set (i := 5) sc_L_pile.nd rfl (Or.inl rfl) (pe_op op_sub (pv 5) pe_int))
      (pss_one (ps_if (pt_cmp (pc_lt (pv 5) pe_int)) (pss_one (ps_set (i := 7) sc_L_pile.nd rfl (Or.inl rfl) (pe_lst (pa_cons pe_str (pa_cons (pe_ix ix_list (pv 7) pe_int (fun _ _ => rfl)) pa_nil))))) pss_nil))) pss_nil)
      (pss_cons (ps_expr (pe_bm PySem.F.plainAttrs_list PySem.F.slot_list_append PySem.F.type_list_append mt_append (pv 4) (pa_cons (pv 7) pa_nil)))
      (pss_one (ps_set (i := 3) sc_L_pile.nd rfl (Or.inl rfl) (pe_op op_fdiv (pv 3) (pe_callP (ok_L_fine T) (hr.mono (by decide)) (by rfl) pass0 (pa_cons (pv 7) pa_nil)))))))))
      (pss_one (ps_ret (pv 4))))), ?_⟩
    refine ⟨Nat.zero_le _, fun lf hlf => ?_⟩
    have nlf : lf ≠ p := (Drew.refl hp).ne hlf
    have d0 := (Drew.refl hp).new (o := .lst []) hlf
    refine ⟨_, rfl, _, _, rfl, rfl, .inr ⟨_, rfl, _, _, rfl, rfl, _, rfl, _, _, rfl, rfl, .inr ⟨_, rfl, _, _, rfl, rfl, _, _, rfl, ?_⟩⟩⟩
    refine ⟨_, rfl, _, rfl, _, _, rfl, rfl, p, _, rfl, d0.at_, by omega, by omega, fun r H1 r0 r1 d1 => ?_⟩
    have hlf1 : H1 lf = some (.lst []) := d1.kp _ _ nlf upd_same
    have d1 := d0.trans d1
    refine ⟨_, rfl, by omega, by omega, for_range (lo := 0) (n := r.toNat) (fun i σ H' => Drew p H H' ∧ ∃ (xs : List V) (ws : List Wr) (rm hd : Int) (v1 v2 : Option V), H' lf = some (.lst xs) ∧ PlansAt H' xs ws ∧ (∀ a ∈ ws, a.ok) ∧ ws.length = i ∧ 1 ≤ rm ∧ rm ≤ 120 ∧ 1 ≤ fineL ws ∧ fineL ws * rm ≤ 120 ∧ σ = [some (.ref p), some (.int b), some (.int m), some (.int rm), some (.ref lf), some (.int hd), v1, v2]) ⟨d1, [], [], 120, _, none, none, hlf1, .nil, fun a ha => absurd ha (by simp), rfl, by decide, by decide, by decide, by decide, rfl⟩ ?_ ?_⟩
    · rintro i σ H2 hi ⟨d2, xs, ws, rm, hd, v1, v2, hl2, hw2, ok, wl, rm0, rm1, f0, f1, rfl⟩
      refine ⟨_, rfl, _, rfl, p, rm, rfl, d2.at_, rm0, rm1, fun q a H3 oka ua nq d3 hq => ?_⟩
      have hl3 := d3.kp _ _ nlf hl2
      have hw3 := d3.plans d2.at_ hw2
      have d3 := d2.trans d3
      refine nxt ?_
      dsimp only []
      refine seq_if (fun σ' H' => Drew p H H' ∧ H' lf = some (.lst xs) ∧ PlansAt H' xs ws ∧ ∃ (hd' : Int) (q' : Addr) (a' : Wr), a'.ok ∧ a'.use ≤ rm ∧ PlanAt H' q' a' ∧ σ' = [some (.ref p), some (.int b), some (.int m), some (.int rm), some (.ref lf), some (.int hd'), some (.int (0 + (i : Int))), some (.ref q')]) (fun N hN => ?_) ?_
      · have hq : H3 q = _ := hq
        refine ⟨_, rfl, q, _, _, .str a.kind, rfl, rfl, SqL.of hq, at_of (j := 0) rfl rfl, (by show 2 ≤ sizeLine; decide), fun l hl => ⟨l, _, rfl, .inl (SqL.of upd_same), rfl, rfl, _, rfl, ?_⟩⟩
        have v4 := up (o := .lst [V.str "told", V.str "whole"]) hl
        have d4 := d3.new (o := .lst [V.str "told", V.str "whole"]) hl
        have hl4 := v4 _ _ hl3
        have hw4 := hw3.same v4
        have hq4 := v4 _ _ hq
        generalize upd H3 l (.lst [V.str "told", V.str "whole"]) = H4 at v4 d4 hl4 hw4 hq4 ⊢
        have stay : N [some (.ref p), some (.int b), some (.int m), some (.int rm), some (.ref lf), some (.int hd), some (.int (0 + (i : Int))), some (.ref q)] H4 := hN _ _ ⟨d4, hl4, hw4, hd, q, a, oka, ua, hq4, rfl⟩
        have turn : ∀ c : Int, (V.str a.kind :: a.nums.map V.int)[1]? = some (.int c) → 0 ≤ c → c ≤ 1000 → ∀ q2, H4 q2 = none → N [some (.ref p), some (.int b), some (.int m), some (.int rm), some (.ref lf), some (.int (hd - 1)), some (.int (0 + (i : Int))), some (.ref q2)] (upd H4 q2 (.lst [.str "plus", .int c])) := fun c _ c0 c1 q2 hq2 =>
          hN _ _ ⟨d4.new hq2, up hq2 _ _ hl4, hw4.same (up hq2), hd - 1, q2, .plus c, ⟨c0, c1⟩, rm0, upd_same, rfl⟩
        have less : N [some (.ref p), some (.int b), some (.int m), some (.int rm), some (.ref lf), some (.int (hd - 1)), some (.int (0 + (i : Int))), some (.ref q)] H4 := hN _ _ ⟨d4, hl4, hw4, hd - 1, q, a, oka, ua, hq4, rfl⟩
        cases a with
        | told c => exact ifb_pos (by kernel_rfl) ⟨_, rfl, _, _, rfl, rfl, _, rfl, _, _, rfl, rfl, _, rfl, ifd (fun z => ⟨_, rfl, q, _, _, .int c, rfl, rfl, SqL.of hq4, at_of (j := 1) rfl rfl, (by show 2 ≤ sizeLine; decide), fun q2 hq2 => turn c rfl oka.1 oka.2 q2 hq2⟩) (fun z => less)⟩
        | whole c => exact ifb_pos (by kernel_rfl) ⟨_, rfl, _, _, rfl, rfl, _, rfl, _, _, rfl, rfl, _, rfl, ifd (fun z => ⟨_, rfl, q, _, _, .int c, rfl, rfl, SqL.of hq4, at_of (j := 1) rfl rfl, (by show 2 ≤ sizeLine; decide), fun q2 hq2 => turn c rfl oka.1 oka.2 q2 hq2⟩) (fun z => less)⟩
        | plus c => exact ifb_neg (by kernel_rfl) stay
        | pieces _ _ => exact ifb_neg (by kernel_rfl) stay
        | cut _ _ => exact ifb_neg (by kernel_rfl) stay
        | coded _ _ => exact ifb_neg (by kernel_rfl) stay
        | filled _ => exact ifb_neg (by kernel_rfl) stay
      · rintro σ H4 ⟨d4, hl4, hw4, hd', q', a', ok', ua', hq', rfl⟩
        have yl := hw4.len
        have wm : ws.length < 6 := by omega
        refine ⟨_, rfl, .inl ⟨rfl, _, SqL.of hl4⟩, _, rfl, lf, _, _, rfl, rfl, hl4, by rw [yl, sizeLine_eq]; omega, ?_⟩
        have hw5 : PlansAt (upd H4 lf (.lst (xs ++ [.ref q']))) (xs ++ [.ref q']) (ws ++ [a']) := (hw4.snoc hq').put hl4 hw4
        have hq5 : PlanAt (upd H4 lf (.lst (xs ++ [.ref q']))) q' a' := by
          show (upd H4 lf _) q' = _
          rw [upd_ne (plan_ne hq' hl4 hw4)]
          exact hq'
        have d5 : Drew p H (upd H4 lf (.lst (xs ++ [.ref q']))) := d4.putB hlf nlf
        have hl5 : upd H4 lf (.lst (xs ++ [.ref q'])) lf = some (.lst (xs ++ [.ref q'])) := upd_same
        generalize upd H4 lf (.lst (xs ++ [.ref q'])) = H5 at hw5 hq5 d5 hl5 ⊢
        have u0 := use_pos ok'
        have um := use_most ok'
        refine ⟨_, rfl, _, rfl, q', a', rfl, hq5, ok', fun H6 s6 => ⟨_, _, rfl, rfl, ⟨by omega, by omega⟩, d5.same s6, xs ++ [.ref q'], ws ++ [a'], rm / a'.use, hd', _, _, s6 _ _ hl5, hw5.same s6, fun x hx => ?_, ?_, ?_, ?_, ?_, ?_, rfl⟩⟩
        · rcases List.mem_append.mp hx with z | z
          · exact ok x z
          · rw [List.mem_singleton.mp z]
            exact ok'
        · rw [List.length_append, wl]
          rfl
        · exact (Int.le_ediv_iff_mul_le (by omega)).mpr (by omega)
        · exact Int.le_trans (Int.ediv_le_self _ (by omega)) rm1
        · have e : fineL (ws ++ [a']) = fineL ws * a'.use := by
            unfold fineL
            rw [List.foldl_append]
            show stepF _ a' = _
            rw [step_use]
          rw [e]
          have := Int.mul_le_mul f0 u0 (by decide) (by omega)
          omega
        · have e : fineL (ws ++ [a']) = fineL ws * a'.use := by
            unfold fineL
            rw [List.foldl_append]
            show stepF _ a' = _
            rw [step_use]
          rw [e, Int.mul_assoc]
          have e2 : a'.use * (rm / a'.use) ≤ rm := by
            have := Int.ediv_mul_le rm (show a'.use ≠ 0 by omega)
            rw [Int.mul_comm]
            exact this
          exact Int.le_trans (Int.mul_le_mul_of_nonneg_left e2 (by omega)) f1
    · rintro σ H2 ⟨d2, xs, ws, rm, hd, v1, v2, hl2, hw2, ok, wl, rm0, rm1, f0, f1, rfl⟩
      refine ⟨_, rfl, k lf xs ws H2 ok (by omega) ?_ hlf d2 hl2 hw2⟩
      have := Int.mul_le_mul_of_nonneg_left rm0 (show 0 ≤ fineL ws by omega)
      omega
end
set_option pp.maxSteps 900
theorem beg_eq {n m : Int} (hm : 1 ≤ m) : n / m + (if n % m > 0 then 1 else 0) = beg n m := by
  unfold beg
  have e := Int.emod_add_mul_ediv n m
  have r0 := Int.emod_nonneg n (show m ≠ 0 by omega)
  have r1 := Int.emod_lt_of_pos n (show 0 < m by omega)
  have key : n + m - 1 = (n % m + m - 1) + m * (n / m) := by omega
  rw [key, Int.add_mul_ediv_left _ _ (show m ≠ 0 by omega)]
  by_cases z : n % m > 0
  · rw [if_pos z]
    have : (n % m + m - 1) / m = 1 := by
      rw [Int.ediv_eq_iff_of_pos (by omega)]
      omega
    omega
  · rw [if_neg z]
    have : (n % m + m - 1) / m = 0 := Int.ediv_eq_zero_of_lt (by omega) (by omega)
    omega
theorem two_pow_le {b : Int} (hb : 2 ≤ b) : ∀ j : Nat, (2 : Int) ^ j ≤ b ^ j
  | 0 => by rw [Int.pow_zero, Int.pow_zero]; decide
  | j + 1 => by
    rw [Int.pow_succ, Int.pow_succ]
    exact Int.mul_le_mul (two_pow_le hb j) hb (by decide) (by have := pow_pos (show 1 ≤ b by omega) j; omega)
theorem fig_bits {b n : Int} {k : Nat} (hb : 2 ≤ b) (hn : n < 2 ^ k) : figF b n ≤ (k : Int) + 1 := by
  obtain ⟨j, e, h1, h2⟩ := figF_is (b := b) (n := n) hb
  rw [e]
  rcases h2 with rfl | h2
  · omega
  · have p := two_pow_le hb j
    by_cases z : j < k
    · omega
    · have := pow_mono (b := 2) (by decide) (show k ≤ j by omega)
      omega
def spPartsB : Sp := fun vs H Q _ => ∃ (n m : Int), vs = [.int n, .int m] ∧ 1 ≤ m ∧ m ≤ 60 ∧ Q (.int (beg n m)) H
def spGrownP : Sp := fun vs H Q _ => ∃ (q : Addr) (a : Wr) (n b : Int), vs = [.ref q, .int n, .int b] ∧ PlanAt H q a ∧ a.ok ∧ 2 ≤ b ∧ b ≤ 256 ∧ 0 ≤ n ∧ n < 2 ^ 2000 ∧ ∀ H', Same H H' → Q (.int (a.gr b n)) H'
def spSizeP : Sp := fun vs H Q _ => ∃ (l : Addr) (b n : Int) (xs : List V) (ws : List Wr), vs = [.int b, .ref l, .int n] ∧ H l = some (.lst xs) ∧ PlansAt H xs ws ∧ StkOk b ws ∧ 0 ≤ n ∧ n ≤ 10 ^ 60 - 1 ∧ ∀ H', Same H H' → Q (.int (grS b ws n)) H'
section
variable {P : Program} {w : World} {K : PySem.W.Frag} {mg : Str → Option Value} {base : Heap}
theorem ok_L_parts (T : Tx w K mg) : Prom P w K mg base CX0 1 "_law_parts" s_L_parts ["_law_n", "_law_whole_part"] spPartsB := by
  refine Prom.of T.d_L_parts sc_L_parts (fun vs H Q E h => ?_) (fun _ _ _ _ _ _ us hl => match us, hl with | [_, _], _ => rfl) (fun f cdv A outer s H vs Q E hr h => ?_)
  · obtain ⟨n, m, rfl, _⟩ := h
    rfl
  · obtain ⟨n, m, rfl, m0, m1, k⟩ := h
    refine ⟨_, (pss_one (ps_ret (pe_op op_add (pe_op op_fdiv (pv 0) (pv 1)) (pe_callTy call_int1 (by rfl) T.b_int (by decide +kernel) (pa_cons (pe_cmp (pc_gt (pe_op op_mod (pe_callTy call_int1 (by rfl) T.b_int (by decide +kernel) (pa_cons (pv 0) pa_nil)) (pv 1)) pe_int)) pa_nil))))), ?_⟩
    refine ⟨_, rfl, _, rfl, _, _, rfl, rfl, ⟨by omega, by omega⟩, _, rfl, .inl ⟨_, rfl, _, rfl, _, _, rfl, rfl, (by show 0 < m; omega), _, _, rfl, rfl, .inr ⟨_, rfl, _, _, rfl, rfl, ?_⟩⟩⟩
    have e := beg_eq (n := n) m0
    have e2 : n / m + (if (decide (n % m > 0)) = true then 1 else 0) = beg n m := by
      rw [← e]
      by_cases z : n % m > 0
      · rw [if_pos z, if_pos (decide_eq_true z)]
      · rw [if_neg z, if_neg (by simpa using z)]
    show Q (.int (n / m + (if (decide (n % m > 0)) = true then 1 else 0))) H
    rw [e2]
    exact k
theorem ok_L_grown (T : Tx w K mg) : Prom P w K mg base CX0 2 "_law_grown" s_L_grown ["_law_plan_here", "_law_n", "_law_root_here"] spGrownP := by
  refine Prom.of T.d_L_grown sc_L_grown (fun vs H Q E h => ?_) (fun _ _ _ _ _ _ us hl => match us, hl with | [_, _, _], _ => rfl) (fun f cdv A outer s H vs Q E hr h => ?_)
  · obtain ⟨q, a, n, b, rfl, _⟩ := h
    rfl
  · obtain ⟨q, a, n, b, rfl, hq, ok, b0, b1, n0, n1, k⟩ := h
    have hq : H q = _ := hq
    refine ⟨_, (pss_cons (ps_asg (pe_tup (pa_cons (pe_ix ix_list (pv 0) pe_int (fun _ _ => rfl)) (pa_cons (pe_ix ix_list (pv 0) pe_int (fun _ _ => rfl)) (pa_cons (pe_ix ix_list (pv 0) (pe_un un_neg pe_int) (fun _ _ => rfl)) pa_nil)))) (pg_tup rfl (pgs_cons (pg_name (i := 3) sc_L_grown.nd rfl (Or.inl rfl)) (pgs_cons (pg_name (i := 4) sc_L_grown.nd rfl (Or.inr rfl)) (pgs_cons (pg_name (i := 5) sc_L_grown.nd rfl (Or.inl rfl)) pgs_nil)))))
      (pss_cons (ps_if (pt_cmpR op_eq (pv 3) pe_str (nomark _)) (pss_one (ps_ret (pe_op op_add (pv 1) (pv 4)))) pss_nil)
      (pss_cons (ps_if (pt_cmpR op_eq (pv 3) pe_str (nomark _)) (pss_one (ps_ret (pe_op op_add (pe_op op_add (pv 1) (pv 4)) (pe_callP (ok_L_figures T) (hr.mono (by decide)) (by rfl) pass0 (pa_cons (pv 1) (pa_cons (pv 2) pa_nil)))))) pss_nil)
      (pss_cons (ps_if (pt_cmpR op_eq (pv 3) pe_str (nomark _)) (pss_cons (ps_set (i := 6) sc_L_grown.nd rfl (Or.inr rfl) (pe_callP (ok_L_figures T) (hr.mono (by decide)) (by rfl) pass0 (pa_cons (pe_op op_add (pv 1) (pv 4)) (pa_cons (pv 2) pa_nil))))
      (pss_cons (ps_setLc (i := 7) (own := [("_law_many", 11)]) (g := (gName 11)) (tt := tYes) (by rfl) sc_L_grown.nd rfl rfl (sw_true rfl rfl rfl (by decide +kernel)) (pi_range2 (by rfl) T.b_range (pa_cons (pv 6) (pa_cons (pe_op op_add (pv 6) pe_int) pa_nil))) (blkOk_by (own := [("_law_many", 11)]) (N := ["_law_plan_here", "_law_n", "_law_root_here", "_law_sort", "_law_first", "_law_last", "_law_least_one", "_law_own", "_law_rest", "_law_full", "_law_left", "_law_many", "_law_k", "_law_s"]) (sc := defScope s_L_grown) (by decide +kernel)) (fun _ _ _ _ _ => (pg_name (i := 11) sc_L_grown.nd rfl (Or.inl rfl))) (fun _ _ _ _ _ => pts_nil) (fun _ _ _ _ _ => (pe_op op_add (pe_op op_add (pv 1) (pv 4)) (pv 11))))
      (pss_one (ps_ret (pe_ix ix_list (pe_lc (own := [("_law_k", 12), ("_law_s", 13)]) (g := (gTup K 2 (gCons (gName 12) (gCons (gName 13) gNil)))) (by rfl) sc_L_grown.nd (pi_enum (by rfl) T.b_enumerate (pa_cons (pv 7) pa_nil)) (blkOk_by (own := [("_law_k", 12), ("_law_s", 13)]) (N := ["_law_plan_here", "_law_n", "_law_root_here", "_law_sort", "_law_first", "_law_last", "_law_least_one", "_law_own", "_law_rest", "_law_full", "_law_left", "_law_many", "_law_k", "_law_s"]) (sc := defScope s_L_grown) (by decide +kernel)) (fun _ _ _ _ _ => (pg_tup rfl (pgs_cons (pg_name (i := 12) sc_L_grown.nd rfl (Or.inl rfl)) (pgs_cons (pg_name (i := 13) sc_L_grown.nd rfl (Or.inl rfl)) pgs_nil)))) (fun _ _ _ _ _ => pts_one (pt_cmp (pc_eqI (pe_callP (ok_L_figures T) (hr.mono (by decide)) (by rfl) pass0 (pa_cons (pv 13) (pa_cons (pv 2) pa_nil))) (pe_op op_add (pv 12) (pv 6))))) (fun _ _ _ _ _ => (pv 13))) pe_int (fun _ _ => rfl)))))) pss_nil)
      (pss_cons (ps_if (pt_cmpR op_eq (pv 3) pe_str (nomark _)) (pss_one (ps_ret (pe_op op_mul (pv 5) (pe_callP (ok_L_parts T) (hr.mono (by decide)) (by rfl) pass0 (pa_cons (pv 1) (pa_cons (pv 4) pa_nil)))))) pss_nil)
      (pss_cons (ps_if (pt_cmpR op_eq (pv 3) pe_str (nomark _)) (pss_one (ps_ret (pe_op op_mul (pv 4) (pe_callP (ok_L_parts T) (hr.mono (by decide)) (by rfl) pass0 (pa_cons (pv 1) (pa_cons (pv 4) pa_nil)))))) pss_nil)
      (pss_cons (ps_if (pt_cmpR op_eq (pv 3) pe_str (nomark _)) (pss_one (ps_ret (pe_op op_add (pv 1) (pe_op op_mul (pv 5) (pe_callP (ok_L_parts T) (hr.mono (by decide)) (by rfl) pass0 (pa_cons (pv 1) (pa_cons (pv 4) pa_nil))))))) pss_nil)
      (pss_cons (ps_par (i := 8) (j := 9) (by rfl) sc_L_grown.nd rfl rfl (by decide) rfl rfl (pa_cons (pe_op op_mod (pe_callTy call_int1 (by rfl) T.b_int (by decide +kernel) (pa_cons (pv 1) pa_nil)) (pv 4)) (pa_cons (pe_op op_add (pe_op op_add (pv 4) (pv 5)) (pe_callP (ok_L_figures T) (hr.mono (by decide)) (by rfl) pass0 (pa_cons (pv 4) (pa_cons (pv 2) pa_nil)))) pa_nil)) (by rfl))
      (pss_cons (ps_set (i := 10) sc_L_grown.nd rfl (Or.inl rfl) (pe_ifExp (pt_cmp (pc_gt (pv 8) pe_int)) (pe_op op_add (pe_op op_add (pv 8) (pv 5)) (pe_callP (ok_L_figures T) (hr.mono (by decide)) (by rfl) pass0 (pa_cons (pv 8) (pa_cons (pv 2) pa_nil)))) pe_int))
      (pss_one (ps_ret (pe_op op_add (pe_op op_add (pe_op op_add (pe_op op_mul (pe_op op_fdiv (pv 1) (pv 4)) (pv 9)) (pv 10)) (pv 5)) pe_int)))))))))))), ?_⟩
    cases a with
    | plus c =>
      refine ⟨_, rfl, q, _, _, .str "plus", rfl, rfl, SqL.of hq, at_of (j := 0) rfl rfl, _, rfl, q, _, _, .int c, rfl, rfl, SqL.of hq, at_of (j := 1) rfl rfl, _, rfl, _, rfl, q, _, _, .int c, rfl, rfl, SqL.of hq, (atI_last [V.str "plus"] _), (by show 3 ≤ sizeLine; decide), fun t ht => ⟨t, _, rfl, SqT.of upd_same, rfl, _, _, rfl, _, _, rfl, _, _, rfl, rfl, ?_⟩⟩
      have s1 := up (o := .tup [.str "plus", .int c, .int c]) ht
      generalize upd H t (.tup [.str "plus", .int c, .int c]) = H1 at s1 ⊢
      exact ⟨_, rfl, rfl, _, rfl, ifd_pos rfl ⟨_, rfl, _, rfl, _, _, rfl, rfl, k _ s1⟩⟩
    | told c =>
      refine ⟨_, rfl, q, _, _, .str "told", rfl, rfl, SqL.of hq, at_of (j := 0) rfl rfl, _, rfl, q, _, _, .int c, rfl, rfl, SqL.of hq, at_of (j := 1) rfl rfl, _, rfl, _, rfl, q, _, _, .int c, rfl, rfl, SqL.of hq, (atI_last [V.str "told"] _), (by show 3 ≤ sizeLine; decide), fun t ht => ⟨t, _, rfl, SqT.of upd_same, rfl, _, _, rfl, _, _, rfl, _, _, rfl, rfl, ?_⟩⟩
      have s1 := up (o := .tup [.str "told", .int c, .int c]) ht
      generalize upd H t (.tup [.str "told", .int c, .int c]) = H1 at s1 ⊢
      refine ⟨_, rfl, rfl, _, rfl, ifs_neg (show ("told" : Str) ≠ "plus" by decide) ?_⟩
      exact ⟨_, rfl, rfl, _, rfl, ifd_pos rfl ⟨_, rfl, _, rfl, _, _, rfl, rfl, _, rfl, _, rfl, n, b, rfl, b0, b1, _, _, rfl, rfl, k _ s1⟩⟩
    | whole c =>
      refine ⟨_, rfl, q, _, _, .str "whole", rfl, rfl, SqL.of hq, at_of (j := 0) rfl rfl, _, rfl, q, _, _, .int c, rfl, rfl, SqL.of hq, at_of (j := 1) rfl rfl, _, rfl, _, rfl, q, _, _, .int c, rfl, rfl, SqL.of hq, (atI_last [V.str "whole"] _), (by show 3 ≤ sizeLine; decide), fun t ht => ⟨t, _, rfl, SqT.of upd_same, rfl, _, _, rfl, _, _, rfl, _, _, rfl, rfl, ?_⟩⟩
      have s1 := up (o := .tup [.str "whole", .int c, .int c]) ht
      generalize upd H t (.tup [.str "whole", .int c, .int c]) = H1 at s1 ⊢
      refine ⟨_, rfl, rfl, _, rfl, ifs_neg (show ("whole" : Str) ≠ "plus" by decide) ?_⟩
      refine ⟨_, rfl, rfl, _, rfl, ifs_neg (show ("whole" : Str) ≠ "told" by decide) ?_⟩
      refine ⟨_, rfl, rfl, _, rfl, ifd_pos rfl ?_⟩
      have ok : 0 ≤ c ∧ c ≤ 1000 := ok
      have fb : figF b (n + c) ≤ 2003 := by
        have := fig_bits (b := b) (n := n + c) (k := 2001) b0 (by
          have e : (2 : Int) ^ 2001 = 2 ^ 2000 * 2 := Int.pow_succ ..
          have e2 : (1000 : Int) < 2 ^ 2000 := by decide
          omega)
        omega
      have fp := figF_pos (b := b) (n := n + c) b0
      refine ⟨_, rfl, _, rfl, _, _, rfl, rfl, _, rfl, n + c, b, rfl, b0, b1, ?_⟩
      have N0 : 0 ≤ n + c := by omega
      have isf := figF_is (b := b) (n := n + c) b0
      have isg := figF_is (b := b) (n := n + c + figF b (n + c)) b0
      have grow := fig_grow b0 N0 isf isg
      have k : ∀ H', Same H H' → Q (.int (totF b (n + c))) H' := k
      show gName 6 (V.int (figF b (n + c))) _ _ _
      generalize hf : figF b (n + c) = f0 at fb fp isf isg grow ⊢
      refine ⟨_, rfl, _, rfl, _, _, rfl, rfl, _, _, rfl, ⟨by omega, by omega, by omega, by omega⟩, fun D hD => ?_⟩
      have e3 : (f0 + 3 - f0).toNat = 3 := by omega
      rw [e3]
      refine lc_range (lo := f0) (n := 3) (Pv := fun j H' => Same H1 H' ∧ H' D = some (.lst ((List.range j).map fun k => V.int (n + c + (f0 + (k : Nat)))))) ⟨up hD, upd_same⟩ ?_ ?_
      · rintro j H2 hj ⟨hs, hd⟩
        refine ⟨rfl, _, rfl, _, rfl, _, _, rfl, rfl, _, rfl, _, _, rfl, rfl, _, hd, ?_, fun y o e => ?_, ?_⟩
        · rw [List.length_map, List.length_range, sizeLine_eq]
          omega
        · rw [upd_ne (ne_of_none e hD)]
          exact hs _ _ e
        · rw [upd_same, List.range_succ, List.map_append]
          rfl
      rintro H2 ⟨hs2, hd2⟩
      have s2 := s1.trans hs2
      refine ⟨_, rfl, D, _, rfl, SqL.of hd2, fun D2 hD2 => ?_⟩
      refine lc_it (walk_enum (K := K) (a := D) (xs := (List.range 3).map fun k => V.int (n + c + (f0 + (k : Nat))))) (fun j H' => Same H2 H' ∧ H' D2 = some (.lst (((List.range j).filter fun k => decide (figF b (n + c + (f0 + (k : Nat))) = (k : Nat) + f0)).map fun k => V.int (n + c + (f0 + (k : Nat)))))) ⟨up hD2, upd_same⟩ (fun j H' _ h => SqL.of (h.1 _ _ hd2)) ?_ ?_
      · rintro j x H3 H4 hj ⟨hs, hd⟩ ⟨T2, x1, x2, rfl, hT2, rfl, e1, e2⟩
        have hj3 : j < 3 := hj
        have e1 : V.int (j : Nat) = x1 := Option.some.inj e1
        subst e1
        have e2 : V.int (n + c + (f0 + (j : Nat))) = x2 := by
          have e2 : ((List.range 3).map fun k => V.int (n + c + (f0 + (k : Nat))))[j]? = some x2 := e2
          rw [List.getElem?_map, List.getElem?_range hj3] at e2
          exact Option.some.inj e2
        subst e2
        have v4 := up (o := .tup [.int (j : Nat), .int (n + c + (f0 + (j : Nat)))]) hT2
        refine ⟨T2, _, rfl, SqT.of upd_same, rfl, _, _, rfl, _, _, rfl, rfl, rfl, _, rfl, _, rfl, _, b, rfl, b0, b1, _, rfl, _, rfl, _, _, rfl, rfl, _, _, rfl, rfl, _, rfl, ifd (fun z => ?_) (fun z => ?_)⟩
        · have z : figF b (n + c + (f0 + (j : Nat))) = (j : Nat) + f0 := z
          refine ⟨_, rfl, _, v4 _ _ hd, ?_, fun y o e => ?_, ?_⟩
          · rw [List.length_map, sizeLine_eq]
            have h1 := List.length_filter_le (fun k => decide (figF b (n + c + (f0 + (k : Nat))) = (k : Nat) + f0)) (List.range j)
            rw [List.length_range] at h1
            omega
          · rw [upd_ne (ne_of_none e hD2)]
            exact v4 _ _ (hs _ _ e)
          · rw [upd_same, List.range_succ, List.filter_append, List.map_append]
            simp [z]
        · have z : ¬ figF b (n + c + (f0 + (j : Nat))) = (j : Nat) + f0 := z
          refine ⟨hs.trans v4, ?_⟩
          rw [v4 _ _ hd, List.range_succ, List.filter_append]
          simp [z]
      rintro H3 ⟨hs3, hd3⟩
      have hd3 : H3 D2 = some (.lst (((List.range 3).filter fun k => decide (figF b (n + c + (f0 + (k : Nat))) = (k : Nat) + f0)).map fun k => V.int (n + c + (f0 + (k : Nat))))) := hd3
      obtain ⟨zs, hz⟩ : ∃ zs, (((List.range 3).filter fun k => decide (figF b (n + c + (f0 + (k : Nat))) = (k : Nat) + f0)).map fun k => V.int (n + c + (f0 + (k : Nat)))) = V.int (totF b (n + c)) :: zs := by
        have e0 : n + c + (f0 + ((0 : Nat) : Int)) = n + c + f0 := by omega
        have e1 : n + c + (f0 + ((1 : Nat) : Int)) = n + c + f0 + 1 := by omega
        rcases grow with g | g
        · have t := totF_eq b0 N0 (isTot_first b0 isf (by rw [g] at isg; exact isg))
          have h0 : figF b (n + c + (f0 + ((0 : Nat) : Int))) = ((0 : Nat) : Int) + f0 := by rw [e0]; omega
          rw [show List.range 3 = [0, 1, 2] from rfl, List.filter_cons, if_pos (decide_eq_true h0), List.map_cons, e0, t]
          exact ⟨_, rfl⟩
        · have it := isTot_second b0 N0 isf (by rw [← g]; exact isg)
          have t := totF_eq b0 N0 it
          have h0 : ¬ figF b (n + c + (f0 + ((0 : Nat) : Int))) = ((0 : Nat) : Int) + f0 := by rw [e0]; omega
          have h1 : figF b (n + c + (f0 + ((1 : Nat) : Int))) = ((1 : Nat) : Int) + f0 := by
            rw [e1]
            have := figF_eq b0 it.tot
            omega
          rw [show List.range 3 = [0, 1, 2] from rfl, List.filter_cons, if_neg (by simpa using h0), List.filter_cons, if_pos (decide_eq_true h1), List.map_cons, e1, t]
          exact ⟨_, rfl⟩
      rw [hz] at hd3
      exact ⟨D2, _, _, _, rfl, rfl, SqL.of hd3, at_of (j := 0) rfl rfl, k _ (s2.trans hs3)⟩
    | pieces m c =>
      refine ⟨_, rfl, q, _, _, .str "pieces", rfl, rfl, SqL.of hq, at_of (j := 0) rfl rfl, _, rfl, q, _, _, .int m, rfl, rfl, SqL.of hq, at_of (j := 1) rfl rfl, _, rfl, _, rfl, q, _, _, .int c, rfl, rfl, SqL.of hq, (atI_last [V.str "pieces",V.int m] _), (by show 3 ≤ sizeLine; decide), fun t ht => ⟨t, _, rfl, SqT.of upd_same, rfl, _, _, rfl, _, _, rfl, _, _, rfl, rfl, ?_⟩⟩
      have s1 := up (o := .tup [.str "pieces", .int m, .int c]) ht
      generalize upd H t (.tup [.str "pieces", .int m, .int c]) = H1 at s1 ⊢
      refine ⟨_, rfl, rfl, _, rfl, ifs_neg (show ("pieces" : Str) ≠ "plus" by decide) ?_⟩
      refine ⟨_, rfl, rfl, _, rfl, ifs_neg (show ("pieces" : Str) ≠ "told" by decide) ?_⟩
      refine ⟨_, rfl, rfl, _, rfl, ifs_neg (show ("pieces" : Str) ≠ "whole" by decide) ?_⟩
      refine ⟨_, rfl, rfl, _, rfl, ifs_neg (show ("pieces" : Str) ≠ "coded" by decide) ?_⟩
      refine ⟨_, rfl, rfl, _, rfl, ifs_neg (show ("pieces" : Str) ≠ "filled" by decide) ?_⟩
      refine ⟨_, rfl, rfl, _, rfl, ifs_neg (show ("pieces" : Str) ≠ "cut" by decide) ?_⟩
      have ok : 1 ≤ m ∧ m ≤ 60 ∧ 0 ≤ c ∧ c ≤ 60 := ok
      have f1 := fig_small (b := b) (m := m) b0 ok.2.1
      have f2 := figF_pos (b := b) (n := m) b0
      refine ⟨_, rfl, .inl ⟨_, rfl, _, rfl, _, _, rfl, rfl, (by show 0 < m; omega), _, rfl, _, rfl, _, _, rfl, rfl, _, rfl, _, rfl, m, b, rfl, b0, b1, _, _, rfl, rfl, _, _, rfl, ?_⟩⟩
      have k : ∀ H', Same H H' → Q (.int (n / m * (m + c + figF b m) + (if 0 < n % m then n % m + c + figF b (n % m) else 0) + c + 1)) H' := k
      refine ⟨_, rfl, _, _, rfl, rfl, _, rfl, ifd (fun z => ?_) (fun z => ?_)⟩
      · have z : n % m > 0 := z
        rw [if_pos z] at k
        refine ⟨_, rfl, _, rfl, _, _, rfl, rfl, _, rfl, _, rfl, n % m, b, rfl, b0, b1, _, _, rfl, rfl, ?_⟩
        exact ⟨_, rfl, _, rfl, _, _, rfl, rfl, ⟨by omega, by omega⟩, _, rfl, _, _, rfl, rfl, .inr ⟨by omega, by omega⟩, _, rfl, _, _, rfl, rfl, _, rfl, _, _, rfl, rfl, _, _, rfl, rfl, k _ s1⟩
      · have z : ¬ n % m > 0 := z
        rw [if_neg z] at k
        exact ⟨_, rfl, _, rfl, _, _, rfl, rfl, ⟨by omega, by omega⟩, _, rfl, _, _, rfl, rfl, .inr ⟨by omega, by omega⟩, _, rfl, _, _, rfl, rfl, _, rfl, _, _, rfl, rfl, _, _, rfl, rfl, k _ s1⟩
    | cut m c =>
      refine ⟨_, rfl, q, _, _, .str "cut", rfl, rfl, SqL.of hq, at_of (j := 0) rfl rfl, _, rfl, q, _, _, .int m, rfl, rfl, SqL.of hq, at_of (j := 1) rfl rfl, _, rfl, _, rfl, q, _, _, .int c, rfl, rfl, SqL.of hq, (atI_last [V.str "cut",V.int m] _), (by show 3 ≤ sizeLine; decide), fun t ht => ⟨t, _, rfl, SqT.of upd_same, rfl, _, _, rfl, _, _, rfl, _, _, rfl, rfl, ?_⟩⟩
      have s1 := up (o := .tup [.str "cut", .int m, .int c]) ht
      generalize upd H t (.tup [.str "cut", .int m, .int c]) = H1 at s1 ⊢
      refine ⟨_, rfl, rfl, _, rfl, ifs_neg (show ("cut" : Str) ≠ "plus" by decide) ?_⟩
      refine ⟨_, rfl, rfl, _, rfl, ifs_neg (show ("cut" : Str) ≠ "told" by decide) ?_⟩
      refine ⟨_, rfl, rfl, _, rfl, ifs_neg (show ("cut" : Str) ≠ "whole" by decide) ?_⟩
      refine ⟨_, rfl, rfl, _, rfl, ifs_neg (show ("cut" : Str) ≠ "coded" by decide) ?_⟩
      refine ⟨_, rfl, rfl, _, rfl, ifs_neg (show ("cut" : Str) ≠ "filled" by decide) ?_⟩
      have ok : 1 ≤ m ∧ m ≤ 60 ∧ 0 ≤ c ∧ c ≤ 60 := ok
      refine ⟨_, rfl, rfl, _, rfl, ifd_pos rfl ⟨_, rfl, _, rfl, _, rfl, _, rfl, n, m, rfl, ok.1, ok.2.1, _, _, rfl, rfl, .inl ⟨by omega, by omega⟩, _, _, rfl, rfl, ?_⟩⟩
      have := k _ s1
      simp only [Wr.gr] at this
      show Q (.int (n + c * beg n m)) H1
      rw [Int.mul_comm c]
      exact this
    | coded m c =>
      refine ⟨_, rfl, q, _, _, .str "coded", rfl, rfl, SqL.of hq, at_of (j := 0) rfl rfl, _, rfl, q, _, _, .int m, rfl, rfl, SqL.of hq, at_of (j := 1) rfl rfl, _, rfl, _, rfl, q, _, _, .int c, rfl, rfl, SqL.of hq, (atI_last [V.str "coded",V.int m] _), (by show 3 ≤ sizeLine; decide), fun t ht => ⟨t, _, rfl, SqT.of upd_same, rfl, _, _, rfl, _, _, rfl, _, _, rfl, rfl, ?_⟩⟩
      have s1 := up (o := .tup [.str "coded", .int m, .int c]) ht
      generalize upd H t (.tup [.str "coded", .int m, .int c]) = H1 at s1 ⊢
      refine ⟨_, rfl, rfl, _, rfl, ifs_neg (show ("coded" : Str) ≠ "plus" by decide) ?_⟩
      refine ⟨_, rfl, rfl, _, rfl, ifs_neg (show ("coded" : Str) ≠ "told" by decide) ?_⟩
      refine ⟨_, rfl, rfl, _, rfl, ifs_neg (show ("coded" : Str) ≠ "whole" by decide) ?_⟩
      have ok : 1 ≤ m ∧ m ≤ 60 ∧ m ≤ c ∧ c ≤ 120 := ok
      refine ⟨_, rfl, rfl, _, rfl, ifd_pos rfl ⟨_, rfl, _, rfl, _, rfl, n, m, rfl, ok.1, ok.2.1, _, _, rfl, rfl, .inl ⟨by omega, by omega⟩, ?_⟩⟩
      have := k _ s1
      simp only [Wr.gr] at this
      show Q (.int (c * beg n m)) H1
      rw [Int.mul_comm c]
      exact this
    | filled m =>
      refine ⟨_, rfl, q, _, _, .str "filled", rfl, rfl, SqL.of hq, at_of (j := 0) rfl rfl, _, rfl, q, _, _, .int m, rfl, rfl, SqL.of hq, at_of (j := 1) rfl rfl, _, rfl, _, rfl, q, _, _, .int m, rfl, rfl, SqL.of hq, (atI_last [V.str "filled"] _), (by show 3 ≤ sizeLine; decide), fun t ht => ⟨t, _, rfl, SqT.of upd_same, rfl, _, _, rfl, _, _, rfl, _, _, rfl, rfl, ?_⟩⟩
      have s1 := up (o := .tup [.str "filled", .int m, .int m]) ht
      generalize upd H t (.tup [.str "filled", .int m, .int m]) = H1 at s1 ⊢
      refine ⟨_, rfl, rfl, _, rfl, ifs_neg (show ("filled" : Str) ≠ "plus" by decide) ?_⟩
      refine ⟨_, rfl, rfl, _, rfl, ifs_neg (show ("filled" : Str) ≠ "told" by decide) ?_⟩
      refine ⟨_, rfl, rfl, _, rfl, ifs_neg (show ("filled" : Str) ≠ "whole" by decide) ?_⟩
      refine ⟨_, rfl, rfl, _, rfl, ifs_neg (show ("filled" : Str) ≠ "coded" by decide) ?_⟩
      have ok : 1 ≤ m ∧ m ≤ 60 := ok
      refine ⟨_, rfl, rfl, _, rfl, ifd_pos rfl ⟨_, rfl, _, rfl, _, rfl, n, m, rfl, ok.1, ok.2, _, _, rfl, rfl, .inl ⟨by omega, by omega⟩, ?_⟩⟩
      have := k _ s1
      simp only [Wr.gr] at this
      show Q (.int (m * beg n m)) H1
      rw [Int.mul_comm m]
      exact this
theorem ok_L_size (T : Tx w K mg) : Prom P w K mg base CX0 3 "_law_size" s_L_size ["_law_root_here", "_law_plans", "_law_n"] spSizeP := by
  refine Prom.of T.d_L_size sc_L_size (fun vs H Q E h => ?_) (fun _ _ _ _ _ _ us hl => match us, hl with | [_, _, _], _ => rfl) (fun f cdv A outer s H vs Q E hr h => ?_)
  · obtain ⟨l, b, n, xs, ws, rfl, _⟩ := h
    rfl
  · obtain ⟨l, b, n, xs, ws, rfl, hl, hw, so, n0, n1, k⟩ := h
    have l6 := so.len
    refine ⟨_, (pss_cons (ps_for PassesOwn.never (by rfl) (pi_list (pv 1)) (pg_name (i := 3) sc_L_size.nd rfl (Or.inl rfl)) (pss_one (ps_set (i := 2) sc_L_size.nd rfl (Or.inl rfl) (pe_callP (ok_L_grown T) (hr.mono (by decide)) (by rfl) pass0 (pa_cons (pv 3) (pa_cons (pv 2) (pa_cons (pv 0) pa_nil)))))))
      (pss_one (ps_ret (pv 2)))), ?_⟩
    refine ⟨_, rfl, l, rfl, ⟨_, SqL.of hl⟩, for_list (K := K) (a := l) (xs := xs) (fun i σ H' => Same H H' ∧ ∃ v : Option V, σ = [some (.int b), some (.ref l), some (.int (grS b (ws.take i) n)), v]) ⟨Same.refl _, none, rfl⟩ (fun i σ H' _ h => SqL.of (h.1 _ _ hl)) ?_ ?_⟩
    · rintro i x σ H1 hi ⟨hs, v, rfl⟩
      obtain ⟨q, a, rfl, ha, hq⟩ := (hw.same hs).get hi
      have oka := so.ok a (List.mem_of_getElem? ha)
      have et : grS b (ws.take (i + 1)) n = a.gr b (grS b (ws.take i) n) := by
        unfold grS
        rw [List.take_succ, ha, List.foldl_append]
        rfl
      have hlt : (ws.take i).length ≤ 6 := by
        rw [List.length_take]
        omega
      have bd := grS_pow so.b0 (ws.take i) (fun z hz => so.ok z (List.mem_of_mem_take hz)) (show 12 ≤ 200 by decide) n0 (Int.lt_of_le_of_lt n1 (by decide))
      have bd2 : grS b (ws.take i) n < 2 ^ 2000 := Int.lt_of_lt_of_le bd.2 (pow_mono (by decide) (by omega))
      rw [et]
      exact ⟨_, rfl, _, rfl, _, rfl, q, a, _, b, rfl, hq, oka, so.b0, so.b1, bd.1, bd2, fun H2 s2 => ⟨hs.trans s2, _, rfl⟩⟩
    · rintro σ H1 ⟨hs, v, rfl⟩
      rw [hw.len, List.take_length]
      exact ⟨_, rfl, k _ hs⟩
end
theorem cut_to {xs : List V} {i : Nat} (h : i ≤ xs.length) : cutV xs none (some (i : Int)) = xs.take i := by
  unfold cutV
  rw [HT.sIx_none, HT.sIx_nat]
  simp [Nat.min_eq_left h]
theorem cut_from {xs : List V} {i : Nat} (h : i ≤ xs.length) : cutV xs (some (i : Int)) none = xs.drop i := by
  unfold cutV
  rw [HT.sIx_none, HT.sIx_nat, Nat.min_eq_left h]
  exact List.take_of_length_le (by rw [List.length_drop]; exact Nat.le_refl _)
set_option pp.maxSteps 900
section
variable {P : Program} {w : World} {K : PySem.W.Frag} {mg : Str → Option Value} {base : Heap}
theorem ok_L_handful (T : Tx w K mg) : Prom P w K mg base CX0 6 "_law_handful" s_L_handful ["_law_bowl_here", "_law_root_here", "_law_most"] spHandful := by
  refine Prom.of T.d_L_handful sc_L_handful (fun vs H Q E h => ?_) (fun _ _ _ _ _ _ us hl => match us, hl with | [_, _, _], _ => rfl) (fun f cdv A outer s H vs Q E hr h => ?_)
  · obtain ⟨p, b, m, rfl, _⟩ := h
    rfl
  · obtain ⟨p, b, m, rfl, hp, b0, b1, m0, m1, k⟩ := h
    have np : ∀ {l : Addr}, H l = none → l ≠ p := fun {l} hl => by
      obtain ⟨_, _, _, e, _⟩ := hp
      exact Ne.symm (ne_of_none e hl)
    refine ⟨_, (pss_cons (ps_set (i := 3) sc_L_handful.nd rfl (Or.inl rfl) (pe_callP (ok_L_pile T) (hr.mono (by decide)) (by rfl) pass0 (pa_cons (pv 0) (pa_cons (pv 1) (pa_cons (pv 2) (pa_cons pe_int pa_nil))))))
      (pss_cons (ps_if (PW.pt (pw_and (pt_cmp (pc_gt (pe_callB call_len_seq (by rfl) T.b_len (by decide +kernel) (pa_cons (pv 3) pa_nil)) pe_int)) (pw_and1 (pt_cmp (pc_eqI (pe_callP (ok_L_scoop T) (hr.mono (by decide)) (by rfl) pass0 (pa_cons (pv 0) (pa_cons pe_int pa_nil))) pe_int))))) (pss_cons (ps_set (i := 4) sc_L_handful.nd rfl (Or.inl rfl) (pe_ix ix_list (pv 3) (pe_callP (ok_L_scoop T) (hr.mono (by decide)) (by rfl) pass0 (pa_cons (pv 0) (pa_cons (pe_callB call_len_seq (by rfl) T.b_len (by decide +kernel) (pa_cons (pv 3) pa_nil)) pa_nil))) (fun _ _ => rfl)))
      (pss_one (ps_if (pt_cmp (pc_lt (pe_op op_mul (pe_callP (ok_L_fineness T) (hr.mono (by decide)) (by rfl) pass0 (pa_cons (pe_slice sl_list (pv 3) (po_some pe_int) po_none) pa_nil)) (pe_callP (ok_L_fine T) (hr.mono (by decide)) (by rfl) pass0 (pa_cons (pv 4) pa_nil))) pe_int)) (pss_one (ps_set (i := 3) sc_L_handful.nd rfl (Or.inl rfl) (pe_op op_cat (pe_slice sl_list (pv 3) (po_some pe_int) po_none) (pe_lst (pa_cons (pv 4) pa_nil))))) pss_nil))) pss_nil)
      (pss_one (ps_ret (pv 3))))), ?_⟩
    refine ⟨_, rfl, _, rfl, _, rfl, p, b, m, rfl, hp, b0, b1, m0, m1, fun l xs ws H1 ok wl fl nl d1 hl hw => ?_⟩
    have hlx := hw.len
    refine nxt ?_
    dsimp only []
    refine seq_if (fun σ' H' => Drew p H H' ∧ ∃ (l' : Addr) (xs' : List V) (ws' : List Wr) (v : Option V), H l' = none ∧ (∀ a ∈ ws', a.ok) ∧ (ws'.length : Int) ≤ m ∧ fineL ws' ≤ 120 ∧ H' l' = some (.lst xs') ∧ PlansAt H' xs' ws' ∧ σ' = [some (.ref p), some (.int b), some (.int m), some (.ref l'), v]) (fun N hN => ?_) ?_
    · refine ⟨_, rfl, l, xs, rfl, .inl (SqL.of hl), _, _, rfl, rfl, _, rfl, ifd (fun c => ?_) (fun c => iteF (hN _ _ ⟨d1, l, xs, ws, none, nl, ok, wl, fl, hl, hw, rfl⟩))⟩
      have c : (xs.length : Int) > 1 := c
      refine ⟨_, rfl, p, _, rfl, d1.at_, by decide, by decide, fun z H2 z0 z1 d2 => ?_⟩
      have hl2 := d2.kp _ _ (np nl) hl
      have hw2 := d2.plans d1.at_ hw
      have d2 := d1.trans d2
      refine ⟨_, _, rfl, rfl, _, rfl, ifd (fun c2 => ?_) (fun c2 => hN _ _ ⟨d2, l, xs, ws, none, nl, ok, wl, fl, hl2, hw2, rfl⟩)⟩
      refine ⟨_, rfl, _, rfl, _, rfl, l, xs, rfl, .inl (SqL.of hl2), p, _, rfl, d2.at_, by omega, by omega, fun y H3 y0 y1 d3 => ?_⟩
      have hl3 := d3.kp _ _ (np nl) hl2
      have hw3 := d3.plans d2.at_ hw2
      have d3 := d2.trans d3
      have yi : y.toNat < xs.length := by omega
      obtain ⟨x, hx⟩ : ∃ x, xs[y.toNat]? = some x := ⟨_, List.getElem?_eq_getElem yi⟩
      obtain ⟨q, a, rfl, ha, hq⟩ := hw3.get hx
      have oka := ok a (List.mem_of_getElem? ha)
      refine ⟨l, _, _, .ref q, rfl, rfl, SqL.of hl3, at_of (show y = ((y.toNat : Nat) : Int) by omega) hx, ?_⟩
      have e1 : cutV xs (some 1) none = xs.drop 1 := cut_from (i := 1) (by omega)
      refine ⟨_, rfl, _, rfl, l, xs, rfl, SqL.of hl3, fun l4 hl4 => ?_⟩
      rw [e1]
      have v4 := up (o := .lst (xs.drop 1)) hl4
      refine ⟨l4, _, ws.drop 1, rfl, upd_same, (hw3.same v4).drop 1, fun x hx => ok x (List.mem_of_mem_drop hx), by rw [List.length_drop]; omega, fun H5 s5 => ?_⟩
      have v5 := v4.trans s5
      have um := use_most oka
      have u0 := use_pos oka
      refine ⟨_, rfl, q, a, rfl, v5 _ _ hq, oka, fun H6 s6 => ⟨_, _, rfl, rfl, .inr ⟨by omega, by omega⟩, _, _, rfl, rfl, _, rfl, ?_⟩⟩
      have v6 := v5.trans s6
      have d6 := d3.same v6
      have hl6 := v6 _ _ hl3
      have hw6 := hw3.same v6
      refine ifd (fun c3 => ?_) (fun c3 => hN _ _ ⟨d6, l, xs, ws, _, nl, ok, wl, fl, hl6, hw6, rfl⟩)
      have c3 : fineL (ws.drop 1) * a.use < 121 := c3
      refine ⟨_, rfl, _, rfl, l, xs, rfl, SqL.of hl6, fun l7 hl7 => ?_⟩
      rw [e1]
      refine ⟨_, rfl, (by show 1 ≤ sizeLine; decide), fun l8 hl8 => ?_⟩
      have v8 := (up (o := .lst (xs.drop 1)) hl7).trans (up (o := .lst [.ref q]) hl8)
      refine ⟨l7, l8, _, _, rfl, rfl, up hl8 _ _ upd_same, upd_same, ?_, fun l9 hl9 => ?_⟩
      · rw [List.length_drop, List.length_singleton, sizeLine_eq]
        omega
      have v9 := v8.trans (up (o := .lst (xs.drop 1 ++ [.ref q])) hl9)
      refine hN _ _ ⟨d6.same v9, l9, _, ws.drop 1 ++ [a], _, new_beforeB (d6.same v8) hl9, fun x hx => ?_, ?_, ?_, upd_same, ((hw6.same v9).drop 1).snoc (v9 _ _ (v6 _ _ hq)), rfl⟩
      · rcases List.mem_append.mp hx with z | z
        · exact ok x (List.mem_of_mem_drop z)
        · rw [List.mem_singleton.mp z]
          exact oka
      · rw [List.length_append, List.length_drop]
        show ((ws.length - 1 + 1 : Nat) : Int) ≤ m
        omega
      · have e : fineL (ws.drop 1 ++ [a]) = fineL (ws.drop 1) * a.use := by
          unfold fineL
          rw [List.foldl_append]
          show stepF _ a = _
          rw [step_use]
        rw [e]
        omega
    · rintro σ H2 ⟨d2, l', xs', ws', v, nl', ok', wl', fl', hl', hw', rfl⟩
      exact ⟨_, rfl, k l' xs' ws' H2 ok' wl' fl' nl' d2 hl' hw'⟩
end
set_option pp.maxSteps 900
/-! ### all orders of some places -/
def perms : Nat → List Int → List (List Int)
  | 0, _ => [[]]
  | k + 1, ns => ns.flatMap fun p => (perms k (ns.filter fun o => !decide (o = p))).map (p :: ·)
inductive RowsAt (H : Hp) : List V → List (List Int) → Prop where
  | nil : RowsAt H [] []
  | cons {p : Addr} {a : List Int} {xs : List V} {ws : List (List Int)} (h : H p = some (.lst (a.map V.int))) (r : RowsAt H xs ws) : RowsAt H (.ref p :: xs) (a :: ws)
theorem RowsAt.len {H : Hp} {xs : List V} {ws : List (List Int)} (h : RowsAt H xs ws) : xs.length = ws.length := by
  induction h with
  | nil => rfl
  | cons _ _ ih => exact congrArg (· + 1) ih
theorem RowsAt.get {H : Hp} {xs : List V} {ws : List (List Int)} (h : RowsAt H xs ws) : ∀ {i : Nat} {x : V}, xs[i]? = some x → ∃ (p : Addr) (a : List Int), x = .ref p ∧ ws[i]? = some a ∧ H p = some (.lst (a.map V.int)) := by
  induction h with
  | nil =>
    intro i x e
    simp at e
  | cons h _ ih =>
    intro i x e
    cases i with
    | zero =>
      simp at e
      exact ⟨_, _, e.symm, rfl, h⟩
    | succ i => exact ih (by simpa using e)
theorem RowsAt.same {H H' : Hp} {xs : List V} {ws : List (List Int)} (h : RowsAt H xs ws) (s : Same H H') : RowsAt H' xs ws := by
  induction h with
  | nil => exact .nil
  | cons h _ ih => exact .cons (s _ _ h) ih
theorem RowsAt.app {H : Hp} {xs ys : List V} {ws us : List (List Int)} (h : RowsAt H xs ws) (g : RowsAt H ys us) : RowsAt H (xs ++ ys) (ws ++ us) := by
  induction h with
  | nil => exact g
  | cons h _ ih => exact .cons h ih
theorem RowsAt.kp {H H' : Hp} {xs : List V} {ws : List (List Int)} (h : RowsAt H xs ws) (k : ∀ p o, V.ref p ∈ xs → H p = some o → H' p = some o) : RowsAt H' xs ws := by
  induction h with
  | nil => exact .nil
  | cons h _ ih => exact .cons (k _ _ (List.mem_cons_self ..) h) (ih fun p o hm => k p o (List.mem_cons_of_mem _ hm))
theorem same_before {H H1 : Hp} {q : Addr} (s : Same H H1) (h : H1 q = none) : H q = none := by
  cases e : H q with
  | none => rfl
  | some o => rw [s _ _ e] at h; cases h
/-- new ones -/
def NewIn (B : Hp) (xs : List V) : Prop := ∀ q, V.ref q ∈ xs → B q = none
theorem NewIn.before {A B : Hp} {xs : List V} (h : NewIn B xs) (s : Same A B) : NewIn A xs := fun q hq => same_before s (h q hq)
theorem NewIn.app {A : Hp} {xs ys : List V} (h : NewIn A xs) (g : NewIn A ys) : NewIn A (xs ++ ys) := fun q hq => (List.mem_append.mp hq).elim (h q) (g q)
theorem NewIn.nil {A : Hp} : NewIn A [] := fun q hq => absurd hq (by simp)
theorem perms_len : ∀ (k : Nat) (ns : List Int), ns.length ≤ 4 → k ≤ 4 → (perms k ns).length ≤ 256
  | k, ns, h, hk => by
    have key : ∀ (k : Nat) (ns : List Int), ns.length ≤ 4 → (perms k ns).length ≤ 4 ^ k := by
      intro k
      induction k with
      | zero => intro ns _; exact Nat.le_refl 1
      | succ k ih =>
        intro ns hn
        have each : ∀ ms : List Int, ((ms.flatMap fun p => (perms k (ns.filter fun o => !decide (o = p))).map (p :: ·))).length ≤ ms.length * 4 ^ k := by
          intro ms
          induction ms with
          | nil => simp
          | cons m ms ih2 =>
            rw [List.flatMap_cons, List.length_append, List.length_map, List.length_cons, Nat.add_mul, Nat.one_mul]
            have := ih (ns.filter fun o => !decide (o = m)) (Nat.le_trans (List.length_filter_le _ _) hn)
            omega
        have := each ns
        show ((ns.flatMap fun p => (perms k (ns.filter fun o => !decide (o = p))).map (p :: ·))).length ≤ 4 ^ (k + 1)
        rw [Nat.pow_succ]
        have h4 : ns.length * 4 ^ k ≤ 4 * 4 ^ k := Nat.mul_le_mul_right _ hn
        omega
    exact Nat.le_trans (key k ns h) (Nat.pow_le_pow_right (by decide) hk)
theorem filter_one {p : Int} : ∀ {ns : List Int}, ns.Nodup → p ∈ ns → (ns.filter fun o => !decide (o = p)).length + 1 = ns.length
  | [], _, h => absurd h (by simp)
  | n :: ns, nd, h => by
    obtain ⟨n1, n2⟩ := List.nodup_cons.mp nd
    by_cases z : n = p
    · subst z
      have e : (ns.filter fun o => !decide (o = n)) = ns := List.filter_eq_self.mpr fun o ho => by
        have : o ≠ n := fun y => n1 (y ▸ ho)
        simp [this]
      rw [List.filter_cons, if_neg (by simp), e]
      rfl
    · have hm : p ∈ ns := by
        rcases List.mem_cons.mp h with e | e
        · exact absurd e.symm z
        · exact e
      rw [List.filter_cons, if_pos (by simp [z]), List.length_cons, List.length_cons]
      have := filter_one n2 hm
      omega
theorem row_len : ∀ {m : Nat} {ns : List Int}, ∀ a ∈ perms m ns, a.length = m
  | 0, _, a, h => by
    rw [List.mem_singleton.mp h]
    rfl
  | m + 1, ns, a, h => by
    obtain ⟨p, _, h⟩ := List.mem_flatMap.mp h
    obtain ⟨b, hb, rfl⟩ := List.mem_map.mp h
    rw [List.length_cons, row_len b hb]
theorem flat_snoc {f : Int → List (List Int)} {ns : List Int} {p : Int} : (ns ++ [p]).flatMap f = ns.flatMap f ++ f p := by simp
def spTurns (m : Nat) : Sp := fun vs H Q _ => ∃ (l : Addr) (ns : List Int), vs = [.ref l] ∧ H l = some (.lst (ns.map V.int)) ∧ ns.Nodup ∧ ns.length = m ∧ m ≤ 4 ∧ ∀ q xs H', H q = none → NewIn H xs → Same H H' → H' q = some (.lst xs) → RowsAt H' xs (perms m ns) → Q (.ref q) H'
def spNone : Sp := fun _ _ _ _ => False
section
variable {P : Program} {w : World} {K : PySem.W.Frag} {mg : Str → Option Value} {base : Heap}
theorem turns_none (T : Tx w K mg) : Prom P w K mg base CX0 1 "_law_turns" s_L_turns ["_law_places"] spNone :=
  Prom.of T.d_L_turns sc_L_turns (fun vs H Q E h => absurd h id) (fun _ _ _ _ _ _ us hl => match us, hl with | [_], _ => rfl) (fun f cdv A outer s H vs Q E hr h => absurd h id)
theorem turns_zero (T : Tx w K mg) (ih : Prom P w K mg base CX0 1 "_law_turns" s_L_turns ["_law_places"] spNone) : Prom P w K mg base CX0 2 "_law_turns" s_L_turns ["_law_places"] (spTurns 0) := by
  refine Prom.of T.d_L_turns sc_L_turns (fun vs H Q E h => ?_) (fun _ _ _ _ _ _ us hl => match us, hl with | [_], _ => rfl) (fun f cdv A outer s H vs Q E hr h => ?_)
  · obtain ⟨l, ns, rfl, _⟩ := h
    rfl
  · obtain ⟨l, ns, rfl, hl, nd, nl, _, k⟩ := h
    have e : ns = [] := List.eq_nil_of_length_eq_zero nl
    subst e
    refine ⟨_, (pss_cons (ps_if (pt_cmpR (op_eqD hr.units) (pv 0) (pe_lst pa_nil) (nomark _)) (pss_one (ps_ret (pe_lst (pa_cons (pe_lst pa_nil) pa_nil)))) pss_nil)
      (pss_cons (ps_set (i := 1) sc_L_turns.nd rfl (Or.inl rfl) (pe_lst pa_nil))
      (pss_cons (ps_for PassesOwn.never (by rfl) (pi_list (pv 0)) (pg_name (i := 2) sc_L_turns.nd rfl (Or.inr rfl)) (pss_one (ps_set (i := 1) sc_L_turns.nd rfl (Or.inl rfl) (pe_op op_cat (pv 1) (pe_lc (own := [("_law_others", 3)]) (g := (gName 3)) (tt := tYes) (by rfl) sc_L_turns.nd (pi_list (pe_callP ih (hr.mono (Nat.le_refl _)) (by rfl) pass0 (pa_cons (pe_lc (own := [("_law_other", 4)]) (g := (gName 4)) (by rfl) sc_L_turns.nd (pi_list (pv 0)) (blkOk_by (own := [("_law_other", 4)]) (N := ["_law_places", "_law_found", "_law_at", "_law_others", "_law_other"]) (sc := defScope s_L_turns) (by decide +kernel)) (fun _ _ _ _ _ => (pg_name (i := 4) sc_L_turns.nd rfl (Or.inl rfl))) (fun _ _ _ _ _ => pts_one (pt_cmp (pc_neI (pv 4) (pv 2)))) (fun _ _ _ _ _ => (pv 4))) pa_nil))) (blkOk_by (own := [("_law_others", 3)]) (N := ["_law_places", "_law_found", "_law_at", "_law_others", "_law_other"]) (sc := defScope s_L_turns) (by decide +kernel)) (fun _ _ _ _ _ => (pg_name (i := 3) sc_L_turns.nd rfl (Or.inl rfl))) (fun _ _ _ _ _ => pts_nil) (fun _ _ _ _ _ => (pe_op op_cat (pe_lst (pa_cons (pv 2) pa_nil)) (pv 3))))))))
      (pss_one (ps_ret (pv 1)))))), ?_⟩
    refine ⟨_, rfl, Nat.zero_le _, fun e he => ⟨_, _, .lst (SqL.of (up he _ _ hl)) .nil, .lst (SqL.of upd_same) .nil, rfl, rfl, _, rfl, ifb_pos rfl ?_⟩⟩
    refine ⟨Nat.zero_le _, fun l1 hl1 => ⟨(by show 1 ≤ sizeLine; decide), fun l2 hl2 => ?_⟩⟩
    exact k l2 _ _ (same_before ((up he).trans (up hl1)) hl2) (fun q hq => by have z := List.mem_singleton.mp hq; injection z with z; subst z; exact same_before (up he) hl1) (((up he).trans (up hl1)).trans (up hl2)) upd_same (.cons (a := []) (up hl2 _ _ upd_same) .nil)
theorem turns_succ (T : Tx w K mg) {j m : Nat} (ih : Prom P w K mg base CX0 j "_law_turns" s_L_turns ["_law_places"] (spTurns m)) : Prom P w K mg base CX0 (j + 1) "_law_turns" s_L_turns ["_law_places"] (spTurns (m + 1)) := by
  refine Prom.of T.d_L_turns sc_L_turns (fun vs H Q E h => ?_) (fun _ _ _ _ _ _ us hl => match us, hl with | [_], _ => rfl) (fun f cdv A outer s H vs Q E hr h => ?_)
  · obtain ⟨l, ns, rfl, _⟩ := h
    rfl
  · obtain ⟨l, ns, rfl, hl, nd, nl, m4, k⟩ := h
    refine ⟨_, (pss_cons (ps_if (pt_cmpR (op_eqD hr.units) (pv 0) (pe_lst pa_nil) (nomark _)) (pss_one (ps_ret (pe_lst (pa_cons (pe_lst pa_nil) pa_nil)))) pss_nil)
      (pss_cons (ps_set (i := 1) sc_L_turns.nd rfl (Or.inl rfl) (pe_lst pa_nil))
      (pss_cons (ps_for PassesOwn.never (by rfl) (pi_list (pv 0)) (pg_name (i := 2) sc_L_turns.nd rfl (Or.inr rfl)) (pss_one (ps_set (i := 1) sc_L_turns.nd rfl (Or.inl rfl) (pe_op op_cat (pv 1) (pe_lc (own := [("_law_others", 3)]) (g := (gName 3)) (tt := tYes) (by rfl) sc_L_turns.nd (pi_list (pe_callP ih (hr.mono (Nat.le_refl _)) (by rfl) pass0 (pa_cons (pe_lc (own := [("_law_other", 4)]) (g := (gName 4)) (by rfl) sc_L_turns.nd (pi_list (pv 0)) (blkOk_by (own := [("_law_other", 4)]) (N := ["_law_places", "_law_found", "_law_at", "_law_others", "_law_other"]) (sc := defScope s_L_turns) (by decide +kernel)) (fun _ _ _ _ _ => (pg_name (i := 4) sc_L_turns.nd rfl (Or.inl rfl))) (fun _ _ _ _ _ => pts_one (pt_cmp (pc_neI (pv 4) (pv 2)))) (fun _ _ _ _ _ => (pv 4))) pa_nil))) (blkOk_by (own := [("_law_others", 3)]) (N := ["_law_places", "_law_found", "_law_at", "_law_others", "_law_other"]) (sc := defScope s_L_turns) (by decide +kernel)) (fun _ _ _ _ _ => (pg_name (i := 3) sc_L_turns.nd rfl (Or.inl rfl))) (fun _ _ _ _ _ => pts_nil) (fun _ _ _ _ _ => (pe_op op_cat (pe_lst (pa_cons (pv 2) pa_nil)) (pv 3))))))))
      (pss_one (ps_ret (pv 1)))))), ?_⟩
    refine ⟨_, rfl, Nat.zero_le _, fun e he => ⟨_, _, .lst (SqL.of (up he _ _ hl)) (dp_ints _), .lst (SqL.of upd_same) .nil, (shp_ints_l _).shaped, rfl, _, rfl, ifb_neg ?_ ?_⟩⟩
    · cases ns with
      | nil => cases nl
      | cons _ _ => rfl
    have s1 := up (o := .lst []) he
    generalize upd H e (.lst []) = H1 at s1 ⊢
    have hl1 := s1 _ _ hl
    refine ⟨Nat.zero_le _, fun lf hlf => ?_⟩
    refine ⟨_, rfl, l, rfl, ⟨_, SqL.of (up hlf _ _ hl1)⟩, for_list (K := K) (a := l) (xs := ns.map V.int) (fun i σ H' => Same H1 H' ∧ ∃ (q : Addr) (xs : List V) (v2 v3 v4 : Option V), H' q = some (.lst xs) ∧ RowsAt H' xs ((ns.take i).flatMap fun p => (perms m (ns.filter fun o => !decide (o = p))).map (p :: ·)) ∧ xs.length ≤ 256 * i ∧ (H1 q = none ∧ NewIn H1 xs) ∧ σ = [some (.ref l), some (.ref q), v2, v3, v4]) ⟨up hlf, lf, [], none, none, none, upd_same, .nil, Nat.zero_le _, ⟨hlf, .nil⟩, rfl⟩ (fun i σ H' _ h => SqL.of (h.1 _ _ hl1)) ?_ ?_⟩
    · rintro i x σ H2 hi ⟨hs, q, xs, v2, v3, v4, hq, hr, xl, ⟨nq, nx⟩, rfl⟩
      obtain ⟨p, hp, rfl⟩ := int_at hi
      have il := (List.getElem?_eq_some_iff.mp hp).1
      have pm : p ∈ ns := List.mem_of_getElem? hp
      have fl := filter_one nd pm
      have fn : (ns.filter fun o => !decide (o = p)).length = m := by omega
      have fnd : (ns.filter fun o => !decide (o = p)).Nodup := nd.filter _
      have fl4 : (ns.filter fun o => !decide (o = p)).length ≤ 4 := by omega
      have pl := perms_len m (ns.filter fun o => !decide (o = p)) fl4 (by omega)
      have hl2 := hs _ _ hl1
      refine ⟨_, rfl, _, rfl, l, rfl, ⟨_, SqL.of hl2⟩, fun D hD => ?_⟩
      refine lc_list (K := K) (a := l) (xs := ns.map V.int) (Pv := fun j H' => Same H2 H' ∧ H' D = some (.lst (((ns.take j).filter fun o => !decide (o = p)).map V.int))) ⟨up hD, upd_same⟩ (fun j H' _ h => SqL.of (h.1 _ _ hl2)) ?_ ?_
      · rintro j x H3 hj ⟨hs3, hd3⟩
        obtain ⟨o, ho, rfl⟩ := int_at hj
        have jl := (List.getElem?_eq_some_iff.mp ho).1
        have et : ns.take (j + 1) = ns.take j ++ [o] := by
          rw [List.take_succ, ho]
          rfl
        refine ⟨rfl, _, rfl, _, rfl, _, _, rfl, rfl, _, rfl, ifn (fun z => ?_) (fun z => ?_)⟩
        · have z : ¬ o = p := z
          refine ⟨_, rfl, _, hd3, ?_, fun y o e => ?_, ?_⟩
          · rw [List.length_map, sizeLine_eq]
            have h1 := List.length_filter_le (fun o => !decide (o = p)) (ns.take j)
            have h2 := List.length_take_le' j ns
            omega
          · rw [upd_ne (ne_of_none e hD)]
            exact hs3 _ _ e
          · rw [upd_same, et, List.filter_append, List.map_append]
            simp [z]
        · have z : o = p := z
          refine ⟨hs3, ?_⟩
          rw [hd3, et, List.filter_append]
          simp [z]
      rintro H3 ⟨hs3, hd3⟩
      rw [List.length_map, List.take_length] at hd3
      refine ⟨D, _, rfl, hd3, fnd, fn, by omega, fun q2 xs2 H4 _ _ s4 hq2 hr2 => ⟨q2, rfl, ⟨_, SqL.of hq2⟩, fun E hE => ?_⟩⟩
      have x2l := hr2.len
      refine lc_list (K := K) (a := q2) (xs := xs2) (Pv := fun j H' => Same H4 H' ∧ ∃ zs, H' E = some (.lst zs) ∧ RowsAt H' zs (((perms m (ns.filter fun o => !decide (o = p))).take j).map (p :: ·)) ∧ NewIn (upd H4 E (.lst [])) zs ∧ zs.length = j) ⟨up hE, [], upd_same, .nil, fun _ h => absurd h (by simp), rfl⟩ (fun j H' _ h => SqL.of (h.1 _ _ hq2)) ?_ ?_
      · rintro j x H5 hj ⟨hs5, zs, hd5, hz5, nw, zl⟩
        have jl := (List.getElem?_eq_some_iff.mp hj).1
        obtain ⟨r, a, rfl, ha, hra⟩ := hr2.get hj
        have hra5 := hs5 _ _ hra
        have al : a.length ≤ 1000000 := by
          have := (row_len (m := m) (ns := ns.filter fun o => !decide (o = p)) a (List.mem_of_getElem? ha))
          omega
        refine ⟨rfl, _, rfl, (by show 1 ≤ sizeLine; decide), fun l5 hl5 => ⟨_, rfl, l5, r, _, _, rfl, rfl, upd_same, up hl5 _ _ hra5, ?_, fun l6 hl6 => ?_⟩⟩
        · rw [List.length_map, List.length_singleton, sizeLine_eq]
          omega
        have v6 := (up (o := .lst [.int p]) hl5).trans (up (o := .lst ([.int p] ++ a.map V.int)) hl6)
        have l6E : l6 ≠ E := fun e => by
          rw [e, upd_ne (fun e2 => by rw [← e2, hd5] at hl5; cases hl5), hd5] at hl6
          cases hl6
        refine ⟨zs, v6 _ _ hd5, ?_, fun y o e => ?_, zs ++ [.ref l6], upd_same, ?_, ?_, ?_⟩
        · rw [sizeLine_eq]
          omega
        · rw [upd_ne (ne_of_none e hE)]
          exact v6 _ _ (hs5 _ _ e)
        · rw [List.take_succ, ha]
          show RowsAt _ _ (List.map _ (_ ++ [a]))
          rw [List.map_append]
          refine RowsAt.app ((hz5.same v6).kp fun y o hy e => ?_) (.cons ?_ .nil)
          · rw [upd_ne (fun z => by have := nw y hy; rw [z, upd_same] at this; cases this)]
            exact e
          · rw [upd_ne l6E, upd_same]
            rfl
        · intro y hy
          rcases List.mem_append.mp hy with z | z
          · exact nw y z
          · have z : V.ref y = .ref l6 := List.mem_singleton.mp z
            injection z with z
            subst z
            rw [upd_ne l6E]
            exact same_before (hs5.trans (up hl5)) hl6
        · rw [List.length_append, zl]
          rfl
      rintro H5 ⟨hs5, zs, hd5, hz5, nw, zl⟩
      rw [x2l, List.take_length] at hz5
      have s5 := (hs3.trans s4).trans hs5
      have zle : zs.length ≤ 256 := by
        have := hz5.len
        rw [List.length_map] at this
        omega
      refine ⟨q, E, _, _, rfl, rfl, s5 _ _ hq, hd5, ?_, fun l7 hl7 => ?_⟩
      · rw [sizeLine_eq]
        omega
      have s7 := s5.trans (up (o := .lst (xs ++ zs)) hl7)
      refine ⟨hs.trans s7, l7, xs ++ zs, _, _, _, upd_same, ?_, ?_, ⟨same_before (hs.trans s5) hl7, nx.app (nw.before (((hs.trans hs3).trans s4).trans (up hE)))⟩, rfl⟩
      · rw [List.take_succ, hp]
        show RowsAt _ _ (List.flatMap _ (ns.take i ++ [p]))
        rw [flat_snoc]
        exact (hr.same s7).app (hz5.same (up hl7))
      · rw [List.length_append]
        omega
    · rintro σ H2 ⟨hs, q, xs, v2, v3, v4, hq, hr, xl, ⟨nq, nx⟩, rfl⟩
      rw [List.length_map, List.take_length] at hr
      exact ⟨_, rfl, k q xs H2 (same_before s1 nq) (nx.before s1) (s1.trans hs) hq hr⟩
theorem ok_L_turns (T : Tx w K mg) : ∀ m : Nat, Prom P w K mg base CX0 (m + 2) "_law_turns" s_L_turns ["_law_places"] (spTurns m)
  | 0 => turns_zero T (turns_none T)
  | m + 1 => turns_succ T (ok_L_turns T m)
end
/-! ### the program's rows -/
theorem rows_ne {H : Hp} {l q : Addr} {xs : List V} {ws : List (List Int)} (h : RowsAt H xs ws) (hl : H l = some (.lst xs)) (m : V.ref q ∈ xs) : q ≠ l := fun e => by
  obtain ⟨i, hi⟩ := List.getElem?_of_mem m
  obtain ⟨p, a, e1, _, e2⟩ := h.get hi
  injection e1 with e1
  rw [← e1, e, hl] at e2
  injection e2 with e2
  injection e2 with e2
  rw [e2] at m
  obtain ⟨_, _, z⟩ := List.mem_map.mp m
  cases z
theorem rows_ne2 {H : Hp} {l q : Addr} {xs zs : List V} {ws us : List (List Int)} (h : RowsAt H xs ws) (hl : H l = some (.lst xs)) (hz : RowsAt H zs us) (nz : ∀ a ∈ us, a ≠ []) (m : V.ref q ∈ zs) : q ≠ l := fun e => by
  obtain ⟨i, hi⟩ := List.getElem?_of_mem m
  obtain ⟨p, a, e1, e3, e2⟩ := hz.get hi
  injection e1 with e1
  rw [← e1, e, hl] at e2
  injection e2 with e2
  injection e2 with e2
  cases h with
  | nil => exact nz a (List.mem_of_getElem? e3) (List.map_eq_nil_iff.mp e2.symm)
  | cons =>
    cases a with
    | nil => cases e2
    | cons => cases e2
section
variable {P : Program} {w : World} {K : PySem.W.Frag} {mg : Str → Option Value} {base : Heap}
theorem rows_none (T : Tx w K mg) : Prom P w K mg base CX0 1 "rows_of" s_rows_of ["places"] spNone :=
  Prom.of T.d_rows_of sc_rows_of (fun vs H Q E h => absurd h id) (fun _ _ _ _ _ _ us hl => match us, hl with | [_], _ => rfl) (fun f cdv A outer s H vs Q E hr h => absurd h id)
theorem rows_zero (T : Tx w K mg) (ih : Prom P w K mg base CX0 1 "rows_of" s_rows_of ["places"] spNone) : Prom P w K mg base CX0 2 "rows_of" s_rows_of ["places"] (spTurns 0) := by
  refine Prom.of T.d_rows_of sc_rows_of (fun vs H Q E h => ?_) (fun _ _ _ _ _ _ us hl => match us, hl with | [_], _ => rfl) (fun f cdv A outer s H vs Q E hr h => ?_)
  · obtain ⟨l, ns, rfl, _⟩ := h
    rfl
  · obtain ⟨l, ns, rfl, hl, nd, nl, _, k⟩ := h
    have e : ns = [] := List.eq_nil_of_length_eq_zero nl
    subst e
    refine ⟨_, (pss_cons (ps_if (pt_cmpR (op_eqD hr.units) (pv 0) (pe_lst pa_nil) (nomark _)) (pss_one (ps_ret (pe_lst (pa_cons (pe_lst pa_nil) pa_nil)))) pss_nil)
      (pss_cons (ps_set (i := 1) sc_rows_of.nd rfl (Or.inl rfl) (pe_lst pa_nil))
      (pss_cons (ps_for PassesOwn.never (by rfl) (pi_list (pv 0)) (pg_name (i := 2) sc_rows_of.nd rfl (Or.inr rfl)) (pss_cons (ps_setLc (i := 3) (own := [("other", 4)]) (g := (gName 4)) (by rfl) sc_rows_of.nd rfl rfl (sw_true rfl rfl rfl (by decide +kernel)) (pi_list (pv 0)) (blkOk_by (own := [("other", 4)]) (N := ["places", "found", "place", "others", "other", "row"]) (sc := defScope s_rows_of) (by decide +kernel)) (fun _ _ _ _ _ => (pg_name (i := 4) sc_rows_of.nd rfl (Or.inl rfl))) (fun _ _ _ _ _ => pts_one (pt_cmp (pc_neI (pv 4) (pv 2)))) (fun _ _ _ _ _ => (pv 4)))
      (pss_one (ps_expr (pe_bm PySem.F.plainAttrs_list PySem.F.slot_list_extend PySem.F.type_list_extend mt_extend (pv 1) (pa_cons (pe_lc (own := [("row", 5)]) (g := (gName 5)) (tt := tYes) (by rfl) sc_rows_of.nd (pi_list (pe_callP ih (hr.mono (Nat.le_refl _)) (by rfl) pass0 (pa_cons (pv 3) pa_nil))) (blkOk_by (own := [("row", 5)]) (N := ["places", "found", "place", "others", "other", "row"]) (sc := defScope s_rows_of) (by decide +kernel)) (fun _ _ _ _ _ => (pg_name (i := 5) sc_rows_of.nd rfl (Or.inl rfl))) (fun _ _ _ _ _ => pts_nil) (fun _ _ _ _ _ => (pe_lst (pa_cons (pv 2) (show PA _ _ (StX.tStar K _ _) from (StX.pa_star (pv 5) pa_nil)))))) pa_nil))))))
      (pss_one (ps_ret (pv 1)))))), ?_⟩
    refine ⟨_, rfl, Nat.zero_le _, fun e he => ⟨_, _, .lst (SqL.of (up he _ _ hl)) .nil, .lst (SqL.of upd_same) .nil, rfl, rfl, _, rfl, ifb_pos rfl ?_⟩⟩
    refine ⟨Nat.zero_le _, fun l1 hl1 => ⟨(by show 1 ≤ sizeLine; decide), fun l2 hl2 => ?_⟩⟩
    exact k l2 _ _ (same_before ((up he).trans (up hl1)) hl2) (fun q hq => by have z := List.mem_singleton.mp hq; injection z with z; subst z; exact same_before (up he) hl1) (((up he).trans (up hl1)).trans (up hl2)) upd_same (.cons (a := []) (up hl2 _ _ upd_same) .nil)
theorem rows_succ (T : Tx w K mg) {j m : Nat} (ih : Prom P w K mg base CX0 j "rows_of" s_rows_of ["places"] (spTurns m)) : Prom P w K mg base CX0 (j + 1) "rows_of" s_rows_of ["places"] (spTurns (m + 1)) := by
  refine Prom.of T.d_rows_of sc_rows_of (fun vs H Q E h => ?_) (fun _ _ _ _ _ _ us hl => match us, hl with | [_], _ => rfl) (fun f cdv A outer s H vs Q E hr h => ?_)
  · obtain ⟨l, ns, rfl, _⟩ := h
    rfl
  · obtain ⟨l, ns, rfl, hl, nd, nl, m4, k⟩ := h
    refine ⟨_, (pss_cons (ps_if (pt_cmpR (op_eqD hr.units) (pv 0) (pe_lst pa_nil) (nomark _)) (pss_one (ps_ret (pe_lst (pa_cons (pe_lst pa_nil) pa_nil)))) pss_nil)
      (pss_cons (ps_set (i := 1) sc_rows_of.nd rfl (Or.inl rfl) (pe_lst pa_nil))
      (pss_cons (ps_for PassesOwn.never (by rfl) (pi_list (pv 0)) (pg_name (i := 2) sc_rows_of.nd rfl (Or.inr rfl)) (pss_cons (ps_setLc (i := 3) (own := [("other", 4)]) (g := (gName 4)) (by rfl) sc_rows_of.nd rfl rfl (sw_true rfl rfl rfl (by decide +kernel)) (pi_list (pv 0)) (blkOk_by (own := [("other", 4)]) (N := ["places", "found", "place", "others", "other", "row"]) (sc := defScope s_rows_of) (by decide +kernel)) (fun _ _ _ _ _ => (pg_name (i := 4) sc_rows_of.nd rfl (Or.inl rfl))) (fun _ _ _ _ _ => pts_one (pt_cmp (pc_neI (pv 4) (pv 2)))) (fun _ _ _ _ _ => (pv 4)))
      (pss_one (ps_expr (pe_bm PySem.F.plainAttrs_list PySem.F.slot_list_extend PySem.F.type_list_extend mt_extend (pv 1) (pa_cons (pe_lc (own := [("row", 5)]) (g := (gName 5)) (tt := tYes) (by rfl) sc_rows_of.nd (pi_list (pe_callP ih (hr.mono (Nat.le_refl _)) (by rfl) pass0 (pa_cons (pv 3) pa_nil))) (blkOk_by (own := [("row", 5)]) (N := ["places", "found", "place", "others", "other", "row"]) (sc := defScope s_rows_of) (by decide +kernel)) (fun _ _ _ _ _ => (pg_name (i := 5) sc_rows_of.nd rfl (Or.inl rfl))) (fun _ _ _ _ _ => pts_nil) (fun _ _ _ _ _ => (pe_lst (pa_cons (pv 2) (show PA _ _ (StX.tStar K _ _) from (StX.pa_star (pv 5) pa_nil)))))) pa_nil))))))
      (pss_one (ps_ret (pv 1)))))), ?_⟩
    refine ⟨_, rfl, Nat.zero_le _, fun e he => ⟨_, _, .lst (SqL.of (up he _ _ hl)) (dp_ints _), .lst (SqL.of upd_same) .nil, (shp_ints_l _).shaped, rfl, _, rfl, ifb_neg ?_ ?_⟩⟩
    · cases ns with
      | nil => cases nl
      | cons _ _ => rfl
    have s1 := up (o := .lst []) he
    generalize upd H e (.lst []) = H1 at s1 ⊢
    have hl1 := s1 _ _ hl
    refine ⟨Nat.zero_le _, fun lf hlf => ?_⟩
    refine ⟨_, rfl, l, rfl, ⟨_, SqL.of (up hlf _ _ hl1)⟩, for_list (K := K) (a := l) (xs := ns.map V.int) (fun i σ H' => Same H1 H' ∧ ∃ (xs : List V) (v2 v3 v4 v5 : Option V), H' lf = some (.lst xs) ∧ RowsAt H' xs ((ns.take i).flatMap fun p => (perms m (ns.filter fun o => !decide (o = p))).map (p :: ·)) ∧ xs.length ≤ 256 * i ∧ NewIn H1 xs ∧ σ = [some (.ref l), some (.ref lf), v2, v3, v4, v5]) ⟨up hlf, [], none, none, none, none, upd_same, .nil, Nat.zero_le _, .nil, rfl⟩ (fun i σ H' _ h => SqL.of (h.1 _ _ hl1)) ?_ ?_⟩
    · rintro i x σ H2 hi ⟨hs, xs, v2, v3, v4, v5, hq, hr, xl, nx, rfl⟩
      obtain ⟨p, hp, rfl⟩ := int_at hi
      have il := (List.getElem?_eq_some_iff.mp hp).1
      have pm : p ∈ ns := List.mem_of_getElem? hp
      have fl := filter_one nd pm
      have fn : (ns.filter fun o => !decide (o = p)).length = m := by omega
      have fnd : (ns.filter fun o => !decide (o = p)).Nodup := nd.filter _
      have fl4 : (ns.filter fun o => !decide (o = p)).length ≤ 4 := by omega
      have pl := perms_len m (ns.filter fun o => !decide (o = p)) fl4 (by omega)
      have hl2 := hs _ _ hl1
      refine ⟨_, rfl, l, rfl, ⟨_, SqL.of hl2⟩, fun D hD => ?_⟩
      refine lc_list (K := K) (a := l) (xs := ns.map V.int) (Pv := fun j H' => Same H2 H' ∧ H' D = some (.lst (((ns.take j).filter fun o => !decide (o = p)).map V.int))) ⟨up hD, upd_same⟩ (fun j H' _ h => SqL.of (h.1 _ _ hl2)) ?_ ?_
      · rintro j x H3 hj ⟨hs3, hd3⟩
        obtain ⟨o, ho, rfl⟩ := int_at hj
        have jl := (List.getElem?_eq_some_iff.mp ho).1
        have et : ns.take (j + 1) = ns.take j ++ [o] := by
          rw [List.take_succ, ho]
          rfl
        refine ⟨rfl, _, rfl, _, rfl, _, _, rfl, rfl, _, rfl, ifn (fun z => ?_) (fun z => ?_)⟩
        · have z : ¬ o = p := z
          refine ⟨_, rfl, _, hd3, ?_, fun y o e => ?_, ?_⟩
          · rw [List.length_map, sizeLine_eq]
            have h1 := List.length_filter_le (fun o => !decide (o = p)) (ns.take j)
            have h2 := List.length_take_le' j ns
            omega
          · rw [upd_ne (ne_of_none e hD)]
            exact hs3 _ _ e
          · rw [upd_same, et, List.filter_append, List.map_append]
            simp [z]
        · have z : o = p := z
          refine ⟨hs3, ?_⟩
          rw [hd3, et, List.filter_append]
          simp [z]
      rintro H3 ⟨hs3, hd3⟩
      rw [List.length_map, List.take_length] at hd3
      refine nxt ?_
      refine ⟨_, rfl, .inl ⟨rfl, _, SqL.of (hs3 _ _ hq)⟩, _, rfl, D, _, rfl, hd3, fnd, fn, by omega, fun q2 xs2 H4 _ _ s4 hq2 hr2 => ⟨q2, rfl, ⟨_, SqL.of hq2⟩, fun E hE => ?_⟩⟩
      have x2l := hr2.len
      refine lc_list (K := K) (a := q2) (xs := xs2) (Pv := fun j H' => Same H4 H' ∧ ∃ zs, H' E = some (.lst zs) ∧ RowsAt H' zs (((perms m (ns.filter fun o => !decide (o = p))).take j).map (p :: ·)) ∧ NewIn (upd H4 E (.lst [])) zs ∧ zs.length = j) ⟨up hE, [], upd_same, .nil, fun _ h => absurd h (by simp), rfl⟩ (fun j H' _ h => SqL.of (h.1 _ _ hq2)) ?_ ?_
      · rintro j x H5 hj ⟨hs5, zs, hd5, hz5, nw, zl⟩
        have jl := (List.getElem?_eq_some_iff.mp hj).1
        obtain ⟨r, a, rfl, ha, hra⟩ := hr2.get hj
        have hra5 := hs5 _ _ hra
        have al : a.length ≤ 1000000 := by
          have := (row_len (m := m) (ns := ns.filter fun o => !decide (o = p)) a (List.mem_of_getElem? ha))
          omega
        refine ⟨rfl, _, rfl, _, rfl, r, _, rfl, .inr (SqL.of hra5), ?_, fun l6 hl6 => ?_⟩
        · show (V.int p :: (a.map V.int ++ [])).length ≤ sizeLine
          rw [List.append_nil, List.length_cons, List.length_map, sizeLine_eq]
          omega
        have v6 := (up (o := .lst (V.int p :: (a.map V.int ++ []))) hl6)
        have l6E : l6 ≠ E := fun e => by
          rw [e, hd5] at hl6
          cases hl6
        refine ⟨zs, v6 _ _ hd5, ?_, fun y o e => ?_, zs ++ [.ref l6], upd_same, ?_, ?_, ?_⟩
        · rw [sizeLine_eq]
          omega
        · rw [upd_ne (ne_of_none e hE)]
          exact v6 _ _ (hs5 _ _ e)
        · rw [List.take_succ, ha]
          show RowsAt _ _ (List.map _ (_ ++ [a]))
          rw [List.map_append]
          refine RowsAt.app ((hz5.same v6).kp fun y o hy e => ?_) (.cons ?_ .nil)
          · rw [upd_ne (fun z => by have := nw y hy; rw [z, upd_same] at this; cases this)]
            exact e
          · rw [upd_ne l6E, upd_same, List.append_nil]
            rfl
        · intro y hy
          rcases List.mem_append.mp hy with z | z
          · exact nw y z
          · have z : V.ref y = .ref l6 := List.mem_singleton.mp z
            injection z with z
            subst z
            rw [upd_ne l6E]
            exact same_before hs5 hl6
        · rw [List.length_append, zl]
          rfl
      rintro H5 ⟨hs5, zs, hd5, hz5, nw, zl⟩
      rw [x2l, List.take_length] at hz5
      have s5 := (hs3.trans s4).trans hs5
      have zle : zs.length ≤ 256 := by
        have := hz5.len
        rw [List.length_map] at this
        omega
      have hq5 := s5 _ _ hq
      have hr5 := hr.same s5
      refine ⟨lf, E, xs, zs, rfl, rfl, hq5, hd5, ?_, ?_⟩
      · rw [sizeLine_eq]
        omega
      refine ⟨fun y o e => ?_, xs ++ zs, _, _, _, _, upd_same, ?_, ?_, nx.app (nw.before (((hs.trans hs3).trans s4).trans (up hE))), rfl⟩
      · rw [upd_ne (ne_of_none e hlf)]
        exact s5 _ _ (hs _ _ e)
      · rw [List.take_succ, hp]
        show RowsAt _ _ (List.flatMap _ (ns.take i ++ [p]))
        rw [flat_snoc]
        refine RowsAt.app (hr5.kp fun y o hy e => ?_) (hz5.kp fun y o hy e => ?_)
        · rw [upd_ne (rows_ne hr5 hq5 hy)]
          exact e
        · rw [upd_ne (rows_ne2 hr5 hq5 hz5 (fun a ha => by obtain ⟨_, _, rfl⟩ := List.mem_map.mp ha; simp) hy)]
          exact e
      · rw [List.length_append]
        omega
    · rintro σ H2 ⟨hs, xs, v2, v3, v4, v5, hq, hr, xl, nx, rfl⟩
      rw [List.length_map, List.take_length] at hr
      exact ⟨_, rfl, k lf xs H2 (same_before s1 hlf) (nx.before s1) (s1.trans hs) hq hr⟩
theorem ok_rows_of (T : Tx w K mg) : ∀ m : Nat, Prom P w K mg base CX0 (m + 2) "rows_of" s_rows_of ["places"] (spTurns m)
  | 0 => rows_zero T (rows_none T)
  | m + 1 => rows_succ T (ok_rows_of T m)
theorem Prom.any {x : Str} {st : Stmt} {ps : List Str} {sp : Nat → Sp} {M : Nat} (h : ∀ m : Nat, Prom P w K mg base CX0 (m + 2) x st ps (sp m)) : Prom P w K mg base CX0 (M + 2) x st ps (fun vs H Q E => ∃ m : Nat, m ≤ M ∧ sp m vs H Q E) := by
  obtain ⟨f, fd, F, hm, D, B⟩ := (h 0).ex
  have key : ∀ m : Nat, FnOk P w K mg base CX0 (m + 2) f fd ps (sp m) := fun m => by
    obtain ⟨f', fd', F', hm', D', B'⟩ := (h m).ex
    have e : f' = f := by
      rw [hm] at hm'
      injection hm' with hm'
      injection hm' with hm'
      exact hm'.symm
    subst e
    obtain ⟨_, _, _, _, _, _, _, _, _, _, _, l1, _⟩ := D.ex
    obtain ⟨_, _, _, _, _, _, _, _, _, _, _, l2, _⟩ := D'.ex
    rw [l1] at l2
    injection l2 with l2
    injection l2 with _ _ l2 _
    injection l2 with l2
    subst l2
    exact F'
  refine ⟨f, fd, ⟨fun vs H Q E z => ?_, fun A outer s H args us vs Q E hr he hb hv z => ?_⟩, hm, D, B⟩
  · obtain ⟨m, _, z⟩ := z
    exact (key m).len vs H Q E z
  · obtain ⟨m, hm, z⟩ := z
    exact (key m).run A outer s H args us vs Q E (hr.mono (by omega)) he hb hv z
def spTurnsA : Sp := fun vs H Q E => ∃ m : Nat, m ≤ 4 ∧ spTurns m vs H Q E
theorem ok_turnsA (T : Tx w K mg) : Prom P w K mg base CX0 6 "_law_turns" s_L_turns ["_law_places"] spTurnsA := Prom.any (M := 4) (ok_L_turns T)
theorem ok_rowsA (T : Tx w K mg) : Prom P w K mg base CX0 6 "rows_of" s_rows_of ["places"] spTurnsA := Prom.any (M := 4) (ok_rows_of T)
end
/-! ### all orders of some wraps -/
def rgI (a b : Int) : List Int := (List.range (b - a).toNat).map fun i => a + (i : Nat)
theorem rgV_eq (a b : Int) : rgV a b = (rgI a b).map V.int := by
  unfold rgV rgI
  rw [List.map_map]
  rfl
def byP (ws : List Wr) (r : List Int) : List Wr := r.filterMap fun i => ws[i.toNat]?
def ordW (ws : List Wr) : List (List Wr) := (perms ws.length (rgI 0 ws.length)).map (byP ws)
theorem rgI_len (n : Nat) : (rgI 0 n).length = n := by
  unfold rgI
  rw [List.length_map, List.length_range]
  omega
theorem rgI_nodup (n : Nat) : (rgI 0 n).Nodup := by
  unfold rgI
  refine List.Pairwise.map _ (fun a b h => ?_) List.nodup_range
  omega
theorem rgI_mem {n : Nat} {z : Int} (h : z ∈ rgI 0 n) : 0 ≤ z ∧ z < n := by
  unfold rgI at h
  obtain ⟨i, hi, rfl⟩ := List.mem_map.mp h
  have := List.mem_range.mp hi
  omega
theorem filter_perm {p : Int} : ∀ {ns : List Int}, ns.Nodup → p ∈ ns → (p :: ns.filter fun o => !decide (o = p)).Perm ns
  | [], _, h => absurd h (by simp)
  | n :: ns, nd, h => by
    obtain ⟨n1, n2⟩ := List.nodup_cons.mp nd
    by_cases z : n = p
    · subst z
      have e : (ns.filter fun o => !decide (o = n)) = ns := List.filter_eq_self.mpr fun o ho => by
        have : o ≠ n := fun y => n1 (y ▸ ho)
        simp [this]
      rw [List.filter_cons, if_neg (by simp), e]
    · have hm : p ∈ ns := by
        rcases List.mem_cons.mp h with e | e
        · exact absurd e.symm z
        · exact e
      rw [List.filter_cons, if_pos (by simp [z])]
      exact (List.Perm.swap n p _).trans ((filter_perm n2 hm).cons n)
theorem perms_perm : ∀ {m : Nat} {ns : List Int}, ns.Nodup → ns.length = m → ∀ a ∈ perms m ns, a.Perm ns
  | 0, ns, _, hl, a, h => by
    rw [List.mem_singleton.mp h, List.eq_nil_of_length_eq_zero hl]
  | m + 1, ns, nd, hl, a, h => by
    obtain ⟨p, hp, h⟩ := List.mem_flatMap.mp h
    obtain ⟨b, hb, rfl⟩ := List.mem_map.mp h
    have fl := filter_one nd hp
    exact ((perms_perm (nd.filter _) (by omega) b hb).cons p).trans (filter_perm nd hp)
theorem perms_pos : ∀ {m : Nat} {ns : List Int}, ns.Nodup → ns.length = m → 0 < (perms m ns).length
  | 0, ns, _, hl => Nat.zero_lt_one
  | m + 1, ns, nd, hl => by
    cases ns with
    | nil => cases hl
    | cons n ns =>
      have fl := filter_one nd (List.mem_cons_self (a := n) (l := ns))
      have := perms_pos (m := m) (nd.filter fun o => !decide (o = n)) (by omega)
      show 0 < (((n :: ns).flatMap fun p => (perms m ((n :: ns).filter fun o => !decide (o = p))).map (p :: ·))).length
      rw [List.flatMap_cons, List.length_append, List.length_map]
      omega
theorem ordW_pos (ws : List Wr) : 0 < (ordW ws).length := by
  unfold ordW
  rw [List.length_map]
  exact perms_pos (rgI_nodup _) (rgI_len _)
theorem ordW_len {ws : List Wr} (h : ws.length ≤ 4) : (ordW ws).length ≤ 256 := by
  unfold ordW
  rw [List.length_map]
  exact perms_len _ _ (by rw [rgI_len]; exact h) h
theorem byP_all (ws : List Wr) : byP ws (rgI 0 ws.length) = ws := by
  unfold byP rgI
  rw [List.filterMap_map]
  have e : ((ws.length : Int) - 0).toNat = ws.length := by omega
  rw [e]
  apply List.ext_getElem?
  intro i
  have e2 : ((fun i : Int => ws[i.toNat]?) ∘ fun i : Nat => (0 : Int) + i) = fun i : Nat => ws[i]? := by
    funext i
    show ws[((0 : Int) + i).toNat]? = _
    congr 1
    omega
  rw [e2]
  congr 1
  clear e e2 i
  induction ws with
  | nil => rfl
  | cons a ws ih =>
    rw [List.length_cons, List.range_succ_eq_map, List.filterMap_cons]
    show a :: _ = _
    rw [List.filterMap_map]
    exact congrArg (a :: ·) ih
theorem ordW_perm {ws o : List Wr} (h : o ∈ ordW ws) : o.Perm ws := by
  obtain ⟨r, hr, rfl⟩ := List.mem_map.mp h
  have := (perms_perm (rgI_nodup _) (rgI_len _) r hr).filterMap fun i => ws[i.toNat]?
  have e := byP_all ws
  unfold byP at e
  rw [e] at this
  exact this
theorem StkOk.perm {b : Int} {ws o : List Wr} (h : StkOk b ws) (p : o.Perm ws) : StkOk b o :=
  ⟨h.b0, h.b1, fun a ha => h.ok a (p.mem_iff.mp ha), by rw [p.length_eq]; exact h.len, by
    have e : fineL o = fineL ws := by
      unfold fineL
      refine p.foldl_eq' (fun x _ y _ z => ?_) 1
      rw [step_use, step_use, step_use, step_use, Int.mul_assoc, Int.mul_comm x.use, ← Int.mul_assoc]
    rw [e]
    exact h.fine⟩
theorem ordW_ok {b : Int} {ws : List Wr} (h : StkOk b ws) {i : Nat} {o : List Wr} (e : (ordW ws)[i]? = some o) : StkOk b o := h.perm (ordW_perm (List.mem_of_getElem? e))
/-- the first place of the least one -/
def IsLeast (zs : List Int) (m : Int) (i : Nat) : Prop := (∀ z ∈ zs, m ≤ z) ∧ zs[i]? = some m ∧ ∀ (j : Nat) (z : Int), j < i → zs[j]? = some z → z ≠ m
theorem IsLeast.one {zs : List Int} {m m' : Int} {i i' : Nat} (h : IsLeast zs m i) (h' : IsLeast zs m' i') : m = m' ∧ i = i' := by
  have e : m = m' := by
    have h1 := h.1 m' (List.mem_of_getElem? h'.2.1)
    have h2 := h'.1 m (List.mem_of_getElem? h.2.1)
    omega
  subst e
  refine ⟨rfl, ?_⟩
  rcases Nat.lt_trichotomy i i' with c | c | c
  · exact absurd rfl (h'.2.2 i m c h.2.1)
  · exact c
  · exact absurd rfl (h.2.2 i' m c h'.2.1)
inductive StksAt (K : PySem.W.Frag) (H : Hp) (b : Int) : List V → List (List Wr) → Prop where
  | nil : StksAt K H b [] []
  | cons {p : Addr} {a : List Wr} {xs : List V} {ws : List (List Wr)} (h : StkAt K H p b a) (r : StksAt K H b xs ws) : StksAt K H b (.ref p :: xs) (a :: ws)
theorem StksAt.len {K : PySem.W.Frag} {H : Hp} {b : Int} {xs : List V} {ws : List (List Wr)} (h : StksAt K H b xs ws) : xs.length = ws.length := by
  induction h with
  | nil => rfl
  | cons _ _ ih => exact congrArg (· + 1) ih
theorem StksAt.get {K : PySem.W.Frag} {H : Hp} {b : Int} {xs : List V} {ws : List (List Wr)} (h : StksAt K H b xs ws) : ∀ {i : Nat} {x : V}, xs[i]? = some x → ∃ (p : Addr) (a : List Wr), x = .ref p ∧ ws[i]? = some a ∧ StkAt K H p b a := by
  induction h with
  | nil =>
    intro i x e
    simp at e
  | cons h _ ih =>
    intro i x e
    cases i with
    | zero =>
      simp at e
      exact ⟨_, _, e.symm, rfl, h⟩
    | succ i => exact ih (by simpa using e)
theorem StksAt.keeps {K : PySem.W.Frag} {H H' : Hp} {b : Int} {xs : List V} {ws : List (List Wr)} (h : StksAt K H b xs ws) (k : Keeps K H H') : StksAt K H' b xs ws := by
  induction h with
  | nil => exact .nil
  | cons h _ ih => exact .cons (h.keeps k) ih
theorem StksAt.snoc {K : PySem.W.Frag} {H : Hp} {b : Int} {xs : List V} {ws : List (List Wr)} {p : Addr} {a : List Wr} (h : StksAt K H b xs ws) (g : StkAt K H p b a) : StksAt K H b (xs ++ [.ref p]) (ws ++ [a]) := by
  induction h with
  | nil => exact .cons g .nil
  | cons h _ ih => exact .cons h ih
def spWraps4 (K : PySem.W.Frag) : Sp := fun vs H Q _ => ∃ (t : Addr) (xs : List V) (ws : List Wr), vs = [.ref t, .int 4] ∧ SqT K H t xs ∧ WrapsAt K H xs ws ∧ ws.length ≤ 4 ∧ ∀ H', Same H H' → Q .non H'
def spOrd (K : PySem.W.Frag) : Sp := fun vs H Q _ => ∃ (t : Addr) (xs : List V) (ws : List Wr), vs = [.ref t] ∧ H t = some (.tup xs) ∧ WrapsAt K H xs ws ∧ ws.length ≤ 4 ∧ ∀ H', Same H H' → Q .non H'
def spOrdS (K : PySem.W.Frag) : Sp := fun vs H Q _ => ∃ (t : Addr) (b : Int) (xs : List V) (ws : List Wr), vs = [.int b, .ref t] ∧ H t = some (.tup xs) ∧ WrapsAt K H xs ws ∧ ws.length ≤ 4 ∧ StkOk b ws ∧ ∀ q ys H', Same H H' → H' q = some (.lst ys) → StksAt K H' b ys (ordW ws) → Q (.ref q) H'
def spOrders (K : PySem.W.Frag) : Sp := fun vs H Q _ => ∃ (t : Addr) (b n : Int) (xs : List V) (ws : List Wr), vs = [.int b, .ref t, .int n] ∧ H t = some (.tup xs) ∧ WrapsAt K H xs ws ∧ ws.length ≤ 4 ∧ StkOk b ws ∧ 0 ≤ n ∧ n ≤ 10 ^ 60 - 1 ∧
  ∀ t2 q m i o H', Same H H' → H' t2 = some (.tup [.int m, .ref q]) → IsLeast ((ordW ws).map fun o => grS b o n) m i → (ordW ws)[i]? = some o → StkAt K H' q b o → Q (.ref t2) H'
section
variable {P : Program} {w : World} {K : PySem.W.Frag} {mg : Str → Option Value} {base : Heap}
theorem ok_check_wraps4 (T : Tx w K mg) : Prom P w K mg base CX0 1 "check_wraps" s_check_wraps ["values", "most"] (spWraps4 K) := by
  refine Prom.of T.d_check_wraps sc_check_wraps (fun vs H Q E h => ?_) (fun _ _ _ _ _ _ us hl => match us, hl with | [_, _], _ => rfl) (fun f cdv A outer s H vs Q E hr h => ?_)
  · obtain ⟨t, xs, ws, rfl, _⟩ := h
    rfl
  · obtain ⟨t, xs, ws, rfl, hT, hw, hl, k⟩ := h
    have hT' : ∀ {H' : Hp}, Same H H' → SqT K H' t xs := fun {H'} hs => by
      rcases hT with (h | ⟨o, h⟩) | h
      · exact .inl (.inl (hs _ _ h))
      · exact .inl (.inr ⟨o, hs _ _ h⟩)
      · exact .inr h
    have hlx := hw.len
    refine ⟨_, (pss_cons (ps_if (pt_cmp (pc_gt (pe_callB call_len_seq (by rfl) T.b_len (by decide +kernel) (pa_cons (pv 0) pa_nil)) (pv 1))) (pss_one ps_never) pss_nil)
      (pss_one (ps_for PassesOwn.never (by rfl) (pi_enumT (by rfl) T.b_enumerate (pa_cons (pv 0) pa_nil)) (pg_tup rfl (pgs_cons (pg_name (i := 2) sc_check_wraps.nd rfl (Or.inl rfl)) (pgs_cons (pg_name (i := 3) sc_check_wraps.nd rfl (Or.inl rfl)) pgs_nil))) (pss_one (ps_if (pt_not (pt_val (pe_callB call_isi (by rfl) T.b_isinstance (by decide +kernel) (pa_cons (pv 3) (pa_cons (pe_glob (v := .ref _) (by rfl) T.k_Wrap rfl) pa_nil))))) (pss_one ps_never) pss_nil))))), ?_⟩
    refine ⟨_, rfl, t, xs, rfl, .inr hT, _, rfl, _, _, rfl, rfl, _, rfl, ifd (fun c => absurd c (by show ¬ (4 : Int) < (xs.length : Int); omega)) (fun _ => ?_)⟩
    refine ⟨_, rfl, t, xs, rfl, hT, for_it (walk_enumT (K := K) (a := t) (xs := xs)) (fun i σ H' => Same H H' ∧ ∃ v1 v2, σ = [some (.ref t), some (.int 4), v1, v2]) ⟨Same.refl H, none, none, rfl⟩ (fun _ _ H' _ h => hT' h.1) ?_ ?_⟩
    · rintro i x σ H1 H2 hi ⟨hs, v1, v2, rfl⟩ ⟨t2, x1, x2, rfl, ht2, rfl, e1, e2⟩
      cases e1
      obtain ⟨q, a, rfl, hq, hw1⟩ := hw.get e2
      have hs2 := hs.trans (up (o := .tup [.int (i : Nat), .ref q]) ht2)
      obtain ⟨dx, p, h1, h2⟩ := hw1.same hs2
      refine ⟨t2, _, rfl, SqT.of upd_same, rfl, _, _, rfl, _, _, rfl, rfl, ?_⟩
      refine ⟨_, rfl, _, _, _, _, true, rfl, .own _, T.is_Wrap.ty h1, kit_self, true, rfl, iteF ?_⟩
      exact ⟨hs2, _, _, rfl⟩
    · rintro σ H' ⟨hs, v1, v2, rfl⟩
      exact k _ hs
theorem ok_check_ordered (T : Tx w K mg) : Prom P w K mg base CX0 2 "check_ordered" s_check_ordered ["wraps"] (spOrd K) := by
  refine Prom.of T.d_check_ordered sc_check_ordered (fun vs H Q E h => ?_) (fun _ _ _ _ _ _ us hl => match us, hl with | [_], _ => rfl) (fun f cdv A outer s H vs Q E hr h => ?_)
  · obtain ⟨t, xs, ws, rfl, _⟩ := h
    rfl
  · obtain ⟨t, xs, ws, rfl, hT, hw, hl, k⟩ := h
    refine ⟨_, (pss_cons (ps_if (pt_not (pt_val (pe_callB call_isi (by rfl) T.b_isinstance (by decide +kernel) (pa_cons (pv 0) (pa_cons (pe_bltn (v := .ty "tuple") (by rfl) T.b_tuple (by decide +kernel) rfl) pa_nil))))) (pss_one ps_never) pss_nil)
      (pss_one (ps_expr (pe_callP (ok_check_wraps4 T) (hr.mono (by decide)) (by rfl) pass0 (pa_cons (pv 0) (pa_cons (pe_gint T.c_MOST_ORDERED) pa_nil)))))), ?_⟩
    refine ⟨_, rfl, _, _, _, _, true, rfl, .ty _, .base (.tup hT), kit_self, true, rfl, iteF ?_⟩
    exact ⟨_, rfl, t, xs, ws, rfl, SqT.of hT, hw, hl, k⟩
theorem ok_ordered_stacks (T : Tx w K mg) : Prom P w K mg base CX0 7 "ordered_stacks" s_ordered_stacks ["base", "wraps"] (spOrdS K) := by
  refine Prom.of T.d_ordered_stacks sc_ordered_stacks (fun vs H Q E h => ?_) (fun _ _ _ _ _ _ us hl => match us, hl with | [_, _], _ => rfl) (fun f cdv A outer s H vs Q E hr h => ?_)
  · obtain ⟨t, b, xs, ws, rfl, _⟩ := h
    rfl
  · obtain ⟨t, b, xs, ws, rfl, ht, hw, h4, so, k⟩ := h
    have hlx := hw.len
    obtain ⟨n4, en⟩ : ∃ n4, n4 = ws.length := ⟨_, rfl⟩
    have n5 : n4 ≤ 4 := by omega
    refine ⟨_, (pss_cons (ps_set (i := 2) sc_ordered_stacks.nd rfl (Or.inl rfl) (pe_lst pa_nil))
      (pss_cons (ps_for PassesOwn.never (by rfl) (pi_list (pe_callP (ok_rows_of T n4) (hr.mono (by omega)) (by rfl) pass0 (pa_cons (pe_listA (by rfl) (by rfl) T.b_list (prg_1 (by rfl) T.b_range (pe_callB call_len_seq (by rfl) T.b_len (by decide +kernel) (pa_cons (pv 1) pa_nil)))) pa_nil))) (pg_name (i := 3) sc_ordered_stacks.nd rfl (Or.inl rfl)) (pss_cons (ps_setLc (i := 4) (own := [("place", 5)]) (g := (gName 5)) (tt := tYes) (by rfl) sc_ordered_stacks.nd rfl rfl (sw_true rfl rfl rfl (by decide +kernel)) (pi_list (pv 3)) (blkOk_by (own := [("place", 5)]) (N := ["base", "wraps", "stacks", "row", "ordered", "place"]) (sc := defScope s_ordered_stacks) (by decide +kernel)) (fun _ _ _ _ _ => (pg_name (i := 5) sc_ordered_stacks.nd rfl (Or.inl rfl))) (fun _ _ _ _ _ => pts_nil) (fun _ _ _ _ _ => (pe_ix (show IxR _ (rIxT K) from ix_tup) (pv 1) (pv 5) (fun _ _ => rfl))))
      (pss_one (ps_expr (pe_bm PySem.F.plainAttrs_list PySem.F.slot_list_append PySem.F.type_list_append mt_append (pv 2) (pa_cons (pe_newS (ok_Stack T) (hr.mono (by decide)) (by rfl) pass0 (pa_cons (pv 0) (StX.pa_star (pv 4) pa_nil))) pa_nil))))))
      (pss_one (ps_ret (pv 2))))), ?_⟩
    refine ⟨Nat.zero_le _, fun ls hls => ?_⟩
    refine ⟨_, rfl, t, xs, rfl, .inr (SqT.of (up hls _ _ ht)), _, rfl, ?_, fun l1 hl1 => ?_⟩
    · show ((xs.length : Int) - 0).toNat ≤ 1000000
      omega
    have v1 := (up (o := .lst []) hls).trans (up (o := .lst (rgV 0 xs.length)) hl1)
    have lsl : ls ≠ l1 := fun z => by rw [← z, upd_same] at hl1; cases hl1
    have e1 : rgV 0 (xs.length : Int) = (rgI 0 (n4 : Nat)).map V.int := by
      rw [hlx, ← en]
      exact rgV_eq _ _
    have hls1 : upd (upd H ls (.lst [])) l1 (.lst (rgV 0 (xs.length : Int))) ls = some (.lst []) := by rw [upd_ne lsl, upd_same]
    refine ⟨l1, _, rfl, by rw [← e1]; exact upd_same, rgI_nodup _, rgI_len _, n5, fun q2 xs2 H4 nq nx s4 hq2 hr2 => ⟨q2, rfl, ⟨_, SqL.of hq2⟩, ?_⟩⟩
    have qls : q2 ≠ ls := fun z => by rw [z, hls1] at nq; cases nq
    have hls4 := s4 _ _ hls1
    have s14 := v1.trans s4
    have ht4 := s14 _ _ ht
    have hw4 := hw.same s14
    have x2l := hr2.len
    have el : (perms n4 (rgI 0 n4)).length ≤ 256 := perms_len _ _ (by rw [rgI_len]; exact n5) n5
    generalize upd (upd H ls (.lst [])) l1 (.lst (rgV 0 (xs.length : Int))) = H3 at hls1 nq nx s4
    refine for_list (K := K) (a := q2) (xs := xs2) (fun i σ H' => Same H H' ∧ Kp ls H4 H' ∧ ∃ (ys : List V) (v3 v4 v5 : Option V), H' ls = some (.lst ys) ∧ StksAt K H' b ys ((ordW ws).take i) ∧ ys.length = i ∧ σ = [some (.int b), some (.ref t), some (.ref ls), v3, v4, v5]) ⟨s14, Kp.refl ls H4, [], none, none, none, hls4, .nil, rfl, rfl⟩ (fun i σ H' _ h => SqL.of (h.2.1 _ _ qls hq2)) ?_ ?_
    · rintro i x σ H5 hi ⟨hs, kp, ys, v3, v4, v5, hy, hst, yl, rfl⟩
      have il := (List.getElem?_eq_some_iff.mp hi).1
      obtain ⟨r, a, rfl, ha, hra⟩ := hr2.get hi
      have rls : r ≠ ls := fun z => by
        have := nx r (List.mem_of_getElem? hi)
        rw [z, hls1] at this
        cases this
      have hra5 := kp _ _ rls hra
      have ht5 := hs _ _ ht
      have hw5 := hw.same hs
      have am := List.mem_of_getElem? ha
      have apm := perms_perm (rgI_nodup n4) (rgI_len n4) a am
      have al : a.length = n4 := by rw [apm.length_eq, rgI_len]
      have eo : (ordW ws)[i]? = some (byP ws a) := by
        unfold ordW
        rw [List.getElem?_map, ← en, ha]
        rfl
      have so5 := ordW_ok so eo
      refine ⟨_, rfl, r, rfl, ⟨_, SqL.of hra5⟩, fun D hD => ?_⟩
      refine lc_list (K := K) (a := r) (xs := a.map V.int) (Pv := fun j H' => Same H5 H' ∧ ∃ zs, H' D = some (.lst zs) ∧ WrapsAt K H' zs (byP ws (a.take j)) ∧ zs.length = j) ⟨up hD, [], upd_same, .nil, rfl⟩ (fun j H' _ h => SqL.of (h.1 _ _ hra5)) ?_ ?_
      · rintro j x H6 hj ⟨hs6, zs, hd6, hz6, zl⟩
        obtain ⟨p, hp, rfl⟩ := int_at hj
        have jl := (List.getElem?_eq_some_iff.mp hp).1
        have pr := rgI_mem (apm.mem_iff.mp (List.mem_of_getElem? hp))
        have pl : p.toNat < xs.length := by omega
        obtain ⟨u, y, eu, hy6, hu⟩ := (hw5.same hs6).get (List.getElem?_eq_getElem pl)
        refine ⟨rfl, _, rfl, _, rfl, t, xs, p, _, rfl, rfl, SqT.of (hs6 _ _ ht5), at_of (j := p.toNat) (by omega) (by rw [List.getElem?_eq_getElem pl, eu]), ?_⟩
        refine ⟨zs, hd6, ?_, fun y o e => ?_, zs ++ [.ref u], upd_same, ?_, ?_⟩
        · rw [sizeLine_eq]
          omega
        · rw [upd_ne (ne_of_none e hD)]
          exact hs6 _ _ e
        · have e : byP ws (a.take (j + 1)) = byP ws (a.take j) ++ [y] := by
            unfold byP
            rw [List.take_succ, hp, List.filterMap_append]
            show _ ++ List.filterMap _ [p] = _
            rw [List.filterMap_cons, hy6]
            rfl
          rw [e]
          exact (hz6.snoc hu).keeps (Keeps.lst hd6)
        · rw [List.length_append, zl]
          rfl
      rintro H6 ⟨hs6, zs, hd6, hz6, zl⟩
      rw [List.length_map, List.take_length] at hz6
      refine nxt ?_
      refine ⟨_, rfl, .inl ⟨rfl, _, SqL.of (hs6 _ _ hy)⟩, _, rfl, _, rfl, D, _, rfl, .inr (SqL.of hd6), b, zs, byP ws a, by rw [List.append_nil], so5, hz6, fun q7 H7 hq7 s7 hst7 => ?_⟩
      have s67 := hs6.trans s7
      refine ⟨ls, ys, _, rfl, rfl, s67 _ _ hy, ?_, fun z o e => ?_, fun z o nz e => ?_, ys ++ [.ref q7], _, _, _, upd_same, ?_, ?_, rfl⟩
      · rw [sizeLine_eq]
        omega
      · rw [upd_ne (ne_of_none e hls)]
        exact s67 _ _ (hs _ _ e)
      · rw [upd_ne nz]
        exact s67 _ _ (kp _ _ nz e)
      · rw [List.take_succ, eo]
        exact ((hst.keeps (Keeps.same s67)).snoc hst7).keeps (Keeps.lst (s67 _ _ hy))
      · rw [List.length_append, yl]
        rfl
    · rintro σ H5 ⟨hs, kp, ys, v3, v4, v5, hy, hst, yl, rfl⟩
      have e : xs2.length = (ordW ws).length := by
        rw [x2l]
        unfold ordW
        rw [List.length_map, ← en]
      rw [e, List.take_length] at hst
      exact ⟨_, rfl, k ls ys H5 hs hy hst⟩
theorem ok_orders (T : Tx w K mg) : Prom P w K mg base CX0 8 "orders" s_orders ["base", "wraps", "length"] (spOrders K) := by
  refine Prom.of T.d_orders sc_orders (fun vs H Q E h => ?_) (fun _ _ _ _ _ _ us hl => match us, hl with | [_, _, _], _ => rfl) (fun f cdv A outer s H vs Q E hr h => ?_)
  · obtain ⟨t, b, n, xs, ws, rfl, _⟩ := h
    rfl
  · obtain ⟨t, b, n, xs, ws, rfl, ht, hw, h4, so, n0, n1, k⟩ := h
    refine ⟨_, (pss_cons (ps_expr (pe_callP (ok_check_base T) (hr.mono (by decide)) (by rfl) pass0 (pa_cons (pv 0) pa_nil)))
      (pss_cons (ps_expr (pe_callP (ok_check_ordered T) (hr.mono (by decide)) (by rfl) pass0 (pa_cons (pv 1) pa_nil)))
      (pss_cons (ps_expr (pe_callP (ok_check_length T) (hr.mono (by decide)) (by rfl) pass0 (pa_cons (pv 2) pa_nil)))
      (pss_cons (ps_set (i := 3) sc_orders.nd rfl (Or.inl rfl) (pe_callP (ok_ordered_stacks T) (hr.mono (by decide)) (by rfl) pass0 (pa_cons (pv 0) (pa_cons (pv 1) pa_nil))))
      (pss_cons (ps_set (i := 4) sc_orders.nd rfl (Or.inr rfl) (pe_callB (cr_min rfl) (by rfl) T.b_min (by decide +kernel) (pa_cons (pe_lc (own := [("stack", 5)]) (g := (gName 5)) (tt := tYes) (by rfl) sc_orders.nd (pi_list (pv 3)) (blkOk_by (own := [("stack", 5)]) (N := ["base", "wraps", "length", "stacks", "least", "stack"]) (sc := defScope s_orders) (by decide +kernel)) (fun _ _ _ _ _ => (pg_name (i := 5) sc_orders.nd rfl (Or.inl rfl))) (fun _ _ _ _ _ => pts_nil) (fun _ _ _ _ _ => (show PE _ _ (tMeth (He.ga K "Stack") "grown" _ [] _ _ _) from (pe_methP (ok_Stack_grown T) (hr.mono (by decide)) pass0 (pv 5) (pa_cons (pv 2) pa_nil))))) pa_nil)))
      (pss_one (ps_ret (pe_tup (pa_cons (pv 4) (pa_cons (pe_ix ix_list (pe_lc (own := [("stack", 5)]) (g := (gName 5)) (by rfl) sc_orders.nd (pi_list (pv 3)) (blkOk_by (own := [("stack", 5)]) (N := ["base", "wraps", "length", "stacks", "least", "stack"]) (sc := defScope s_orders) (by decide +kernel)) (fun _ _ _ _ _ => (pg_name (i := 5) sc_orders.nd rfl (Or.inl rfl))) (fun _ _ _ _ _ => pts_one (pt_cmp (pc_eqI (show PE _ _ (tMeth (He.ga K "Stack") "grown" _ [] _ _ _) from (pe_methP (ok_Stack_grown T) (hr.mono (by decide)) pass0 (pv 5) (pa_cons (pv 2) pa_nil))) (pv 4)))) (fun _ _ _ _ _ => (pv 5))) pe_int (fun _ _ => rfl)) pa_nil)))))))))), ?_⟩
    refine ⟨_, rfl, b, rfl, so.b0, so.b1, ?_⟩
    refine ⟨_, rfl, t, xs, ws, rfl, ht, hw, h4, fun H1 s1 => ?_⟩
    refine ⟨_, rfl, n, rfl, n0, n1, ?_⟩
    refine ⟨_, rfl, _, rfl, t, b, xs, ws, rfl, s1 _ _ ht, hw.same s1, h4, so, fun q ys H2 s2 hq hst => ?_⟩
    have yl := hst.len
    have o4 := ordW_len h4
    have nb : n < 2 ^ 1000 := Int.lt_of_le_of_lt n1 (by decide +kernel)
    refine ⟨_, rfl, q, rfl, ⟨_, SqL.of hq⟩, fun D hD => ?_⟩
    refine lc_list (K := K) (a := q) (xs := ys) (Pv := fun j H' => Same H2 H' ∧ H' D = some (.lst ((((ordW ws).map fun o => grS b o n).take j).map V.int))) ⟨up hD, upd_same⟩ (fun j H' _ h => SqL.of (h.1 _ _ hq)) ?_ ?_
    · rintro j x H3 hj ⟨hs3, hd3⟩
      obtain ⟨r, o, rfl, ho, hro⟩ := hst.get hj
      have hro3 := hro.same hs3
      obtain ⟨dx, tt, zs, hx, _⟩ := id hro3
      refine ⟨rfl, _, rfl, r, dx, _, rfl, hx, rfl, _, rfl, r, b, o, n, rfl, hro3, ordW_ok so ho, n0, nb, _, hd3, ?_, fun y u e => ?_, ?_⟩
      · rw [List.length_map, List.length_take, List.length_map, sizeLine_eq]
        omega
      · rw [upd_ne (ne_of_none e hD)]
        exact hs3 _ _ e
      · rw [upd_same, List.take_succ, List.getElem?_map, ho, List.map_append]
        rfl
    rintro H3 ⟨hs3, hd3⟩
    have e3 : ys.length = ((ordW ws).map fun o => grS b o n).length := by rw [List.length_map]; exact yl
    rw [e3, List.take_length] at hd3
    refine ⟨D, _, rfl, SqL.of hd3, by rw [List.length_map]; exact ordW_pos ws, fun m hm ml => ?_⟩
    have hq3 := hs3 _ _ hq
    have hst3 := hst.keeps (Keeps.same hs3)
    refine nxt ?_
    refine ⟨_, rfl, _, rfl, q, rfl, ⟨_, SqL.of hq3⟩, fun D2 hD2 => ?_⟩
    refine lc_list (K := K) (a := q) (xs := ys) (Pv := fun j H' => Same H3 H' ∧ ∃ zs, H' D2 = some (.lst zs) ∧ zs.length ≤ j ∧ ((zs = [] ∧ ∀ (j' : Nat) (o : List Wr), j' < j → (ordW ws)[j']? = some o → grS b o n ≠ m) ∨ ∃ (i : Nat) (o : List Wr) (r : Addr) (us : List V), zs = .ref r :: us ∧ (ordW ws)[i]? = some o ∧ grS b o n = m ∧ StkAt K H3 r b o ∧ ∀ (j' : Nat) (o : List Wr), j' < i → (ordW ws)[j']? = some o → grS b o n ≠ m)) ⟨up hD2, [], upd_same, Nat.le_refl _, .inl ⟨rfl, fun j' o h => absurd h (Nat.not_lt_zero _)⟩⟩ (fun j H' _ h => SqL.of (h.1 _ _ hq3)) ?_ ?_
    · rintro j x H4 hj ⟨hs4, zs, hd4, zl, hz⟩
      obtain ⟨r, o, rfl, ho, hro⟩ := hst3.get hj
      have hro4 := hro.same hs4
      obtain ⟨dx, tt, us, hx, _⟩ := id hro4
      have jl := (List.getElem?_eq_some_iff.mp hj).1
      refine ⟨rfl, _, rfl, r, dx, _, rfl, hx, rfl, _, rfl, r, b, o, n, rfl, hro4, ordW_ok so ho, n0, nb, _, rfl, _, _, rfl, rfl, _, rfl, ifd (fun c => ?_) (fun c => ?_)⟩
      · have c : grS b o n = m := c
        refine ⟨_, rfl, zs, hd4, by rw [sizeLine_eq]; omega, fun y u e => ?_, zs ++ [.ref r], upd_same, by rw [List.length_append]; show zs.length + 1 ≤ j + 1; omega, .inr ?_⟩
        · rw [upd_ne (ne_of_none e hD2)]
          exact hs4 _ _ e
        · rcases hz with ⟨rfl, hz⟩ | ⟨i, o', r', us', rfl, h1, h2, h3, h4⟩
          · exact ⟨j, o, r, [], rfl, ho, c, hro, hz⟩
          · exact ⟨i, o', r', us' ++ [.ref r], rfl, h1, h2, h3, h4⟩
      · have c : ¬ grS b o n = m := c
        refine ⟨hs4, zs, hd4, by omega, ?_⟩
        rcases hz with ⟨rfl, hz⟩ | hz
        · refine .inl ⟨rfl, fun j' o' h1 h2 => ?_⟩
          by_cases e : j' = j
          · rw [e, ho] at h2
            cases h2
            exact c
          · exact hz j' o' (by omega) h2
        · exact .inr hz
    rintro H4 ⟨hs4, zs, hd4, zl, hz⟩
    obtain ⟨o1, ho1, eo1⟩ := List.mem_map.mp hm
    obtain ⟨i1, hi1⟩ := List.getElem?_of_mem ho1
    have i1l := (List.getElem?_eq_some_iff.mp hi1).1
    obtain ⟨i, o, r, us, rfl, h1, h2, h3, h4⟩ : ∃ (i : Nat) (o : List Wr) (r : Addr) (us : List V), zs = .ref r :: us ∧ (ordW ws)[i]? = some o ∧ grS b o n = m ∧ StkAt K H3 r b o ∧ ∀ (j' : Nat) (o : List Wr), j' < i → (ordW ws)[j']? = some o → grS b o n ≠ m := by
      rcases hz with ⟨_, hz⟩ | hz
      · exact absurd eo1 (hz i1 o1 (by omega) hi1)
      · exact hz
    refine ⟨D2, _, _, .ref r, rfl, rfl, SqL.of hd4, at_of (j := 0) rfl rfl, (by show 2 ≤ sizeLine; decide), fun t2 ht2 => ?_⟩
    have sA := (s1.trans s2).trans (hs3.trans hs4)
    refine k t2 r m i o _ (sA.trans (up ht2)) upd_same ⟨fun z hz => ml z hz, ?_, fun j' z hj' hz => ?_⟩ h1 (h3.same (hs4.trans (up ht2)))
    · rw [List.getElem?_map, h1]
      exact congrArg some h2
    · rw [List.getElem?_map] at hz
      cases e : (ordW ws)[j']? with
      | none => rw [e] at hz; cases hz
      | some o' =>
        rw [e] at hz
        cases hz
        exact h4 j' o' hj' e
end
set_option pp.maxSteps 900
/-! ### the law of one bowl -/
inductive MatesAt (H : Hp) : List V → List (List Wr) → Prop where
  | nil : MatesAt H [] []
  | cons {p : Addr} {a : List Wr} {ys xs : List V} {ws : List (List Wr)} (h : H p = some (.lst ys)) (g : PlansAt H ys a) (r : MatesAt H xs ws) : MatesAt H (.ref p :: xs) (a :: ws)
theorem MatesAt.len {H : Hp} {xs : List V} {ws : List (List Wr)} (h : MatesAt H xs ws) : xs.length = ws.length := by
  induction h with
  | nil => rfl
  | cons _ _ _ ih => exact congrArg (· + 1) ih
theorem MatesAt.get {H : Hp} {xs : List V} {ws : List (List Wr)} (h : MatesAt H xs ws) : ∀ {i : Nat} {x : V}, xs[i]? = some x → ∃ (p : Addr) (ys : List V) (a : List Wr), x = .ref p ∧ ws[i]? = some a ∧ H p = some (.lst ys) ∧ PlansAt H ys a := by
  induction h with
  | nil =>
    intro i x e
    simp at e
  | cons h g _ ih =>
    intro i x e
    cases i with
    | zero =>
      simp at e
      exact ⟨_, _, _, e.symm, rfl, h, g⟩
    | succ i => exact ih (by simpa using e)
theorem MatesAt.same {H H' : Hp} {xs : List V} {ws : List (List Wr)} (h : MatesAt H xs ws) (s : Same H H') : MatesAt H' xs ws := by
  induction h with
  | nil => exact .nil
  | cons h g _ ih => exact .cons (s _ _ h) (g.same s) ih
theorem MatesAt.kp {H H' : Hp} {p : Addr} {xs : List V} {ws : List (List Wr)} (h : MatesAt H xs ws) (n : ∀ q, V.ref q ∈ xs → q ≠ p) (hp : ∀ q a, PlanAt H q a → q ≠ p) (k : Kp p H H') : MatesAt H' xs ws := by
  induction h with
  | nil => exact .nil
  | cons h g _ ih => exact .cons (k _ _ (n _ (List.mem_cons_self ..)) h) (g.kp fun q a hq _ => k _ _ (hp q a hq) hq) (ih fun q hq => n q (List.mem_cons_of_mem _ hq))
theorem MatesAt.snoc {H : Hp} {xs ys : List V} {ws : List (List Wr)} {p : Addr} {a : List Wr} (h : MatesAt H xs ws) (g : H p = some (.lst ys)) (g2 : PlansAt H ys a) : MatesAt H (xs ++ [.ref p]) (ws ++ [a]) := by
  induction h with
  | nil => exact .cons g g2 .nil
  | cons h h2 _ ih => exact .cons h h2 ih
theorem lst_np {H : Hp} {l p : Addr} {xs : List V} (hp : PurseAt H p) (hl : H l = some (.lst xs)) (hx : ∀ x ∈ xs, ∃ q, x = V.ref q) : l ≠ p := fun z => by
  obtain ⟨d, m, c, h, _⟩ := hp
  rw [z, h] at hl
  injection hl with hl
  injection hl with hl
  obtain ⟨q, e⟩ := hx (.int d) (by rw [← hl]; exact List.mem_cons_self ..)
  cases e
theorem PlansAt.refs {H : Hp} {xs : List V} {ws : List Wr} (h : PlansAt H xs ws) : ∀ x ∈ xs, ∃ q, x = V.ref q := fun x hx => by
  obtain ⟨i, hi⟩ := List.getElem?_of_mem hx
  obtain ⟨q, _, e, _⟩ := h.get hi
  exact ⟨q, e⟩
theorem MatesAt.refs {H : Hp} {xs : List V} {ws : List (List Wr)} (h : MatesAt H xs ws) : ∀ x ∈ xs, ∃ q, x = V.ref q := fun x hx => by
  obtain ⟨i, hi⟩ := List.getElem?_of_mem hx
  obtain ⟨q, _, _, e, _⟩ := h.get hi
  exact ⟨q, e⟩
theorem MatesAt.np {H : Hp} {p : Addr} {xs : List V} {ws : List (List Wr)} (h : MatesAt H xs ws) (hp : PurseAt H p) (q : Addr) (m : V.ref q ∈ xs) : q ≠ p := by
  obtain ⟨i, hi⟩ := List.getElem?_of_mem m
  obtain ⟨q', ys, a, e, _, h1, h2⟩ := h.get hi
  cases e
  exact lst_np hp h1 h2.refs
theorem Drew.keepsB {K : PySem.W.Frag} {p : Addr} {H H1 : Hp} (d : Drew p H H1) (hp : PurseAt H p) : Keeps K H H1 := by
  obtain ⟨_, _, _, hl, _⟩ := hp
  exact ⟨fun {q xs} e => d.kp _ _ (fun z => by rw [z, hl] at e; cases e) e, fun {q xs fs} e => d.kp _ _ (fun z => by rw [z, hl] at e; cases e) e, fun {q xs fs} e => d.kp _ _ (fun z => by rw [z, hl] at e; cases e) e⟩
theorem least_shown {b n m : Int} {ws o : List Wr} {i : Nat} (so : StkOk b ws) (n0 : 0 ≤ n) (n1 : n ≤ 10 ^ 60 - 1) (h : IsLeast ((ordW ws).map fun o => grS b o n) m i) (ho : (ordW ws)[i]? = some o) : flatShown (.int m) = some (toString m) := by
  have e := h.2.1
  rw [List.getElem?_map, ho] at e
  have e : grS b o n = m := Option.some.inj e
  have so2 := ordW_ok so ho
  obtain ⟨g0, g1⟩ := grS_pow so2.b0 _ so2.ok (n := n) (k := 200) (by decide) n0 (Int.lt_of_le_of_lt n1 (by decide))
  have l6 := so2.len
  have g2 : grS b o n < 2 ^ 248 := Int.lt_of_lt_of_le g1 (pow_mono (by decide) (by omega))
  rw [e] at g0 g2
  refine if_pos ?_
  have : m.natAbs < 2 ^ 248 := by omega
  exact Nat.lt_of_lt_of_le (PySem.Flt.log2_lt_of (by decide) this) (by decide)
theorem eqv_strs {K : PySem.W.Frag} {H : Hp} : ∀ ws : List Wr, Paired (EqV K H 1) (ws.map fun a => V.str a.text) (ws.map fun a => V.str a.text)
  | [] => .nil
  | a :: ws => .cons (.inl ⟨rfl, rfl⟩) (eqv_strs ws)
theorem ifne {c : Prop} {A B : Prop} [Decidable c] (h : c) (b : B) : if (!decide c) = true then A else B := ifn (fun z => absurd h z) fun _ => b
structure J34 (K : PySem.W.Frag) (p l D t : Addr) (xs zs us : List V) (ws : List Wr) (H : Hp) : Prop where
  hp : PurseAt H p
  hl : H l = some (.lst xs)
  hw : PlansAt H xs ws
  hd : H D = some (.lst zs)
  hz : MatesAt H zs (ordW ws)
  ht : H t = some (.tup us)
  hu : WrapsAt K H us ws
theorem J34.same {K : PySem.W.Frag} {p l D t : Addr} {xs zs us : List V} {ws : List Wr} {H H' : Hp} (j : J34 K p l D t xs zs us ws H) (s : Same H H') : J34 K p l D t xs zs us ws H' :=
  ⟨((Drew.refl j.hp).same s).at_, s _ _ j.hl, j.hw.same s, s _ _ j.hd, j.hz.same s, s _ _ j.ht, j.hu.same s⟩
theorem J34.drew {K : PySem.W.Frag} {p l D t : Addr} {xs zs us : List V} {ws : List Wr} {H H' : Hp} (j : J34 K p l D t xs zs us ws H) (d : Drew p H H') : J34 K p l D t xs zs us ws H' :=
  ⟨d.at_, d.kp _ _ (lst_np j.hp j.hl j.hw.refs) j.hl, d.plans j.hp j.hw, d.kp _ _ (lst_np j.hp j.hd j.hz.refs) j.hd, j.hz.kp (j.hz.np j.hp) (fun q a hq => plan_np hq j.hp) d.kp, (d.keepsB (K := K) j.hp).tup j.ht, j.hu.keeps (d.keepsB j.hp)⟩
section
variable {P : Program} {w : World} {K : PySem.W.Frag} {mg : Str → Option Value} {base : Heap}
theorem ok_L_right (T : Tx w K mg) : Prom P w K mg base CX0 9 "_law_right" s_L_right ["_law_bowl_here"] spRight := by
  refine Prom.of T.d_L_right sc_L_right (fun vs H Q E h => ?_) (fun _ _ _ _ _ _ us hl => match us, hl with | [_], _ => rfl) (fun f cdv A outer s H vs Q E hr h => ?_)
  · obtain ⟨p, rfl, _⟩ := h
    rfl
  · obtain ⟨p, rfl, hp, k⟩ := h
    refine ⟨_, (pss_cons (ps_set (i := 1) sc_L_right.nd rfl (Or.inr rfl) (pe_callP (ok_L_root T) (hr.mono (by decide)) (by rfl) pass0 (pa_cons (pv 0) pa_nil)))
      (pss_cons (ps_set (i := 2) sc_L_right.nd rfl (Or.inr rfl) (pe_callP (ok_L_handful T) (hr.mono (by decide)) (by rfl) pass0 (pa_cons (pv 0) (pa_cons (pv 1) (pa_cons pe_int pa_nil)))))
      (pss_cons (ps_setLc (i := 3) (own := [("_law_order", 10)]) (g := (gName 10)) (tt := tYes) (by rfl) sc_L_right.nd rfl rfl (sw_true rfl rfl rfl (by decide +kernel)) (pi_list (pe_callP (ok_turnsA T) (hr.mono (by decide)) (by rfl) pass0 (pa_cons (pe_listA (by rfl) (by rfl) T.b_list (prg_1 (by rfl) T.b_range (pe_callB call_len_seq (by rfl) T.b_len (by decide +kernel) (pa_cons (pv 2) pa_nil)))) pa_nil))) (blkOk_by (own := [("_law_order", 10)]) (N := ["_law_bowl_here", "_law_root_here", "_law_plans", "_law_mates", "_law_handed", "_law_n", "_law_sizes_here", "_law_least", "_law_told", "_law_again", "_law_order", "_law_at", "_law_plan_here", "_law_k", "_law_mate", "_law_thing"]) (sc := defScope s_L_right) (by decide +kernel)) (fun _ _ _ _ _ => (pg_name (i := 10) sc_L_right.nd rfl (Or.inl rfl))) (fun _ _ _ _ _ => pts_nil) (fun _ _ _ _ _ => (pe_lc (own := [("_law_at", 11)]) (g := (gName 11)) (tt := tYes) (by rfl) sc_L_right.nd (show PI _ _ _ (iList K _) from pi_list (pv 10)) (blkOk_by (own := [("_law_at", 11)]) (N := ["_law_bowl_here", "_law_root_here", "_law_plans", "_law_mates", "_law_handed", "_law_n", "_law_sizes_here", "_law_least", "_law_told", "_law_again", "_law_order", "_law_at", "_law_plan_here", "_law_k", "_law_mate", "_law_thing"]) (sc := relS { kind := .function, names := [(".0", .local), ("_law_order", .local), ("_law_plans", .free)], isGenerator := false, isCoroutine := false } (defScope s_L_right)) (by decide +kernel)) (fun _ _ _ _ _ => (pg_name (i := 11) sc_L_right.nd rfl (Or.inl rfl))) (fun _ _ _ _ _ => pts_nil) (fun _ _ _ _ _ => (pe_ix (show IxR _ (rIxL K) from ix_list) (pv 2) (pv 11) (fun _ _ => rfl))))))
      (pss_cons (ps_set (i := 4) sc_L_right.nd rfl (Or.inl rfl) (pe_callTy call_tuple_of (by rfl) T.b_tuple (by decide +kernel) (pa_cons (pe_lc (own := [("_law_plan_here", 12)]) (g := (gName 12)) (tt := tYes) (by rfl) sc_L_right.nd (pi_list (pv 2)) (blkOk_by (own := [("_law_plan_here", 12)]) (N := ["_law_bowl_here", "_law_root_here", "_law_plans", "_law_mates", "_law_handed", "_law_n", "_law_sizes_here", "_law_least", "_law_told", "_law_again", "_law_order", "_law_at", "_law_plan_here", "_law_k", "_law_mate", "_law_thing"]) (sc := defScope s_L_right) (by decide +kernel)) (fun _ _ _ _ _ => (pg_name (i := 12) sc_L_right.nd rfl (Or.inl rfl))) (fun _ _ _ _ _ => pts_nil) (fun _ _ _ _ _ => (pe_callP (ok_L_wrap T) (hr.mono (by decide)) (by rfl) pass0 (pa_cons (pv 12) pa_nil)))) pa_nil)))
      (pss_cons (ps_for PassesOwn.never (by rfl) (pi_list (pe_op op_cat (pe_lst (pa_cons pe_int (pa_cons pe_int (pa_cons (pe_callP (ok_L_scoop T) (hr.mono (by decide)) (by rfl) pass0 (pa_cons (pv 0) (pa_cons pe_int pa_nil))) (pa_cons (pe_callP (ok_L_scoop T) (hr.mono (by decide)) (by rfl) pass0 (pa_cons (pv 0) (pa_cons pe_int pa_nil))) pa_nil))))) (pe_lc (own := [("_law_k", 13)]) (g := (gName 13)) (tt := tYes) (by rfl) sc_L_right.nd (pi_range1 (by rfl) T.b_range (pa_cons pe_int pa_nil)) (blkOk_by (own := [("_law_k", 13)]) (N := ["_law_bowl_here", "_law_root_here", "_law_plans", "_law_mates", "_law_handed", "_law_n", "_law_sizes_here", "_law_least", "_law_told", "_law_again", "_law_order", "_law_at", "_law_plan_here", "_law_k", "_law_mate", "_law_thing"]) (sc := defScope s_L_right) (by decide +kernel)) (fun _ _ _ _ _ => (pg_name (i := 13) sc_L_right.nd rfl (Or.inl rfl))) (fun _ _ _ _ _ => pts_nil) (fun _ _ _ _ _ => (pe_callP (ok_L_far T) (hr.mono (by decide)) (by rfl) pass0 (pa_cons (pv 0) (pa_cons (pv 1) pa_nil))))))) (pg_name (i := 5) sc_L_right.nd rfl (Or.inr rfl)) (pss_cons (ps_setLc (i := 6) (own := [("_law_mate", 14)]) (g := (gName 14)) (tt := tYes) (by rfl) sc_L_right.nd rfl rfl (sw_true rfl rfl rfl (by decide +kernel)) (pi_list (pv 3)) (blkOk_by (own := [("_law_mate", 14)]) (N := ["_law_bowl_here", "_law_root_here", "_law_plans", "_law_mates", "_law_handed", "_law_n", "_law_sizes_here", "_law_least", "_law_told", "_law_again", "_law_order", "_law_at", "_law_plan_here", "_law_k", "_law_mate", "_law_thing"]) (sc := defScope s_L_right) (by decide +kernel)) (fun _ _ _ _ _ => (pg_name (i := 14) sc_L_right.nd rfl (Or.inl rfl))) (fun _ _ _ _ _ => pts_nil) (fun _ _ _ _ _ => (pe_callP (ok_L_size T) (hr.mono (by decide)) (by rfl) pass0 (pa_cons (pv 1) (pa_cons (pv 14) (pa_cons (pv 5) pa_nil))))))
      (pss_cons (ps_set (i := 7) sc_L_right.nd rfl (Or.inl rfl) (pe_callB (cr_min rfl) (by rfl) T.b_min (by decide +kernel) (pa_cons (pv 6) pa_nil)))
      (pss_cons (ps_set (i := 8) sc_L_right.nd rfl (Or.inl rfl) (pe_callP (ok_orders T) (hr.mono (by decide)) (by rfl) pass0 (pa_cons (pv 1) (pa_cons (pv 4) (pa_cons (pv 5) pa_nil)))))
      (pss_cons (ps_if (PW.pt (pw_or (pt_not (pt_val (pe_callB call_isi (by rfl) T.b_isinstance (by decide +kernel) (pa_cons (pv 8) (pa_cons (pe_bltn (v := .ty "tuple") (by rfl) T.b_tuple (by decide +kernel) rfl) pa_nil))))) (pw_or (pt_cmp (pc_neI (pe_callB call_len_seq (by rfl) T.b_len (by decide +kernel) (pa_cons (pv 8) pa_nil)) pe_int)) (pw_or1 (pt_cmpR op_ne (pe_callB cr_repr (by rfl) T.b_repr (by decide +kernel) (pa_cons (pe_ix ix_tup (pv 8) pe_int (fun _ _ => rfl)) pa_nil)) (pe_callB cr_repr (by rfl) T.b_repr (by decide +kernel) (pa_cons (pv 7) pa_nil)) (nomark _)))))) (pss_one (ps_ret pe_bl)) pss_nil)
      (pss_one (ps_if (PW.pt (pw_or (pt_not (pt_val (pe_callB call_isi (by rfl) T.b_isinstance (by decide +kernel) (pa_cons (pe_ix ix_tup (pv 8) pe_int (fun _ _ => rfl)) (pa_cons (pe_glob (v := .ref _) (by rfl) T.k_Stack rfl) pa_nil))))) (pw_or1 (pt_cmpR op_ne (pe_callTy (cr_strO (ok_Stack___str__ T) (hr.mono (by decide)) pass0) (by rfl) T.b_str (by decide +kernel) (pa_cons (pe_ix ix_tup (pv 8) pe_int (fun _ _ => rfl)) pa_nil)) (pe_callP (ok_L_rows T) (hr.mono (by decide)) (by rfl) pass0 (pa_cons (pv 1) (pa_cons (pe_ix ix_list (pv 3) (pe_bm PySem.F.plainAttrs_list PySem.F.slot_list_index PySem.F.type_list_index mt_index (pv 6) (pa_cons (pv 7) pa_nil)) (fun _ _ => rfl)) pa_nil))) (nomark _))))) (pss_one (ps_ret pe_bl)) pss_nil)))))))
      (pss_cons (ps_set (i := 9) sc_L_right.nd rfl (Or.inl rfl) (pe_callKP (ok_orders T) (hr.mono (by decide)) (by rfl) (ks := ["length", "wraps", "base"]) (kb_of [2, 1, 0] (by decide) (fun _ _ _ _ _ _ ws hl => match ws, hl with | [_, _, _], _ => rfl)) pass0 (pk_cons (pv 5) (pk_cons (pv 4) (pk_cons (pv 1) pk_nil)))))
      (pss_cons (ps_if (PW.pt (pw_or (pt_cmpR op_ne (pe_callB cr_repr (by rfl) T.b_repr (by decide +kernel) (pa_cons (pe_ix ix_tup (pv 9) pe_int (fun _ _ => rfl)) pa_nil)) (pe_callB cr_repr (by rfl) T.b_repr (by decide +kernel) (pa_cons (pv 7) pa_nil)) (nomark _)) (pw_or1 (pt_cmpR op_ne (pe_callTy (cr_strO (ok_Stack___str__ T) (hr.mono (by decide)) pass0) (by rfl) T.b_str (by decide +kernel) (pa_cons (pe_ix ix_tup (pv 9) pe_int (fun _ _ => rfl)) pa_nil)) (pe_callTy (cr_strO (ok_Stack___str__ T) (hr.mono (by decide)) pass0) (by rfl) T.b_str (by decide +kernel) (pa_cons (pe_ix ix_tup (pv 8) pe_int (fun _ _ => rfl)) pa_nil)) (nomark _))))) (pss_one (ps_ret pe_bl)) pss_nil)
      (pss_one (ps_ret (pe_cmpR (op_eqV hr.units) (pe_lc (own := [("_law_thing", 15)]) (g := (gName 15)) (tt := tYes) (by rfl) sc_L_right.nd (pi_tup (pv 4)) (blkOk_by (own := [("_law_thing", 15)]) (N := ["_law_bowl_here", "_law_root_here", "_law_plans", "_law_mates", "_law_handed", "_law_n", "_law_sizes_here", "_law_least", "_law_told", "_law_again", "_law_order", "_law_at", "_law_plan_here", "_law_k", "_law_mate", "_law_thing"]) (sc := defScope s_L_right) (by decide +kernel)) (fun _ _ _ _ _ => (pg_name (i := 15) sc_L_right.nd rfl (Or.inl rfl))) (fun _ _ _ _ _ => pts_nil) (fun _ _ _ _ _ => (pe_callTy (show CallR _ (.type "str") (fun xs H Q => ∃ p dx fs, xs = [V.ref p] ∧ H p = some (HO.ins (He.ga K "Wrap") dx fs) ∧ spWStr K [V.ref p] H (fun v H2 => ∃ y, v = V.str y ∧ Q (V.str y) H2) E0) from cr_strO (ok_Wrap___str__ T) (hr.mono (by decide)) pass0) (by rfl) T.b_str (by decide +kernel) (pa_cons (pv 15) pa_nil)))) (pe_lc (own := [("_law_plan_here", 12)]) (g := (gName 12)) (tt := tYes) (by rfl) sc_L_right.nd (pi_list (pv 2)) (blkOk_by (own := [("_law_plan_here", 12)]) (N := ["_law_bowl_here", "_law_root_here", "_law_plans", "_law_mates", "_law_handed", "_law_n", "_law_sizes_here", "_law_least", "_law_told", "_law_again", "_law_order", "_law_at", "_law_plan_here", "_law_k", "_law_mate", "_law_thing"]) (sc := defScope s_L_right) (by decide +kernel)) (fun _ _ _ _ _ => (pg_name (i := 12) sc_L_right.nd rfl (Or.inl rfl))) (fun _ _ _ _ _ => pts_nil) (fun _ _ _ _ _ => (pe_callP (ok_L_words T) (hr.mono (by decide)) (by rfl) pass0 (pa_cons (pv 12) pa_nil)))) (nomark _))))))))))), ?_⟩
    refine ⟨_, rfl, p, rfl, hp, fun b H1 b0 b1 d1 => ?_⟩
    refine ⟨_, rfl, _, rfl, p, b, 4, rfl, d1.at_, b0, b1, by decide, by decide, fun l xs ws H2 ok hl hf nl d2 hl2 hw => ?_⟩
    have D2 := d1.trans d2
    have so : StkOk b ws := ⟨b0, b1, ok, by omega, hf⟩
    have hlx := hw.len
    refine ⟨_, rfl, l, xs, rfl, .inl (SqL.of hl2), _, rfl, ?_, fun l1 hl1 => ?_⟩
    · show ((xs.length : Int) - 0).toNat ≤ 1000000
      omega
    have e1 : rgV 0 (xs.length : Int) = (rgI 0 (ws.length : Nat)).map V.int := by
      rw [hlx]
      exact rgV_eq _ _
    have v1 := up (o := .lst (rgV 0 (xs.length : Int))) hl1
    refine ⟨ws.length, by omega, l1, _, rfl, by rw [← e1]; exact upd_same, rgI_nodup _, rgI_len _, by omega, fun q3 xs3 H3 nq3 nx3 s3 hq3 hr3 => ⟨q3, rfl, ⟨_, SqL.of hq3⟩, fun D hD => ?_⟩⟩
    have s13 := v1.trans s3
    have hl3 := s13 _ _ hl2
    have hw3 := hw.same s13
    have x3l := hr3.len
    have o4 := ordW_len (ws := ws) (by omega)
    have ol : (ordW ws).length = xs3.length := by
      rw [x3l]
      unfold ordW
      rw [List.length_map]
    refine lc_list (K := K) (a := q3) (xs := xs3) (Pv := fun j H' => Same H3 H' ∧ ∃ zs, H' D = some (.lst zs) ∧ MatesAt H' zs ((ordW ws).take j) ∧ (∀ q, V.ref q ∈ zs → q ≠ D) ∧ zs.length = j) ⟨up hD, [], upd_same, .nil, fun q h => absurd h (by simp), rfl⟩ (fun j H' _ h => SqL.of (h.1 _ _ hq3)) ?_ ?_
    · rintro i x H4 hi ⟨hs4, zs, hd4, hz4, nz4, zl⟩
      have il := (List.getElem?_eq_some_iff.mp hi).1
      obtain ⟨r, a, rfl, ha, hra⟩ := hr3.get hi
      have hra4 := hs4 _ _ hra
      have am := List.mem_of_getElem? ha
      have apm := perms_perm (rgI_nodup _) (rgI_len _) a am
      have al : a.length = ws.length := by rw [apm.length_eq, rgI_len]
      have eo : (ordW ws)[i]? = some (byP ws a) := by
        unfold ordW
        rw [List.getElem?_map, ha]
        rfl
      have hl4 := hs4 _ _ hl3
      have hw4 := hw3.same hs4
      refine ⟨rfl, _, rfl, r, rfl, ⟨_, SqL.of hra4⟩, fun G hG => ?_⟩
      refine lc_list (K := K) (a := r) (xs := a.map V.int) (Pv := fun j H' => Same H4 H' ∧ ∃ us, H' G = some (.lst us) ∧ PlansAt H' us (byP ws (a.take j)) ∧ us.length = j) ⟨up hG, [], upd_same, .nil, rfl⟩ (fun j H' _ h => SqL.of (h.1 _ _ hra4)) ?_ ?_
      · rintro j x H5 hj ⟨hs5, us, hd5, hu5, ul⟩
        obtain ⟨o, ho, rfl⟩ := int_at hj
        have jl := (List.getElem?_eq_some_iff.mp ho).1
        have pr := rgI_mem (apm.mem_iff.mp (List.mem_of_getElem? ho))
        have pl : o.toNat < xs.length := by omega
        obtain ⟨u, y, eu, hy6, hu⟩ := (hw4.same hs5).get (List.getElem?_eq_getElem pl)
        refine ⟨rfl, _, rfl, _, rfl, l, xs, o, _, rfl, rfl, SqL.of (hs5 _ _ hl4), at_of (j := o.toNat) (by omega) (by rw [List.getElem?_eq_getElem pl, eu]), ?_⟩
        refine ⟨us, hd5, ?_, fun y o e => ?_, us ++ [.ref u], upd_same, ?_, ?_⟩
        · rw [sizeLine_eq]
          omega
        · rw [upd_ne (ne_of_none e hG)]
          exact hs5 _ _ e
        · have e : byP ws (a.take (j + 1)) = byP ws (a.take j) ++ [y] := by
            unfold byP
            rw [List.take_succ, ho, List.filterMap_append]
            show _ ++ List.filterMap _ [o] = _
            rw [List.filterMap_cons, hy6]
            rfl
          rw [e]
          exact (hu5.snoc hu).put hd5 hu5
        · rw [List.length_append, ul]
          rfl
      rintro H5 ⟨hs5, us, hd5, hu5, ul⟩
      rw [List.length_map, List.take_length] at hu5
      have hd45 := hs5 _ _ hd4
      have GD : G ≠ D := fun z => by rw [z, hd4] at hG; cases hG
      have pD : ∀ q a, PlanAt H5 q a → q ≠ D := fun q a hq z => by
        have hq : H5 q = _ := hq
        rw [z, hd45] at hq
        injection hq with hq
        injection hq with hq
        have hz5 := hz4.same hs5
        rw [hq] at hz5
        cases hz5
      refine ⟨zs, hd45, ?_, fun y o e => ?_, zs ++ [.ref G], upd_same, ?_, ?_, ?_⟩
      · rw [sizeLine_eq]
        omega
      · rw [upd_ne (ne_of_none e hD)]
        exact hs5 _ _ (hs4 _ _ e)
      · rw [List.take_succ, eo]
        exact ((hz4.same hs5).snoc hd5 hu5).kp (p := D) (fun q hq => by
          rcases List.mem_append.mp hq with z | z
          · exact nz4 q z
          · have z := List.mem_singleton.mp z
            injection z with z
            rw [z]
            exact GD) pD (fun z o nz e => by rw [upd_ne nz]; exact e)
      · intro q hq
        rcases List.mem_append.mp hq with z | z
        · exact nz4 q z
        · have z := List.mem_singleton.mp z
          injection z with z
          rw [z]
          exact GD
      · rw [List.length_append, zl]
        rfl
    rintro H4 ⟨hs4, zs, hd4, hz4, _, zl⟩
    rw [← ol, List.take_length] at hz4
    refine nxt ?_
    refine st_eq [some (.ref p), some (.int b), some (.ref l), some (.ref D), none, none, none, none, none, none, none, none, none, none, none, none] rfl ?_
    have hl4 := hs4 _ _ hl3
    have hw4 := hw3.same hs4
    have D4 : Drew p H H4 := D2.same (s13.trans hs4)
    refine ⟨_, rfl, l, rfl, ⟨_, SqL.of hl4⟩, fun G hG => ?_⟩
    refine lc_list (K := K) (a := l) (xs := xs) (Pv := fun j H' => Same H4 H' ∧ ∃ us, H' G = some (.lst us) ∧ WrapsAt K H' us (ws.take j) ∧ us.length = j) ⟨up hG, [], upd_same, .nil, rfl⟩ (fun j H' _ h => SqL.of (h.1 _ _ hl4)) ?_ ?_
    · rintro j x H5 hj ⟨hs5, us, hd5, hu5, ul⟩
      have jl := (List.getElem?_eq_some_iff.mp hj).1
      obtain ⟨u, a, rfl, ha, hu⟩ := (hw4.same hs5).get hj
      refine ⟨rfl, _, rfl, u, a, rfl, hu, ok a (List.mem_of_getElem? ha), fun r H6 nr s6 hr6 => ?_⟩
      refine ⟨us, s6 _ _ hd5, ?_, fun y o e => ?_, us ++ [.ref r], upd_same, ?_, ?_⟩
      · rw [sizeLine_eq]
        omega
      · rw [upd_ne (ne_of_none e hG)]
        exact s6 _ _ (hs5 _ _ e)
      · rw [List.take_succ, ha]
        exact ((hu5.same s6).snoc hr6).keeps (Keeps.lst (s6 _ _ hd5))
      · rw [List.length_append, ul]
        rfl
    rintro H5 ⟨hs5, us, hd5, hu5, ul⟩
    rw [hlx, List.take_length] at hu5
    refine ⟨G, us, rfl, .inl ⟨SqL.of hd5, fun t ht => ?_⟩⟩
    have s45 := hs5.trans (up (o := .tup us) ht)
    have ht6 : upd H5 t (.tup us) t = some (.tup us) := upd_same
    have hl6 := s45 _ _ hl4
    have hw6 := hw4.same s45
    have hd6 := s45 _ _ hd4
    have hz6 := hz4.same s45
    have hu6 := hu5.same (up (o := .tup us) ht)
    have D6 := D4.same s45
    have j6 : J34 K p l D t xs zs us ws (upd H5 t (.tup us)) := ⟨D6.at_, hl6, hw6, hd6, hz6, ht6, hu6⟩
    generalize upd H5 t (.tup us) = H6 at D6 j6 ⊢
    clear ht6 hl6 hw6 hd6 hz6 hu6
    refine nxt ?_
    refine st_eq [some (.ref p), some (.int b), some (.ref l), some (.ref D), some (.ref t), none, none, none, none, none, none, none, none, none, none, none] rfl ?_
    refine ⟨_, rfl, p, 100, rfl, D6.at_, by decide, by decide, fun c1 H7 c10 c11 d7 => ?_⟩
    refine ⟨_, rfl, p, 1000, rfl, d7.at_, by decide, by decide, fun c2 H8 c20 c21 d8 => ?_⟩
    refine ⟨(by show 4 ≤ sizeLine; decide), fun l8 hl8 => ?_⟩
    have d68 : Drew p H6 (upd H8 l8 (.lst [.int 0, .int 1, .int c1, .int c2])) := (d7.trans d8).new hl8
    have hl8' : upd H8 l8 (.lst [.int 0, .int 1, .int c1, .int c2]) l8 = some (.lst [.int 0, .int 1, .int c1, .int c2]) := upd_same
    have l8p : l8 ≠ p := fun z => by
      obtain ⟨_, _, _, e, _⟩ := d8.at_
      rw [← z, hl8] at e
      cases e
    generalize upd H8 l8 (.lst [.int 0, .int 1, .int c1, .int c2]) = HA at d68 hl8' ⊢
    refine ⟨8, rfl, by decide, by decide, fun F hF => ?_⟩
    have Fp : F ≠ p := fun z => by
      obtain ⟨_, _, _, e, _⟩ := d68.at_
      rw [← z, hF] at e
      cases e
    refine lc_range (lo := 0) (Pv := fun i H' => Drew p HA H' ∧ ∃ ns : List Int, H' F = some (.lst (ns.map V.int)) ∧ ns.length = i ∧ ∀ n ∈ ns, 0 ≤ n ∧ n ≤ 10 ^ 60 - 1) ⟨(Drew.refl d68.at_).new hF, [], upd_same, rfl, fun n h => absurd h (by simp)⟩ ?_ ?_
    · rintro i H' hi ⟨hs, ns, hf, nl, nb⟩
      refine ⟨rfl, _, rfl, _, rfl, p, b, rfl, hs.at_, b0, b1, fun r HB r0 r1 dB => ?_⟩
      refine ⟨_, dB.kp _ _ Fp hf, ?_, (hs.trans dB).putB hF Fp, ns ++ [r], ?_, ?_, fun n hn => ?_⟩
      · rw [List.length_map, sizeLine_eq]
        omega
      · rw [upd_same, List.map_append]
        rfl
      · rw [List.length_append, nl]
        rfl
      · rcases List.mem_append.mp hn with z | z
        · exact nb n z
        · rw [List.mem_singleton.mp z]
          exact ⟨r0, r1⟩
    rintro HB ⟨dB, ns, hf, nl, nb⟩
    refine ⟨l8, F, _, _, rfl, rfl, dB.kp _ _ l8p hl8', hf, ?_, fun l9 hl9 => ?_⟩
    · rw [List.length_map, sizeLine_eq]
      show 4 + _ ≤ _
      omega
    have eN : [V.int 0, .int 1, .int c1, .int c2] ++ ns.map V.int = (0 :: 1 :: c1 :: c2 :: ns).map V.int := rfl
    have nB : ∀ n ∈ (0 :: 1 :: c1 :: c2 :: ns : List Int), 0 ≤ n ∧ n ≤ 10 ^ 60 - 1 := fun n hn => by
      have big : (1000 : Int) ≤ 10 ^ 60 - 1 := by decide +kernel
      simp only [List.mem_cons] at hn
      rcases hn with h | h | h | h | h
      · omega
      · omega
      · omega
      · omega
      · exact nb n h
    have nL : (0 :: 1 :: c1 :: c2 :: ns : List Int).length = 12 := by
      show ns.length + 4 = 12
      omega
    have jA := (j6.drew d68).drew dB
    have j9 : J34 K p l D t xs zs us ws (upd HB l9 (.lst ([V.int 0, .int 1, .int c1, .int c2] ++ ns.map V.int))) := jA.same (up hl9)
    have D9 : Drew p H (upd HB l9 (.lst ([V.int 0, .int 1, .int c1, .int c2] ++ ns.map V.int))) := ((D6.trans d68).trans dB).same (up hl9)
    have h9 : upd HB l9 (.lst ([V.int 0, .int 1, .int c1, .int c2] ++ ns.map V.int)) l9 = some (.lst ((0 :: 1 :: c1 :: c2 :: ns : List Int).map V.int)) := upd_same
    generalize upd HB l9 (.lst ([V.int 0, .int 1, .int c1, .int c2] ++ ns.map V.int)) = H9 at j9 D9 h9 ⊢
    generalize (0 :: 1 :: c1 :: c2 :: ns : List Int) = nn at nB nL h9
    have o1 := ordW_pos ws
    refine ⟨l9, rfl, ⟨_, SqL.of h9⟩, for_list (K := K) (a := l9) (xs := nn.map V.int) (fun i σ H' => Same H9 H' ∧ ∃ v5 v6 v7 v8 : Option V, σ = [some (.ref p), some (.int b), some (.ref l), some (.ref D), some (.ref t), v5, v6, v7, v8, none, none, none, none, none, none, none] ∧
      (i = 0 ∨ ∃ (n m : Int) (t2 q : Addr) (o : List Wr) (i' : Nat), v5 = some (.int n) ∧ v7 = some (.int m) ∧ v8 = some (.ref t2) ∧ 0 ≤ n ∧ n ≤ 10 ^ 60 - 1 ∧ H' t2 = some (.tup [.int m, .ref q]) ∧ IsLeast ((ordW ws).map fun o => grS b o n) m i' ∧ (ordW ws)[i']? = some o ∧ StkAt K H' q b o)) ⟨Same.refl H9, none, none, none, none, rfl, .inl rfl⟩ (fun i σ H' _ h => SqL.of (h.1 _ _ h9)) ?_ ?_⟩
    · rintro i x σ H1 hi ⟨hs, v5, v6, v7, v8, rfl, _⟩
      obtain ⟨n, hn, rfl⟩ := int_at hi
      obtain ⟨n0, n1⟩ := nB n (List.mem_of_getElem? hn)
      have j1 := j9.same hs
      refine nxt ?_
      refine st_eq [some (.ref p), some (.int b), some (.ref l), some (.ref D), some (.ref t), some (.int n), v6, v7, v8, none, none, none, none, none, none, none] rfl ?_
      refine ⟨_, rfl, D, rfl, ⟨_, SqL.of j1.hd⟩, fun S hS => ?_⟩
      refine lc_list (K := K) (a := D) (xs := zs) (Pv := fun j H' => Same H1 H' ∧ H' S = some (.lst ((((ordW ws).map fun o => grS b o n).take j).map V.int))) ⟨up hS, upd_same⟩ (fun j H' _ h => SqL.of (h.1 _ _ j1.hd)) ?_ ?_
      · rintro j x H3 hj ⟨hs3, hd3⟩
        obtain ⟨r, ys, o, rfl, ho, hro, hpo⟩ := (j1.hz.same hs3).get hj
        refine ⟨rfl, _, rfl, _, rfl, _, rfl, r, b, n, ys, o, rfl, hro, hpo, ordW_ok so ho, n0, n1, fun H4 s4 => ?_⟩
        refine ⟨_, s4 _ _ hd3, ?_, fun y u e => ?_, ?_⟩
        · rw [List.length_map, List.length_take, List.length_map, sizeLine_eq]
          omega
        · rw [upd_ne (ne_of_none e hS)]
          exact s4 _ _ (hs3 _ _ e)
        · rw [upd_same, List.take_succ, List.getElem?_map, ho, List.map_append]
          rfl
      rintro H3 ⟨hs3, hd3⟩
      have e3 : zs.length = ((ordW ws).map fun o => grS b o n).length := by rw [List.length_map]; exact j1.hz.len
      rw [e3, List.take_length] at hd3
      have j3 := j1.same hs3
      refine nxt ?_
      refine st_eq [some (.ref p), some (.int b), some (.ref l), some (.ref D), some (.ref t), some (.int n), some (.ref S), v7, v8, none, none, none, none, none, none, none] rfl ?_
      refine ⟨_, rfl, S, _, rfl, SqL.of hd3, by rw [List.length_map]; exact o1, fun m hm ml => ?_⟩
      refine nxt ?_
      refine st_eq [some (.ref p), some (.int b), some (.ref l), some (.ref D), some (.ref t), some (.int n), some (.ref S), some (.int m), v8, none, none, none, none, none, none, none] rfl ?_
      refine ⟨_, rfl, _, rfl, _, rfl, t, b, n, us, ws, rfl, j3.ht, j3.hu, by omega, so, n0, n1, fun t2 q m2 i2 o H4 s4 ht2 il ho hst => ?_⟩
      have em : m2 = m := by
        have h1 := il.1 m hm
        have h2 := ml m2 (List.mem_of_getElem? il.2.1)
        omega
      subst em
      refine nxt ?_
      refine st_eq [some (.ref p), some (.int b), some (.ref l), some (.ref D), some (.ref t), some (.int n), some (.ref S), some (.int m2), some (.ref t2), none, none, none, none, none, none, none] rfl ?_
      have j4 := j3.same s4
      have hd4 := s4 _ _ hd3
      refine ⟨_, rfl, _, _, _, _, true, rfl, .ty _, .base (.tup ht2), kit_self, true, rfl, iteF ?_⟩
      refine ⟨_, rfl, t2, _, rfl, .inr (SqT.of ht2), _, _, rfl, rfl, _, rfl, ifne rfl ?_⟩
      have sh := least_shown so n0 n1 il ho
      refine ⟨_, rfl, t2, _, _, .int m2, rfl, rfl, SqT.of ht2, at_of (j := 0) rfl rfl, .int m2, _, rfl, sh, _, rfl, .int m2, _, rfl, sh, rfl, _, rfl, ifne rfl ?_⟩
      obtain ⟨dq, tq, xq, hq4, hq5, hq6⟩ := id hst
      refine ⟨_, rfl, t2, _, _, .ref q, rfl, rfl, SqT.of ht2, at_of (j := 1) rfl rfl, _, _, _, _, true, rfl, .own _, T.is_Stack.ty hq4, kit_self, true, rfl, iteF ?_⟩
      refine ⟨_, rfl, t2, _, _, .ref q, rfl, rfl, SqT.of ht2, at_of (j := 1) rfl rfl, q, dq, _, rfl, hq4, q, b, o, rfl, hst, ordW_ok so ho, fun H5 s5 => ⟨_, rfl, ?_⟩⟩
      have j5 := j4.same s5
      have il2 : (((ordW ws).map fun o => grS b o n).map V.int)[i2]? = some (.int m2) := by
        rw [List.getElem?_map, il.2.1]
        rfl
      obtain ⟨mq, mys, em, emq, hmq⟩ : ∃ mq mys, zs[i2]? = some (.ref mq) ∧ H5 mq = some (.lst mys) ∧ PlansAt H5 mys o := by
        have i2l : i2 < zs.length := by
          rw [j5.hz.len]
          exact (List.getElem?_eq_some_iff.mp ho).1
        obtain ⟨mq, mys, a, e1, e2, e3, e4⟩ := j5.hz.get (List.getElem?_eq_getElem i2l)
        rw [ho] at e2
        cases e2
        exact ⟨mq, mys, by rw [List.getElem?_eq_getElem i2l, e1], e3, e4⟩
      refine ⟨_, rfl, _, rfl, _, rfl, .inl ⟨rfl, _, SqL.of (s5 _ _ hd4)⟩, _, rfl, S, _, .int m2, i2, _, rfl, rfl, SqL.of (s5 _ _ hd4), rfl, ?_, il2, ?_, ?_, ?_⟩
      · rw [List.all_eq_true]
        intro x hx
        obtain ⟨_, _, rfl⟩ := List.mem_map.mp hx
        rfl
      · show (m2 == m2) = true
        exact beq_self_eq_true m2
      · intro j' z' hj' hz'
        obtain ⟨z2, hz2, rfl⟩ := int_at hz'
        show (z2 == m2) = false
        exact beq_false_of_ne (il.2.2 j' z2 hj' hz2)
      refine ⟨D, _, _, _, rfl, rfl, SqL.of j5.hd, at_of (j := i2) rfl em, ?_⟩
      refine ⟨mq, b, mys, o, rfl, emq, hmq, ordW_ok so ho, fun H6 s6 => ⟨rfl, _, rfl, ifne rfl ?_⟩⟩
      refine ⟨((hs.trans hs3).trans s4).trans (s5.trans s6), _, _, _, _, rfl, .inr ⟨n, m2, t2, q, o, i2, rfl, rfl, rfl, n0, n1, s6 _ _ (s5 _ _ ht2), il, ho, hst.same (s5.trans s6)⟩⟩
    · rintro σ H1 ⟨hs, v5, v6, v7, v8, rfl, z | ⟨n, m, t2, q, o, i', rfl, rfl, rfl, n0, n1, ht2, il, ho, hst⟩⟩
      · rw [List.length_map, nL] at z
        cases z
      have j1 := j9.same hs
      refine ⟨_, rfl, _, rfl, _, rfl, t, b, n, us, ws, rfl, j1.ht, j1.hu, by omega, so, n0, n1, fun t3 q3 m3 i3 o3 H4 s4 ht3 il3 ho3 hst3 => ?_⟩
      obtain ⟨rfl, rfl⟩ := il.one il3
      rw [ho] at ho3
      cases ho3
      have ht2' := s4 _ _ ht2
      have hst' := hst.same s4
      have j4 := j1.same s4
      refine nxt ?_
      refine st_eq [some (.ref p), some (.int b), some (.ref l), some (.ref D), some (.ref t), some (.int n), v6, some (.int m), some (.ref t2), some (.ref t3), none, none, none, none, none, none] rfl ?_
      have sh := least_shown so n0 n1 il ho
      refine ⟨_, rfl, t3, _, _, .int m, rfl, rfl, SqT.of ht3, at_of (j := 0) rfl rfl, .int m, _, rfl, sh, _, rfl, .int m, _, rfl, sh, rfl, _, rfl, ifne rfl ?_⟩
      obtain ⟨dq, tq, xq, hq4, hq5, hq6⟩ := id hst3
      refine ⟨_, rfl, t3, _, _, .ref q3, rfl, rfl, SqT.of ht3, at_of (j := 1) rfl rfl, q3, dq, _, rfl, hq4, q3, b, o, rfl, hst3, ordW_ok so ho, fun H5 s5 => ⟨_, rfl, ?_⟩⟩
      obtain ⟨dq', tq', xq', hq4', _⟩ := id hst'
      refine ⟨_, rfl, t2, _, _, .ref q, rfl, rfl, SqT.of (s5 _ _ ht2'), at_of (j := 1) rfl rfl, q, dq', _, rfl, s5 _ _ hq4', q, b, o, rfl, hst'.same s5, ordW_ok so ho, fun H6 s6 => ⟨_, rfl, rfl, _, rfl, ifne rfl ?_⟩⟩
      have j6 := j4.same (s5.trans s6)
      have D6 := ((D9.same hs).same s4).same (s5.trans s6)
      refine ⟨_, rfl, t, rfl, ⟨_, SqT.of j6.ht⟩, fun U hU => ?_⟩
      refine lc_tup (K := K) (a := t) (xs := us) (Pv := fun j H' => Same H6 H' ∧ H' U = some (.lst ((ws.take j).map fun a => V.str a.text))) ⟨up hU, upd_same⟩ (fun j H' _ h => SqT.of (h.1 _ _ j6.ht)) ?_ ?_
      · rintro j x H7 hj ⟨hs7, hd7⟩
        obtain ⟨u, a, rfl, ha, hu⟩ := (j6.hu.same hs7).get hj
        obtain ⟨dx, pp, h1, h2⟩ := id hu
        refine ⟨rfl, _, rfl, u, dx, _, rfl, h1, u, a, rfl, hu, ok a (List.mem_of_getElem? ha), _, rfl, _, hd7, ?_, fun y o e => ?_, ?_⟩
        · rw [List.length_map, List.length_take, sizeLine_eq]
          omega
        · rw [upd_ne (ne_of_none e hU)]
          exact hs7 _ _ e
        · rw [upd_same, List.take_succ, ha, List.map_append]
          rfl
      rintro H7 ⟨hs7, hd7⟩
      rw [j6.hu.len, List.take_length] at hd7
      have j7 := j6.same hs7
      refine ⟨_, rfl, l, rfl, ⟨_, SqL.of j7.hl⟩, fun Y hY => ?_⟩
      refine lc_list (K := K) (a := l) (xs := xs) (Pv := fun j H' => Same H7 H' ∧ H' Y = some (.lst ((ws.take j).map fun a => V.str a.text))) ⟨up hY, upd_same⟩ (fun j H' _ h => SqL.of (h.1 _ _ j7.hl)) ?_ ?_
      · rintro j x H8 hj ⟨hs8, hd8⟩
        obtain ⟨u, a, rfl, ha, hu⟩ := (j7.hw.same hs8).get hj
        refine ⟨rfl, _, rfl, u, a, rfl, hu, ok a (List.mem_of_getElem? ha), fun HC sC => ⟨_, sC _ _ hd8, ?_, fun y o e => ?_, ?_⟩⟩
        · rw [List.length_map, List.length_take, sizeLine_eq]
          omega
        · rw [upd_ne (ne_of_none e hY)]
          exact sC _ _ (hs8 _ _ e)
        · rw [upd_same, List.take_succ, ha, List.map_append]
          rfl
      rintro H8 ⟨hs8, hd8⟩
      rw [hlx, List.take_length] at hd8
      refine ⟨1, by decide, .inl ⟨U, Y, _, _, rfl, rfl, SqL.of (hs8 _ _ hd7), SqL.of hd8, ?_⟩, k _ (D6.same (hs7.trans hs8))⟩
      exact eqv_strs ws
end
section
variable {P : Program} {w : World} {K : PySem.W.Frag} {mg : Str → Option Value} {base : Heap}
theorem ok_law (T : Tx w K mg) : PromG P w K mg base 10 "law" s_law ["_law_script"] (spLaw K) := by
  refine PromG.of T.d_law sc_law (fun vs H Q E h => ?_) (fun _ _ _ _ _ _ us hl => match us, hl with | [_], _ => rfl) (fun f cdv A outer s H vs Q E hr hgd h => ?_)
  · obtain ⟨a, ns, rfl, _⟩ := h
    rfl
  · obtain ⟨a, ns, rfl, hS, hl, hz, k⟩ := h
    refine ⟨_, (pss_one (ps_ret (pe_callB (cr_all rfl) (by rfl) T.b_all (by decide +kernel) (pa_cons (pe_lc (own := [("_law_k", 1)]) (g := (gName 1)) (tt := tYes) (by rfl) sc_law.nd (pi_range1 (by rfl) T.b_range (pa_cons (pe_callB (call_max2 rfl) (by rfl) T.b_max (by decide +kernel) (pa_cons pe_int (pa_cons (pe_callB (call_min2 rfl) (by rfl) T.b_min (by decide +kernel) (pa_cons (pe_callB call_len_seq (by rfl) T.b_len (by decide +kernel) (pa_cons (pv 0) pa_nil)) (pa_cons pe_int pa_nil))) pa_nil))) pa_nil)) (blkOk_by (own := [("_law_k", 1)]) (N := ["_law_script", "_law_k"]) (sc := defScope s_law) (by decide +kernel)) (fun _ _ _ _ _ => (pg_name (i := 1) sc_law.nd rfl (Or.inl rfl))) (fun _ _ _ _ _ => pts_nil) (fun _ _ _ _ _ => (pe_callP (ok_L_right T) (hr.mono (by decide)) (by rfl) pass0 (pa_cons (pe_callP (ok_L_bowl T) (hr.mono (by decide)) (by rfl) pass0 (pa_cons (pv 0) (pa_cons (pv 1) pa_nil))) pa_nil)))) pa_nil)))), ?_⟩
    refine ⟨_, rfl, _, _, rfl, .inl hS, _, _, rfl, _, _, rfl, _, rfl, ?_, ?_, fun D hD => ?_⟩
    · split <;> split <;> omega
    · split <;> split <;> omega
    refine lc_range (lo := 0) (Pv := fun i H' => Same H H' ∧ H' D = some (.lst (List.replicate i (.bl true)))) ⟨fun b o e => by rw [upd_ne (ne_of_none e hD)]; exact e, upd_same⟩ ?_ ?_
    · rintro i H' hi ⟨hs, hl2⟩
      refine ⟨rfl, _, rfl, _, rfl, a, ns, _, rfl, hs.seq hS, by omega, ?_, fun p H3 np s3 hp => ?_⟩
      · rw [List.length_map] at hi
        split at hi <;> split at hi <;> omega
      refine ⟨p, rfl, hp, fun H4 d4 => ?_⟩
      have nD : D ≠ p := ne_of_none hl2 np
      have e4 : H4 D = some (.lst (List.replicate i (.bl true))) := d4.kp _ _ nD (s3 _ _ hl2)
      refine ⟨_, e4, ?_, fun b o e => ?_, ?_⟩
      · rw [List.length_replicate]
        rw [List.length_map] at hi
        refine Nat.lt_of_lt_of_le (m := 100) ?_ (by decide)
        split at hi <;> split at hi <;> omega
      · have eb := hs _ _ e
        rw [upd_ne (ne_of_none e hD)]
        exact d4.kp _ _ (ne_of_none eb np) (s3 _ _ eb)
      · rw [upd_same, List.replicate_succ']
    · rintro H' ⟨hs, hl2⟩
      refine ⟨D, List.replicate _ true, rfl, SqL.of (by rw [List.map_replicate]; exact hl2), ?_⟩
      have e : ∀ n : Nat, (List.replicate n true).all id = true := fun n => by simp
      show Q (.bl ((List.replicate _ true).all id)) H'
      rw [e]
      exact k _
end
theorem facts {P : Program} {w : World} {K : PySem.W.Frag} {h : Heap} {mg : Str → Option Value} {f : Addr} (X : K.In h) (G : h.Ns mainGlobals mg) (hfa : mg ("law" : Str) = some (.ref f)) (c0 : SaysX fbL faL fnL tabL w K) :
    ∃ fd : FuncData, (∀ (s : Shared) (v : Value), BindsTo s fd ⟨[v], []⟩ [("_law_script", v)]) ∧ ∀ base : Heap, K.In base → base.Ns mainGlobals mg → FnG P w K mg base 10 f fd ["_law_script"] (spLaw K) := by
  have T := tx_of (w := w) X G c0
  have c : He.SaysD faL fnL K := c0.t.d
  obtain ⟨fd, F⟩ := c.def_ 40 (d := dd_law) rfl
  have hm := He.glo_ok X G (c.fact 40 (f := .glo "law") rfl)
  have e := hfa.symm.trans hm
  cases e
  have b := FunD.bindsA (ps := ["_law_script"]) F fun _ _ _ _ _ _ us hl => match us, hl with | [_], _ => rfl
  refine ⟨fd, fun s v => b s [v] rfl, fun base _ _ => ?_⟩
  obtain ⟨f', fd', F', hm', D', _⟩ := (ok_law (P := P) (w := w) (base := base) T).ex
  cases hm.symm.trans hm'
  have efd : fd' = fd := by
    obtain ⟨_, _, _, _, _, _, _, _, _, _, _, l1, _⟩ := F.ex
    obtain ⟨_, _, _, _, _, _, _, _, _, _, _, l2, _⟩ := D'.ex
    have l2' := l2.symm.trans l1
    injection l2' with l3
    injection l3 with _ _ l4 _
    injection l4
  rw [← efd]
  exact F' 
end Sz
open PySem PySem.W PySem.Calls PyProof.Rows in
set_option maxRecDepth 100000 in
set_option maxHeartbeats 0 in
theorem PySem.Challenge.cw_sizestacks_k34_whole_least_orders_for_a_holds : PySem.Challenge.rw_sizestacks_k34_whole_least_orders_for_a.Holds := by
  w_on; o_law
  refine HandSHeadRun.head_any (r := OpenLaw.row PySem.Challenge.rw_sizestacks_k34_whole_least_orders_for_a) (q := view (OpenLaw.row PySem.Challenge.rw_sizestacks_k34_whole_least_orders_for_a).prog [71]) (H := Sz.hk) (ob := Sz.ob) (M := 30000) (loose := Sz.looseL) (d := HandSHeadRun.topDef (OpenLaw.row PySem.Challenge.rw_sizestacks_k34_whole_least_orders_for_a).prog 71) (kwd := []) Sz.ob_eq
    (by kernel_rfl) (fun z => by kernel_rfl) Sz.run (by kernel_rfl) (by kernel_rfl) (by kernel_rfl) (by rfl) (by first | assumption | decide +kernel) (by decide +kernel) ⟨rfl, rfl, rfl, rfl, rfl, by decide +kernel⟩ ?hw ?hc
  case hw => w_witness2
  case hc =>
    refine Sz.walk_ofG (l := PySem.Challenge.rw_sizestacks_k34_whole_least_orders_for_a) (n := 63) (k := 10) (x := "_law_script") rfl (by decide) (by kernel_rfl) ⟨rfl, by decide, by decide⟩ ?F
    intro w mg fa h Y G hmg0
    obtain ⟨K, KX, c⟩ := Y
    have hmg : mg ("law" : PySem.Str) = some (.ref fa) := by
      have e : (HandSHeadRun.topDef (OpenLaw.row PySem.Challenge.rw_sizestacks_k34_whole_least_orders_for_a).prog 71).name = ("law" : PySem.Str) := by kernel_rfl
      rw [← e]
      exact hmg0
    obtain ⟨fd, hb, hF⟩ := Sz.facts (P := (PySem.Challenge.rw_sizestacks_k34_whole_least_orders_for_a).prog) (w := w) KX G hmg c
    exact ⟨K, fd, Sz.spLaw K, KX, hb, fun H a ns hl hz hS => ⟨a, ns, rfl, hS, hl, hz, fun _ => rfl⟩, hF⟩
