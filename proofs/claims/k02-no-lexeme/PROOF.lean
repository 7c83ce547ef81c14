import PyProof.Rows.All
import Wide.All
import OpenK.AllK
import Wide.FinOn
import HandS.ForMost
import HandS.Exc
import HandS.Codes
import HandS.Wide
import HandS.StrMore
import HandS.Deep
import HandS.IsInst
import HandS.Defaults
import HandS.WordsExc
import HandS.Walk
import HandS.TryOnly
import HandS.HeadHook1
import HandS.HeadHook2
import HandS.ExcIs
import HandS.ExcInit
import HandS.ExcField
import KE.KStateDown
import HandS.Head0
import HandS.Head1
import HandS.Head2
import HandS.HeadEnd
import PySem.Challenge.RW_slumberway_k02_where_no_lexeme_goes_on
set_option Elab.async false
set_option linter.all false
set_option maxRecDepth 100000
set_option maxHeartbeats 4000000
namespace Sw
open PySem PySem.Spec PyProof.Rows L2 SX
/-! ### operators that the layer lacks -/
section
variable {X : Cx}
/-- a power of any base, of together at most 2 ^ 20 bits -/
def CPowW (i j : Int) : Prop := 0 ≤ j ∧ (Builtin.Int.intBits i : Int) * j ≤ 2 ^ 27
theorem op_powW : OpR X (binaryOp .Pow) (rI CPowW fun i j => .int (i ^ j.toNat)) := opI fun _ _ _ _ _ _ _ hc q => pow_int hc.1 hc.2 q
def blk (n : Nat) : List Nat := List.replicate n 32
/-- text * number -/
def rMulS : R2 := fun x y H Q => ∃ (l : List Nat) (n : Nat), x = .str (S l) ∧ y = .int (n : Int) ∧ l.length * n ≤ 100000 ∧ n ≤ 100000 ∧ Q (.str (S (List.replicate n l).flatten)) H
theorem foldl_cat (l : List Nat) : ∀ (n : Nat) (acc : Array Nat), (List.replicate n l.toArray).foldl (· ++ ·) acc = acc ++ ((List.replicate n l).flatten).toArray
  | 0, acc => by simp
  | n + 1, acc => by
    rw [List.replicate_succ, List.foldl_cons, foldl_cat l n, List.replicate_succ, List.flatten_cons]
    simp
theorem op_mulS : OpR X (binaryOp .Mult) rMulS := by
  intro pins s σ H x y v u Q I rx ry h
  obtain ⟨l, n, rfl, rfl, hl, hn, q⟩ := h
  obtain ⟨t, rfl⟩ := rx
  obtain ⟨t2, rfl⟩ := ry
  have e63 : (2 : Int) ^ 63 = 9223372036854775808 := by decide
  have hsl := sizeLine_eq
  refine PySem.P.mul_str ?_ ?_ ?_ ?_
  · rw [decide_eq_false (by rw [e63]; omega), decide_eq_false (by rw [e63]; omega)] <;> rfl
  · intro h1 _ h2
    have hn1 : 1 ≤ (n : Int) := by omega
    have h3 : (9223372036854775807 : Int) / (n : Int) < (l.length : Int) := by
      have h4 := h2
      rw [e63, S_len] at h4
      exact h4
    have h5 : (9223372036854775807 : Int) < (l.length : Int) * (n : Int) := (Int.ediv_lt_iff_lt_mul (by omega)).mp h3
    have h6 : ((l.length : Int) * (n : Int)) = ((l.length * n : Nat) : Int) := by rw [Int.natCast_mul]
    rw [h6] at h5
    omega
  · intro h1 _
    unfold Builtin.Str.tooLong
    rw [S_len, Int.toNat_natCast]
    exact decide_eq_false (by rw [hsl] <;> omega)
  · by_cases h1 : (n : Int) < 1
    · rw [if_pos h1]
      have e : n = 0 := by omega
      subst e
      exact ⟨by decide, .str (S []), H, I.tok _, ⟨_, rfl⟩, q⟩
    · rw [if_neg h1]
      by_cases h2 : ((n : Int) == 1 || (S l).length == 0) = true
      · rw [if_pos h2]
        have e : (List.replicate n l).flatten = l := by
          rcases Bool.or_eq_true_iff.mp h2 with h3 | h3
          · have h4 := beq_iff_eq.mp h3
            have e1 : n = 1 := by omega
            subst e1
            simp
          · have h4 := beq_iff_eq.mp h3
            rw [S_len] at h4
            have e1 : l = [] := List.length_eq_zero_iff.mp h4
            subst e1
            simp
        rw [e] at q
        exact ⟨.str (S l), H, I, ⟨_, rfl⟩, q⟩
      · rw [if_neg h2]
        refine ⟨?_, .str (S (List.replicate n l).flatten), H, I.tok _, ⟨s.toks, ?_⟩, q⟩
        · show (Str.mk ((List.replicate (n : Int).toNat l.toArray).foldl (· ++ ·) #[])).length ≤ sizeLine
          rw [Int.toNat_natCast, foldl_cat]
          show (#[] ++ ((List.replicate n l).flatten).toArray).size ≤ sizeLine
          have e2 : (#[] ++ ((List.replicate n l).flatten).toArray).size = n * l.length := by simp
          rw [e2, Nat.mul_comm, hsl]
          omega
        · rw [Int.toNat_natCast, foldl_cat]
          simp
end
/-! ### names of the module -/
def Glob (mg : Str → Option Value) (x : Str) (v : V) : Prop := ∃ u, mg x = some u ∧ RelV v u
section
variable {X : Cx}
theorem pe_g {x : Str} {v : V} {pos : Pos} (h : Glob X.mg x v) (hg : Gl X x := by rfl) (hd : (x == ("__debug__" : Str)) = false := by decide) : PE X (.Name x pos) (tC v) := by
  obtain ⟨u, hm, r⟩ := h
  exact pe_glob hg hm r hd
end
/-- the function that stands at an address -/
def fdAt (K : PySem.W.Frag) (a : Addr) : FuncData := match K.lookup a with
  | some ⟨_, _, .func fd, _⟩ => fd
  | _ => PySem.W.fnOf "" "" { posonlyargs := [], args := [], vararg := none, kwonlyargs := [], kw_defaults := [], kwarg := none, defaults := [] } [] { kind := .function, names := [], isGenerator := false, isCoroutine := false } .none .none .none .none none .none .none
/-- a def of the module, without defaults -/
structure Dfn (K : PySem.W.Frag) (mg : Str → Option Value) (x : Str) (st : Stmt) (ps : List Str) : Prop where
  fn : FunD K x x (defArgs st) (defBody st) (defScope st) [] [] (He.ga K x) (fdAt K (He.ga K x))
  g : mg x = some (.ref (He.ga K x))
  b : Binds K (fdAt K (He.ga K x)) ps []
theorem fdAt_eq {K : PySem.W.Frag} {x qual : Str} {pa : Arguments} {bd : List Stmt} {sc : Scope} {dvs : List V} {kws : List (Str × V)} {f : Addr} {fd : FuncData} (F : FunD K x qual pa bd sc dvs kws f fd) : fdAt K f = fd := by
  obtain ⟨oc, od, dV, kV, doc, pm, an, cdv, ct, osl, e, l, _⟩ := F.ex
  unfold fdAt
  rw [l]
theorem dfn_mk {K : PySem.W.Frag} {mg : Str → Option Value} {x : Str} {st : Stmt} {ps : List Str} {fd : FuncData} (F : FunD K x x (defArgs st) (defBody st) (defScope st) [] [] (He.ga K x) fd) (g : mg x = some (.ref (He.ga K x)))
    (h : ∀ (kV doc pm : Value) (an : Option Addr) (cdv ct : Value) (us : List Value), us.length = ps.length → bindArgs (PySem.W.fnOf x x (defArgs st) (defBody st) (defScope st) .none kV doc pm an cdv ct) ⟨us, []⟩ = pure (ps.zip us)) : Dfn K mg x st ps := by
  have e := fdAt_eq F
  refine ⟨by rw [e]; exact F, g, by rw [e]; exact F.bindsN h⟩
/-- a method of a class of the module -/
structure Mth (K : PySem.W.Frag) (x m q : Str) (st : Stmt) (ps : List Str) : Prop where
  fn : FunD K m q (defArgs st) (defBody st) (defScope st) [] [] (He.ma K (He.ga K x) m) (fdAt K (He.ma K (He.ga K x) m))
  mt : Meth K (He.ga K x) m (He.ma K (He.ga K x) m)
  b : Binds K (fdAt K (He.ma K (He.ga K x) m)) ps []
theorem mth_mk {K : PySem.W.Frag} {x m q : Str} {st : Stmt} {ps : List Str} {fd : FuncData} (F : FunD K m q (defArgs st) (defBody st) (defScope st) [] [] (He.ma K (He.ga K x) m) fd) (g : Meth K (He.ga K x) m (He.ma K (He.ga K x) m))
    (h : ∀ (kV doc pm : Value) (an : Option Addr) (cdv ct : Value) (us : List Value), us.length = ps.length → bindArgs (PySem.W.fnOf m q (defArgs st) (defBody st) (defScope st) .none kV doc pm an cdv ct) ⟨us, []⟩ = pure (ps.zip us)) : Mth K x m q st ps := by
  have e := fdAt_eq F
  exact ⟨by rw [e]; exact F, g, by rw [e]; exact F.bindsN h⟩
/-- all parameters by keywords, in the order ks: g puts them in the parameters' order -/
theorem kbn0 {K : PySem.W.Frag} {x qual : Str} {pa : Arguments} {bd : List Stmt} {sc : Scope} {kws : List (Str × V)} {f : Addr} {fd : FuncData} {ps ks : List Str} {n : Nat} (F : FunD K x qual pa bd sc [] kws f fd) (g : {α : Type} → List α → List α → List α)
    (hrel : ∀ {vs zs : List V} {us ws : List Value}, Vals vs us → Vals zs ws → Vals (g vs zs) (g us ws))
    (h : ∀ (kV doc pm : Value) (an : Option Addr) (cdv ct : Value) (us ws : List Value), us.length = n → ws.length = ks.length → bindArgs (PySem.W.fnOf x qual pa bd sc .none kV doc pm an cdv ct) ⟨us, ks.zip ws⟩ = pure (ps.zip (g us ws))) :
    KBn K fd ps n ks (fun us ws => g us ws) (fun vs zs => g vs zs) := by
  obtain ⟨oc, od, dV, kV, doc, pm, an, cdv, ct, osl, rfl, lk, hcd, hD, hK⟩ := F.ex
  rcases hD with ⟨_, rfl⟩ | ⟨e, _⟩
  · exact ⟨fun s us ws X l1 l2 => .of_eq (h kV doc pm an cdv ct us ws l1 l2), fun r1 r2 => hrel r1 r2⟩
  · exact absurd rfl e
section
variable {X : Cx} {CX : CXT} {k : Nat} {f : Addr} {fd : FuncData} {ps ks : List Str} {sp : Sp} {E : XK} {x : Str} {p pos : Pos} {kws : List Keyword} {tk : TA} {g : List Value → List Value → List Value} {gV : List V → List V → List V}
/-- f(k = v, ..) -/
theorem pe_callN0 (F : FnOk X.prog X.w X.K X.mg X.base CX k f fd ps sp) (hr : Room k X.A) (hg : Gl X x) (hm : X.mg x = some (.ref f)) (hk : PySem.W.keepIn X.K (.ref f) = true) (hb : KBn X.K fd ps 0 ks g gV) (hx : Passes CX X E)
    (hkw : PK X kws tk) (hall : (backToKw pos (keywordEach kws X.env)).all (·.1.isSome) = true := by rfl) (hks : (backToKw pos (keywordEach kws X.env)).filterMap (·.1) = ks := by rfl)
    (hdb : (x == ("__debug__" : Str)) = false := by decide)
    (hpl : ((backTo pos (starEach [] X.env)).any (·.1) || (backToKw pos (keywordEach kws X.env)).any (·.1.isNone)) = false := by rfl) :
    PE X (.Call (.Name x p) [] kws pos) (tCallN 0 ks.length sp gV E tNil tk) := by
  refine ⟨fun pins s σ H Q I h => ?_⟩
  refine wpAny_Call_Name_kw (ld_glob I hg hm ?_ hdb)
  refine PySem.W.callWith_KW0 (h₀ := X.base) I.ok.mod.kin hk hall ?_ hpl
  refine thn (hkw.run pos pins s σ H _ I h) fun ws s2 ⟨zs, H2, I2, rz, l1, l2, q2⟩ => ⟨I2.kIn, ?_⟩
  rw [hks]
  exact run_fnN F hr hb hx I2 .nil rz l1 l2 q2
end
/-! ### heaps -/
/-- all that was tracked is as it was, but at a -/
def But (a : Addr) (H H' : Hp) : Prop := ∀ b o, b ≠ a → H b = some o → H' b = some o
theorem But.refl (a : Addr) (H : Hp) : But a H H := fun _ _ _ h => h
theorem But.trans {a : Addr} {H H1 H2 : Hp} (x : But a H H1) (y : But a H1 H2) : But a H H2 := fun b o n h => y b o n (x b o n h)
theorem But.of {a : Addr} {H H1 : Hp} (x : Same H H1) : But a H H1 := fun b o _ h => x b o h
theorem But.upd {a : Addr} {H H1 : Hp} {o : HO} (x : But a H H1) : But a H (upd H1 a o) := fun b u n h => by
  rw [upd_ne n]
  exact x b u n h
theorem But.new {a : Addr} {H H1 : Hp} {p : Addr} {o : HO} (x : But a H H1) (h : H1 p = none) : But a H (L2.upd H1 p o) := fun b u n e => by
  rw [upd_ne (ne_of_none (x b u n e) h)]
  exact x b u n e
theorem same_new {H : Hp} {p : Addr} {o : HO} (h : H p = none) : Same H (upd H p o) := fun b x e => by
  rw [upd_ne (ne_of_none e h)]
  exact e
/-- what was not tracked ahead is free there -/
theorem But.free {a p : Addr} {H H1 : Hp} (x : But a H H1) (n : p ≠ a) (h : H1 p = none) : H p = none := by
  cases e : H p with
  | none => rfl
  | some o =>
    rw [x p o n e] at h
    cases h
theorem But.seqL {K : PySem.W.Frag} {a b : Addr} {H H1 : Hp} {xs : List V} (x : But a H H1) (n : b ≠ a) (h : SqL K H b xs) : SqL K H1 b xs := by
  rcases h with (h | ⟨o, h⟩) | h
  · exact .inl (.inl (x _ _ n h))
  · exact .inl (.inr ⟨o, x _ _ n h⟩)
  · exact .inr h
theorem szS {n : Nat} (h : n ≤ 100000) : n ≤ sizeLine := Nat.le_trans h (by decide)
theorem szL {n : Nat} (h : n < 100000) : n < sizeLine := Nat.lt_of_lt_of_le h (by decide)
end Sw
set_option Elab.async false
set_option linter.all false
set_option maxRecDepth 100000
set_option maxHeartbeats 4000000
/-! a caught error that is kept as a value behind its except clause -/
namespace Sw
open PySem PySem.Spec PyProof.Rows L2 SX
/-- at a: an exception's object, of this class, with this own dict -/
def exV (a : Addr) (cls : Value) (d : Option Addr) : HO := .ext fun h => ∃ (oe : Obj) (vs : Array Value), h.get? a = some oe ∧ Zc cls d oe ∧ oe.data = .fields vs
theorem exV_ok {P : Program} {w : World} {H : Hp} {h : Heap} {a : Addr} {cls : Value} {d : Option Addr} {oe : Obj} {vs : Array Value} (e : h.get? a = some oe) (z : Zc cls d oe) (q : oe.data = .fields vs) : ObjOk P w H h a (exV a cls d) :=
  ⟨⟨oe, vs, e, z, q⟩, ⟨oe, e⟩, fun h1 h2 ⟨o1, v1, y1, y2, y3⟩ k => ⟨o1, v1, k _ y1, y2, y3⟩⟩
theorem exV_at {P : Program} {w : World} {H : Hp} {h : Heap} {a : Addr} {cls : Value} {d : Option Addr} (ok : HOk P w H h) (e : H a = some (exV a cls d)) : ∃ (oe : Obj) (vs : Array Value), h.get? a = some oe ∧ Zc cls d oe ∧ oe.data = .fields vs := by
  have x : ObjOk P w H h a (.ext fun h => ∃ (oe : Obj) (vs : Array Value), h.get? a = some oe ∧ Zc cls d oe ∧ oe.data = .fields vs) := ok a _ e
  exact x.1
section
variable {X : Cx} {pins : List (Addr × Obj)} {σ : L2.St} {H : Hp} {s0 s4 : Shared} {a : Addr} {cls : Value} {d : Option Addr}
/-- an exception that was not there ahead of the body is tracked -/
theorem track (J : Inv X pins σ H s0) (J4 : Inv X pins σ H s4) (na : H a = none) (ga : s0.heap.get? a = none) {oe : Obj} {vs : Array Value} (e4 : s4.heap.get? a = some oe) (hz : Zc cls d oe) (hd : oe.data = .fields vs) (nL : a ≠ X.env.locals) :
    Inv X pins σ (upd H a (exV a cls d)) s4 := by
  have nx : ∀ {b : Addr} {o : HO}, H b = some o → b ≠ a := fun {b o} q z => by rw [z, na] at q; cases q
  have up : ∀ {b : Addr} {o : HO}, H b = some o → upd H a (exV a cls d) b = some o := fun {b o} q => by rw [upd_ne (nx q)]; exact q
  have un : ∀ {b : Addr}, b ≠ a → H b = none → upd H a (exV a cls d) b = none := fun {b} hb q => by rw [upd_ne hb]; exact q
  refine ⟨J4.ok, J4.os, J4.bare, ⟨J4.base.keep, J4.base.slot, fun b o h1 h2 h3 => ?_, J4.base.there, fun b xs q => up (J4.base.tups b xs q), fun b o u q => up (J4.base.frzs b o u q), fun b ps q => ?_⟩, J4.loc, J4.cell, un nL.symm J4.free, fun x c q => ?_, fun p hp => ?_, fun b o q => ?_, J4.len⟩
  · refine un (fun z => ?_) (J4.base.free b o h1 h2 h3)
    obtain ⟨o1, h5⟩ := J.base.there b o h1 h3
    rw [z, ga] at h5
    cases h5
  · obtain ⟨more, q2⟩ := J4.base.tbls b ps q
    exact ⟨more, up q2⟩
  · refine un (fun z => ?_) (J4.freeC x c q)
    obtain ⟨v, oc, hc1, hc2⟩ := J4.cell x c q
    rw [z, e4] at hc1
    cases hc1
    rw [hd] at hc2
    cases hc2
  · obtain ⟨h1, h2, h3, h4, h5⟩ := J4.pin p hp
    refine ⟨h1, un (fun z => ?_) h2, h3, h4, h5⟩
    have h6 := (J.pin p hp).1
    rw [z, ga] at h6
    cases h6
  · by_cases hb : b = a
    · subst hb
      rw [upd_same] at q
      cases q
      exact exV_ok e4 hz hd
    · rw [upd_ne hb] at q
      exact (J4.hok b o q).stay (fun _ _ _ z => z) (fun c z => up z) fun c xs z => up z
end
/-- the wish of an except clause whose error is tracked within and behind its suite: slot i is the name's -/
def wKeep (K : PySem.W.Frag) (c : Value) (i : Nat) (ts : Addr → TS) (Wo : WX) (D : Ends) : WX := fun cls d σ H => ∃ b, PySem.W.exmOne K cls c = some b ∧
  (b = true → ∀ a, H a = none → ts a { nx := fun s1 H1 => D.nx (s1.set i none) H1, rt := D.rt, bk := fun s1 H1 => D.bk (s1.set i none) H1, ct := fun s1 H1 => D.ct (s1.set i none) H1 } (σ.set i (some (.ref a))) (upd H a (exV a cls d))) ∧
  (b = false → Wo cls d σ H)
/-- the suite's own context, no pin for the error -/
abbrev suK (X : Cx) (a : Addr) (pn : List (Addr × Obj)) : Cx := X.suite a pn
section
variable {X : Cx} {x n : Str} {c : Value} {i : Nat} {body suite : List Stmt} {b0 : Stmt} {np pos pos' : Pos} {tb : WX → TS} {ts : Addr → TS} {Wo : WX}
theorem to_suite {pins : List (Addr × Obj)} {σ : L2.St} {H : Hp} {s : Shared} (I : Inv X pins σ H s) (a : Addr) : Inv (suK X a (X.pn ++ pins)) [] σ H s :=
  ⟨I.ok.suite a _, I.os, I.bare, I.base, I.loc, I.cell, I.free, I.freeC, fun p hp => I.pin p (by rw [List.append_nil] at hp; exact hp), I.hok, I.len⟩
theorem of_suite {pins pn' : List (Addr × Obj)} {σ : L2.St} {H : Hp} {s : Shared} {a : Addr} (I : Inv (suK X a (X.pn ++ pins)) pn' σ H s) (ok : X.Ok) : Inv X pins σ H s :=
  ⟨ok, I.os, I.bare, I.base, I.loc, I.cell, I.free, I.freeC, fun p hp => I.pin p (List.mem_append_left _ hp), I.hok, I.len⟩
theorem ps_try_keep (hs : X.stack = X.env :: X.outer) (hf : X.env.frame = some X.env.locals) (hN : X.N.Nodup) (hi : X.N[i]? = some n) (hln : X.env.kindOf n = some .local) (hc : Names X x c) (tk : Takes X Wo)
    (hb : ∀ (W : WX) (pn : List (Addr × Obj)) (xe : Value → Shared → Prop), Takes (X.tr pn xe) W → PassesOwn (model X.prog X.w) X.A X.env xe → PSs (X.tr pn xe) body (tb W))
    (hsu : ∀ (a : Addr) (pn : List (Addr × Obj)), PSs (suK X a pn) (b0 :: suite) (ts a)) :
    PS X (.Try body [.ExceptHandler (some (.Name x np)) (some n) (b0 :: suite) pos'] [] [] pos) (fun D σ H => tb (wKeep X.K c i ts Wo D) D σ H) := by
  constructor
  intro pins s σ H D I hread
  have okX := I.ok
  have frX : X.A.frames = some (X.env :: X.outer) := by rw [okX.frames, hs]
  let after : Value → Shared → Prop := fun e q1 => wpAny (model X.prog X.w) X.A (noteFrame e X.env) (fun _ q2 => wpAny (model X.prog X.w) X.A (setFlight e none) (fun _ q3 =>
    wpAny (model X.prog X.w) X.A (handleBy e X.env [.ExceptHandler (some (.Name x np)) (some n) (b0 :: suite) pos']) (SP X pins D) X.xe q3) X.xe q2) X.xe q1
  have takes : Takes (X.tr (X.pn ++ pins) after) (wKeep X.K c i ts Wo D) := by
    rintro u s1 ⟨a, B, sI, pinsB, σ1, H1, cls, d, rfl, J0, nb, up, sky, na, os, ag, b, hb1, hyes, hno⟩
    have J : Inv X pins σ1 H1 sI := J0.ofTry okX
    rw [hs] at sky
    refine Sky.land Zc.steady frX hf sky fun h3 fl3 up3 => ?_
    have J3 : Inv X pins σ1 H1 { s1 with heap := h3 } := J.landed nb fl3.1 (up.trans up3) os ag
    obtain ⟨oe3, vs3, he3, hz3, hd3⟩ := fl3.there
    have away : a ∉ frs (X.env :: X.outer) := fun hm => by
      obtain ⟨_, o1, e1, hno1⟩ := fl3.2.2.1.mem hm
      rw [he3] at e1
      cases e1
      exact hno1 _ hd3
    have nL : a ≠ X.env.locals := fun z => away (List.mem_filterMap.mpr ⟨X.env, List.mem_cons_self, by rw [hf, z]⟩)
    have gone : sI.heap.get? a = none := by
      cases e : sI.heap.get? a with
      | none => rfl
      | some o =>
        have e2 := nb a o e (by rw [hs]; exact away)
        rw [fl3.2.1] at e2
        cases e2
    refine wpAny_handleBy_cons (codeAny_handlers_test ?_) (by intro q; cases q)
    have tyA : PySem.W.Looks (model X.prog X.w) h3 (typeOf (.ref a)) cls := fun A Q E s k q => wpAny_typeOf_ref (k _ _ he3) (by rw [hz3.1]; exact q)
    have meets := PySem.W.exm_one (M := model X.prog X.w) (J3.kIn) tyA hb1
    have S3 := to_suite J3 a
    have named : ∀ {Q : Value → Shared → Prop} {E : Value → Shared → Prop}, Q c { s1 with heap := h3 } → wpAny (model X.prog X.w) (X.A.mark (some (.ref a))) (eval (.Name x np) X.env) Q E { s1 with heap := h3 } := by
      intro Q E q
      obtain ⟨hg, hdbg, hm⟩ := hc
      rcases hm with hm | ⟨hm, hv, hnn⟩
      · exact ld_glob (X := suK X a (X.pn ++ pins)) S3 hg hm q hdbg
      · exact ld_blt (X := suK X a (X.pn ++ pins)) S3 hg hm hv q hnn hdbg
    refine named (meets.here ?_)
    cases b with
    | true =>
      refine codeAny_handlers_suite_as ?_
      refine HandSPX.lands_againZ fl3 fun h4 fl4 up4 => ?_
      have J4 : Inv X pins σ1 H1 { s1 with heap := h4 } := J.landed nb fl4.1 ((up.trans up3).trans up4) os ag
      obtain ⟨oe4, vs4, he4, hz4, hd4⟩ := fl4.there
      have K4 := track J J4 na gone he4 hz4 hd4 nL
      refine store_ok (X := suK X a (X.pn ++ pins)) (v := .ref a) (to_suite K4 a) hN hi (.inl hln) rfl (fun s5 S5 => ?_) (.inr hln)
      refine wpAny_mono ((hsu a (X.pn ++ pins)).run [] s5 _ _ _ S5 (hyes rfl a na)) (fun f s6 hsp => ?_) (fun _ _ z => False.elim z)
      have fin : ∀ {σ6 : L2.St} {H6 : Hp} {Q : Shared → Prop}, Inv (suK X a (X.pn ++ pins)) [] σ6 H6 s6 → (∀ s7, Inv X pins (σ6.set i none) H6 s7 → Q s7) →
          wpAny (model X.prog X.w) X.A (do bindName X.env n .none; unbindBehindTheSuite X.env n pos') (fun _ s7 => Q s7) X.xe s6 := fun S6 hq => gone_ok (of_suite S6 okX) hN hi hln hq
      cases f with
      | ret u =>
        obtain ⟨v6, σ6, H6, S6, r6, q6⟩ := hsp
        exact fin S6 fun s7 J7 => ⟨_, _, _, J7, r6, q6⟩
      | next =>
        obtain ⟨σ6, H6, S6, q6⟩ := hsp
        exact fin S6 fun s7 J7 => ⟨_, _, J7, q6⟩
      | brk =>
        obtain ⟨σ6, H6, S6, q6⟩ := hsp
        exact fin S6 fun s7 J7 => ⟨_, _, J7, q6⟩
      | cont =>
        obtain ⟨σ6, H6, S6, q6⟩ := hsp
        exact fin S6 fun s7 J7 => ⟨_, _, J7, q6⟩
    | false =>
      refine wpAny_handleBy_nil ?_
      obtain ⟨k1, k2, k3, oe, vs, T, oT, tv, he, hz, hd, h1, hr⟩ := id fl3
      unfold PySem.passOn
      refine wpAny_bind (wpAny_field he hd h1 ?_)
      rw [if_neg (show ¬ ((Value.ref T == Value.none) = true) from by simp)]
      have on : wpAny (model X.prog X.w) X.A (setFlight (.ref a) X.env.frame) (fun _ s4 => wpAny (model X.prog X.w) X.A (throw (.ref a) : Sem Flow) (SP X pins D) X.xe s4) X.xe { s1 with heap := h3 } := by
        rw [hf]
        refine HandSPX.setFlight_upZ fl3 fun h4 hh4 up4 => wpAny_throw (tk _ _ ?_)
        exact ⟨a, B, sI, pins, σ1, H1, cls, d, rfl, J, nb, (up.trans up3).trans up4, .inr (.inr (by rw [hs]; exact hh4)), na, os, ag, hno rfl⟩
      first
        | exact wpAny_bind (wpAny_pure (wpAny_bind on))
        | exact wpAny_bind on
  refine wpAny_Try_except ?_
  refine wpAny_mono ((hb (wKeep X.K c i ts Wo D) (X.pn ++ pins) after takes PassesOwn.looking).run [] s σ H D (I.toTry _) hread) (fun f s1 hsp => ?_) (fun e s1 he => he)
  cases f with
  | ret u =>
    obtain ⟨v, σ1, H1, J1, r, q⟩ := hsp
    exact ⟨v, σ1, H1, J1.ofTry okX, r, q⟩
  | next =>
    obtain ⟨σ1, H1, J1, q⟩ := hsp
    exact wpAny_execs_nil ⟨σ1, H1, J1.ofTry okX, q⟩
  | brk =>
    obtain ⟨σ1, H1, J1, q⟩ := hsp
    exact ⟨σ1, H1, J1.ofTry okX, q⟩
  | cont =>
    obtain ⟨σ1, H1, J1, q⟩ := hsp
    exact ⟨σ1, H1, J1.ofTry okX, q⟩
end
/-! ### a field of a kept error; its class asked -/
def tXv (C : Addr) (n : Str) (te : TE) : TE := fun σ H Q => te σ H fun x H1 => ∃ (a dd : Addr) (fs : List (Str × V)) (v : V), x = .ref a ∧ H1 a = some (exV a (.ref C) (some dd)) ∧ H1 dd = some (.xd fs) ∧ fs.lookup n = some v ∧ Q v H1
theorem pe_xv {X : Cx} {C : Addr} {e : Expr} {te : TE} {pos : Pos} {n : Str} (T : XfC X.K C) (hno : PySem.W.findIn X.K (.ref C) n = some none) (he : PE X e te) (hb : attributeBase e n X.env (eval e X.env) = eval e X.env := by rfl) :
    PE X (.Attribute e n pos) (tXv C n te) := by
  constructor
  intro pins s σ H Q I h
  refine attr_of hb (thn (he.run pins s σ H _ I h) fun u s1 hh => ?_)
  obtain ⟨x, H1, I1, rx, a, dd, fs, v, rfl, ha, hdd, hl, q⟩ := hh
  cases (show u = Value.ref a from rx)
  obtain ⟨oe, vs, g1, g2, g3⟩ := exV_at I1.hok ha
  have hx : ObjOk X.prog X.w H1 s1.heap dd (.xd fs) := I1.hok dd _ hdd
  obtain ⟨mA, hns, hr⟩ := hx
  obtain ⟨od, ho, hl2⟩ := lookIn_ns hns
  have rel := hr n
  rw [hl] at rel
  obtain ⟨u, hu, ru⟩ := RelO.some_of rel
  have J : PySem.W.InstAt s1.heap a oe C (some od) := { at_ := g1, cls := g2.1, no := by unfold PySem.W.notCls; rw [g3] <;> rfl, dict := by rw [g2.2]; exact ho }
  refine HandSPX.exc_get I1.kIn J T.ga T.gg T.exC (PySem.W.findObj_own T.hdC hno rfl ?_) (handed_of ru) ⟨v, H1, I1.tok _, ru, q⟩
  rw [hl2, hu]
section
open PySem.W PySem.Calls
variable {prog : Program} {w : World} {A : Around} {E : Value → Shared → Prop} {s : Shared} {K : Frag} {x D : Addr} {ox : Obj} {od : Option Obj}
theorem findObj_cls {C : Addr} {name : Str} {a g : Value} (od : Option Obj) (hc : (clsIn K C).isSome = true) (ha : findIn K (.ref C) name = some (some a)) (hg : specialIn K a "__get__" = some (some g)) (ht : takesIn K a = some true) : findObj K C od name = some (.bind g a) := by
  cases od with
  | none => exact findObj_dataN hc ha hg ht
  | some o => exact findObj_data hc ha hg ht
theorem class_of_exc (C : ExcC K D) {Q : Option Value → Shared → Prop} (X : K.In s.heap) (I : InstAt s.heap x ox D od) (h : Q (some (.ref D)) { s with toks := s.toks + 1 }) : wpAny (model prog w) A (getAttr? (.ref x) "__class__") Q E s := by
  have seen : (clsIn K D).isSome = true := by
    obtain ⟨cd, hc, _⟩ := any_some C.hd
    rw [hc]
    rfl
  have look := findObj_cls od seen C.ha C.hn C.ht
  obtain ⟨hp, g, d, t, os⟩ := s
  have ty := I.type (M := model prog w)
  have by1 := looks_findIn (M := model prog w) X C.hg
  have by2 := looks_findIn (M := model prog w) X C.hk
  have by3 := looks_find (M := model prog w) X I look
  have isE : Looks (model prog w) hp (isInstance (.ref x) (.type "BaseException")) true := ty.andThen (looks_subIn X C.hs)
  have e2 : (Value.builtin "BaseException.__getattribute__" == Value.builtin "object.__getattribute__") = false := by decide +kernel
  have e1 : (onTheHeap (Value.ref D) && Value.builtin "BaseException.__getattribute__" == Value.builtin "object.__getattribute__") = false := by
    rw [e2]
    rfl
  unfold getAttr? getAttrBy? getAttrBy
  refine wpAny_bind (wpAny_mkText (wpAny_bind (wpAny_attempt (wpAny_holding (wpAny_bind (ty.at (wpAny_bind (by1.at ?_))))))))
  show wpAny _ _ (if (onTheHeap (Value.ref D) && Value.builtin "BaseException.__getattribute__" == Value.builtin "object.__getattribute__") = true then _ else _) _ _ _
  rw [e1, if_neg Bool.false_ne_true]
  unfold getAttrByItsOwn hookBefore
  refine wpAny_bind ?_
  rw [if_pos (show onTheHeap (Value.ref D) = true from rfl)]
  refine by2.at (wpAny_bind (wpAny_attempt (wpAny_holding ?_)))
  unfold callGetattribute
  rw [show (false && onTheHeap (Value.builtin "BaseException.__getattribute__")) = false from rfl, if_neg Bool.false_ne_true]
  unfold boundAndCalled
  rw [PySem.F.excAttr_ValueError.ga.bind (.ref x)]
  refine wpAny_bind (wpAny_pure ?_)
  show wpAny _ _ (call (.builtin "BaseException.__getattribute__") [.ref x, .str "__class__" t]) _ _ _
  refine wpAny_call (codeAny_call_builtin PySem.F.excAttr_ValueError.ga.plain PySem.F.entry_bexc_ga ?_)
  refine @check_slot (model prog w) _ _ ⟨hp, g, d, t + 1, os⟩ "BaseException.__getattribute__" "BaseException" "__getattribute__" (.ref x) [.str "__class__" t] [] _ (by decide +kernel) (by decide +kernel) isE (PySem.F.args_bexc_ga (.ref x) (.str "__class__" t)) ?_
  unfold Builtin.«object.__getattribute__»
  refine wpAny_bind (wpAny_of_eq (a := ((Value.ref x : Value), [Value.str "__class__" t])) (by first | rfl | (simp only [slotArgs]; rfl)) ?_)
  refine wpAny_bind (wpAny_pure (wpAny_bind (ty.at (wpAny_bind (by3.at ?_)))))
  show wpAny _ _ (holding [Value.builtin "object.__class__"] (call (.builtin "getset_descriptor.__get__") [.builtin "object.__class__", .ref x, .ref D]) >>= ret) _ _ _
  refine wpAny_bind (wpAny_holding (wpAny_call (class_get (s := ⟨hp, g, d, t + 1, os⟩) (ox := ox) (od := od) X I C.hm ?_)))
  refine wpAny_pure ?_
  show wpAny _ _ (handedOut (.ref D)) _ _ _
  rw [handedOut_of (v := .ref D) rfl]
  first
    | exact wpAny_pure h
    | exact wpAny_pure (wpAny_pure h)
    | exact wpAny_pure (wpAny_bind (wpAny_pure (wpAny_pure h)))
theorem kit_exc (C : ExcC K D) : KitX K (.ref x) (.ref D) (fun h => ∃ ox od, InstAt h x ox D od) where
  ty := fun _ _ _ ⟨_, _, I⟩ => I.type
  it := fun _ _ X _ => by
    obtain ⟨cdD, hcD, _⟩ := any_some C.hd
    unfold clsIn at hcD
    split at hcD
    · rename_i oc od cd sl ho
      intro A1 Q1 E1 s1 k q
      unfold isType loadHead
      exact wpAny_bind (wpAny_loadPart (k _ _ (X _ _ ho)) (wpAny_pure q))
    · cases hcD
  ne := fun h tp dd its n sl X htp => by
    obtain ⟨cdD, hcD, _⟩ := any_some C.hd
    rw [Bool.eq_false_iff]
    intro q
    have e : D = tp := Value.ref.inj (beq_iff_eq.mp q)
    subst e
    unfold clsIn at hcD
    split at hcD
    · rename_i oc od cd sl2 ho
      cases (X _ _ ho).symm.trans htp
    · cases hcD
  ca := fun X ⟨_, _, I⟩ k => class_of_exc C X I k
end
/-- isinstance(e, c), e a kept error -/
def rIsV (K : PySem.W.Frag) : List V → Hp → VK → Prop := fun xs H Q => ∃ (a D : Addr) (d : Option Addr) (c : V) (cv : Value) (b : Bool), xs = [.ref a, c] ∧ H a = some (exV a (.ref D) d) ∧ (∀ dd, d = some dd → ∃ fs, H dd = some (.xd fs)) ∧ ExcC K D ∧ (∀ u, RelV c u → u = cv) ∧ PySem.W.kitOne K (.ref D) cv = some b ∧ Q (.bl b) H
theorem call_isV {X : Cx} : CallR X (.builtin "isinstance") (rIsV X.K) := by
  intro pins s σ H xs us Q I r h
  obtain ⟨a, D, d, c, cv, b, rfl, ha, hdd, C, hcv, e, q⟩ := h
  cases r with
  | cons rx rr =>
    cases rr with
    | cons rt rr =>
      cases rr
      cases rx
      have ec := hcv _ rt
      subst ec
      obtain ⟨oe, vs, g1, g2, g3⟩ := exV_at I.hok ha
      have J : ∃ ox od, PySem.W.InstAt s.heap a ox D od := by
        have no : PySem.W.notCls oe = true := by unfold PySem.W.notCls; rw [g3] <;> rfl
        cases d with
        | none => exact ⟨oe, none, { at_ := g1, cls := g2.1, no := no, dict := by rw [g2.2]; trivial }⟩
        | some dd =>
          obtain ⟨fs, hf⟩ := hdd dd rfl
          have hx : ObjOk X.prog X.w H s.heap dd (.xd fs) := I.hok dd _ hf
          obtain ⟨mA, ⟨o, es, ep, ho, _⟩, _⟩ := hx
          exact ⟨oe, some o, { at_ := g1, cls := g2.1, no := no, dict := by rw [g2.2]; exact ho }⟩
      exact PySem.W.kia_one (kit_exc C) I.kIn J e (fun z => nomatch z) fun tk => ⟨.bl b, H, I.kept (t' := tk) fun _ _ z => z, rfl, q⟩
/-! ### calls by keywords in a try's body -/
section
variable {X : Cx} {CX : CXT} {k : Nat} {f : Addr} {fd : FuncData} {ps ks : List Str} {sp : Sp} {E : L2.St → XK} {x : Str} {p pos : Pos} {kws : List Keyword} {tk : TA} {g : List Value → List Value → List Value} {gV : List V → List V → List V}
def tCallNS (m : Nat) (sp : Sp) (gV : List V → List V → List V) (E : L2.St → XK) (tk : TA) : TE := fun σ H Q => tk σ H fun zs H2 => zs.length = m ∧ sp (gV [] zs) H2 Q (E σ)
theorem pe_callN0S (F : FnOk X.prog X.w X.K X.mg X.base CX k f fd ps sp) (hr : Room k X.A) (hg : Gl X x) (hm : X.mg x = some (.ref f)) (hk : PySem.W.keepIn X.K (.ref f) = true) (hb : KBn X.K fd ps 0 ks g gV) (hx : ∀ σ, PassesAt CX X σ (E σ))
    (hkw : PK X kws tk) (hall : (backToKw pos (keywordEach kws X.env)).all (·.1.isSome) = true := by rfl) (hks : (backToKw pos (keywordEach kws X.env)).filterMap (·.1) = ks := by rfl)
    (hdb : (x == ("__debug__" : Str)) = false := by decide)
    (hpl : ((backTo pos (starEach [] X.env)).any (·.1) || (backToKw pos (keywordEach kws X.env)).any (·.1.isNone)) = false := by rfl) :
    PE X (.Call (.Name x p) [] kws pos) (tCallNS ks.length sp gV E tk) := by
  constructor
  intro pins s σ H Q I h
  refine wpAny_Call_Name_kw (ld_glob I hg hm ?_ hdb)
  refine PySem.W.callWith_KW0 (h₀ := X.base) I.ok.mod.kin hk hall ?_ hpl
  refine thn (hkw.run pos pins s σ H _ I h) fun ws s2 ⟨zs, H2, I2, rz, l2, q2⟩ => ⟨I2.kIn, ?_⟩
  rw [hks]
  refine wpAny_call (codeAny_mono (F.run X.A X.stack s2 H2 ⟨[], ks.zip ws⟩ (g [] ws) (gV [] zs) Q (E σ) hr I2.env0 (hb.to s2 [] ws I2.kIn rfl (rz.length.symm.trans l2)) (hb.rel .nil rz) q2) fun r s3 hq => ?_)
  cases r with
  | error e => exact hx σ pins H2 s2 e s3 I2 hq
  | ok fl =>
    cases fl with
    | ret u => exact I2.after hq
    | next => exact False.elim hq
    | brk => exact False.elim hq
    | cont => exact False.elim hq
end
/-! ### error classes of the text: a class over ValueError (through others) with its own __init__ -/
def oexB (K : PySem.W.Frag) (C : Addr) : Bool := (match K.lookup C with
  | some ⟨.type "type", _, .cls cd, sl⟩ => (match cd.mro, sl.toList with
    | .ref D :: bm, [_, _, _, _, some (.builtin n), _] => decide (D = C) && (decide (n = "ValueError.__new__") && (!cd.hasDel && (cd.hasDict && PySem.HandSPX.refsVE bm)))
    | _, _ => false)
  | _ => false) && (decide (PySem.W.findIn K (.ref C) "__setattr__" = some (some (.builtin "object.__setattr__"))) && (decide (PySem.W.subIn K (.ref C) (.type "BaseException") = some true) && (decide (PySem.W.typeIn K (.ref C) = some (.type "type")) && PySem.W.keepIn K (.ref C))))
theorem oexB_ok {K : PySem.W.Frag} {C : Addr} (h : oexB K C = true) : OexC K C := by
  obtain ⟨h0, h⟩ := He.ba h
  obtain ⟨h1, h⟩ := He.ba h
  obtain ⟨h2, h⟩ := He.ba h
  obtain ⟨h3, h4⟩ := He.ba h
  refine ⟨?_, of_decide_eq_true h1, of_decide_eq_true h2, of_decide_eq_true h3, h4⟩
  split at h0
  · rename_i dd cd sl ho
    split at h0
    · rename_i D bm k0 k1 k2 k3 n k5 hm hs
      obtain ⟨y1, y⟩ := He.ba h0
      obtain ⟨y2, y⟩ := He.ba y
      obtain ⟨y3, y⟩ := He.ba y
      obtain ⟨y4, y5⟩ := He.ba y
      have e1 : D = C := of_decide_eq_true y1
      have e2 : n = "ValueError.__new__" := of_decide_eq_true y2
      obtain ⟨nm, bs, mro, ns, qn, hdc, sn, sub, ab, col, del⟩ := cd
      dsimp only at hm y3 y4
      have e3 : del = false := by simpa using y3
      subst e1 e2 e3 y4 hm
      have es : sl = #[k0, k1, k2, k3, some (.builtin "ValueError.__new__"), k5] := by
        obtain ⟨l⟩ := sl
        simp only at hs
        rw [hs]
      subst es
      exact ⟨nm, qn, ns, bs, bm, sn, sub, ab, col, dd, k0, k1, k2, k3, k5, ho, y5⟩
    · cases h0
  · cases h0
def ecB (K : PySem.W.Frag) (D : Addr) : Bool := decide (PySem.W.findIn K (.ref D) "__class__" = some (some (.builtin "object.__class__"))) &&
  (decide (PySem.W.specialIn K (.builtin "object.__class__") "__get__" = some (some (.builtin "getset_descriptor.__get__"))) && (decide (PySem.W.takesIn K (.builtin "object.__class__") = some true) && decide (PySem.W.mroIn K D (.type "object") = some true)))
theorem ecB_ok {K : PySem.W.Frag} {D : Addr} (x : XfC K D) (h : ecB K D = true) : ExcC K D := by
  obtain ⟨h1, h⟩ := He.ba h
  obtain ⟨h2, h⟩ := He.ba h
  obtain ⟨h3, h4⟩ := He.ba h
  exact ⟨x.ga, x.gg, x.exC, x.hdC, of_decide_eq_true h1, of_decide_eq_true h2, of_decide_eq_true h3, of_decide_eq_true h4⟩
/-- such a class: x its name, q its __init__'s qualified name, st that def, ps its parameters -/
structure Exn (K : PySem.W.Frag) (mg : Str → Option Value) (x q : Str) (st : Stmt) (ps : List Str) : Prop where
  cx : OexC K (He.ga K x)
  g : mg x = some (.ref (He.ga K x))
  ini : PySem.W.findIn K (.ref (He.ga K x)) "__init__" = some (some (.ref (He.ma K (He.ga K x) "__init__")))
  ity : PySem.W.typeIn K (.ref (He.ma K (He.ga K x) "__init__")) = some (.type "function")
  fn : FunD K "__init__" q (defArgs st) (defBody st) (defScope st) [] [] (He.ma K (He.ga K x) "__init__") (fdAt K (He.ma K (He.ga K x) "__init__"))
  b : Binds K (fdAt K (He.ma K (He.ga K x) "__init__")) ps []
  xf : XfC K (He.ga K x)
  ec : ExcC K (He.ga K x)
def exnB (K : PySem.W.Frag) (x : Str) : Bool := oexB K (He.ga K x) && (xfB K (He.ga K x) && (ecB K (He.ga K x) && (decide (PySem.W.findIn K (.ref (He.ga K x)) "__init__" = some (some (.ref (He.ma K (He.ga K x) "__init__")))) && decide (PySem.W.typeIn K (.ref (He.ma K (He.ga K x) "__init__")) = some (.type "function")))))
theorem exn_mk {K : PySem.W.Frag} {mg : Str → Option Value} {x q : Str} {st : Stmt} {ps : List Str} {fd : FuncData} (h : exnB K x = true) (g : mg x = some (.ref (He.ga K x)))
    (F : FunD K "__init__" q (defArgs st) (defBody st) (defScope st) [] [] (He.ma K (He.ga K x) "__init__") fd)
    (hb : ∀ (kV doc pm : Value) (an : Option Addr) (cdv ct : Value) (us : List Value), us.length = ps.length → bindArgs (PySem.W.fnOf "__init__" q (defArgs st) (defBody st) (defScope st) .none kV doc pm an cdv ct) ⟨us, []⟩ = pure (ps.zip us)) : Exn K mg x q st ps := by
  obtain ⟨h1, h⟩ := He.ba h
  obtain ⟨h2, h⟩ := He.ba h
  obtain ⟨h3, h⟩ := He.ba h
  obtain ⟨h4, h5⟩ := He.ba h
  have e := fdAt_eq F
  exact ⟨oexB_ok h1, g, of_decide_eq_true h4, of_decide_eq_true h5, by rw [e]; exact F, by rw [e]; exact F.bindsN hb, xfB_ok h2, ecB_ok (xfB_ok h2) h3⟩
/-- an __init__ of one field -/
def spIni1 (C : Addr) (f : Str) : Sp := fun vs H Q _ => ∃ (a : Addr) (v : V), vs = [.ref a, v] ∧ H a = some (exo a C none) ∧ ∀ dx, H dx = none → dx ≠ a → Q .non (upd (upd H dx (exd dx [(f, v)])) a (exo a C (some dx)))
/-- raise X(v): the wish, for any new dict of the error -/
theorem raise1 {C : Addr} {f : Str} {v : V} {H : Hp} {Q : XK} (h : ∀ d H', H d = none → Same H H' → H' d = some (.xd [(f, v)]) → Q (.ref C) (some d) H') :
    [v].length ≤ 1000 ∧ ∀ a, H a = none → spIni1 C f (.ref a :: ([v] ++ [])) (upd H a (exo a C none))
      (fun u H2 => u = .non ∧ ∃ (d : Addr) (fs : List (Str × V)), H2 a = some (exo a C (some d)) ∧ H2 d = some (exd d fs) ∧ H d = none ∧ Q (.ref C) (some d) (upd (del H2 a) d (.xd fs))) (fun _ _ _ => False) := by
  refine ⟨by simp, fun a ha => ⟨a, v, rfl, upd_same, fun dx hdx hne => ⟨rfl, dx, [(f, v)], upd_same, ?_, ?_, ?_⟩⟩⟩
  · rw [upd_ne hne, upd_same]
  · rw [upd_ne hne] at hdx
    exact hdx
  · rw [upd_ne hne] at hdx
    refine h dx _ hdx (fun b o hb => ?_) upd_same
    have n1 : b ≠ dx := ne_of_none hb hdx
    have n2 : b ≠ a := ne_of_none hb ha
    rw [upd_ne n1, del_ne n2, upd_ne n2, upd_ne n1, upd_ne n2]
    exact hb
end Sw
set_option Elab.async false
set_option linter.all false
set_option maxRecDepth 100000
set_option maxHeartbeats 4000000
/-! plain mathematics of lexemes: no program in sight -/
namespace Sw
open PySem PySem.Spec PyProof.Rows L2 SX
abbrev tl (x : Str) : List Nat := x.cps.toList
theorem tl_S (l : List Nat) : tl (S l) = l := rfl
theorem S_tl' (x : Str) : S (tl x) = x := SX.S_tl x
theorem tl_app (a b : Str) : tl (a ++ b) = tl a ++ tl b := TL.tl_append a b
theorem tl_len (a : Str) : (tl a).length = a.length := by simp [Str.length]
theorem tl_inj {a b : Str} (h : tl a = tl b) : a = b := TL.ext_tl h
def isSm (c : Nat) : Bool := decide (97 ≤ c) && decide (c ≤ 122)
def isGr (c : Nat) : Bool := decide (65 ≤ c) && decide (c ≤ 90)
def isFi (c : Nat) : Bool := decide (48 ≤ c) && decide (c ≤ 57)
def isAl (c : Nat) : Bool := isSm c || isGr c || isFi c
theorem mem_rng (lo : Nat) : ∀ (n c : Nat), c ∈ List.range' lo n ↔ lo ≤ c ∧ c < lo + n := fun n c => by
  rw [List.mem_range'_1]
theorem in_sm (c : Nat) : decide (c ∈ tl "abcdefghijklmnopqrstuvwxyz") = isSm c := by
  have e : tl "abcdefghijklmnopqrstuvwxyz" = List.range' 97 26 := by decide +kernel
  rw [e]
  unfold isSm
  rw [Bool.eq_iff_iff, decide_eq_true_eq, Bool.and_eq_true, decide_eq_true_eq, decide_eq_true_eq, mem_rng]
  omega
theorem in_gr (c : Nat) : decide (c ∈ tl "ABCDEFGHIJKLMNOPQRSTUVWXYZ") = isGr c := by
  have e : tl "ABCDEFGHIJKLMNOPQRSTUVWXYZ" = List.range' 65 26 := by decide +kernel
  rw [e]
  unfold isGr
  rw [Bool.eq_iff_iff, decide_eq_true_eq, Bool.and_eq_true, decide_eq_true_eq, decide_eq_true_eq, mem_rng]
  omega
theorem in_fi (c : Nat) : decide (c ∈ tl "0123456789") = isFi c := by
  have e : tl "0123456789" = List.range' 48 10 := by decide +kernel
  rw [e]
  unfold isFi
  rw [Bool.eq_iff_iff, decide_eq_true_eq, Bool.and_eq_true, decide_eq_true_eq, decide_eq_true_eq, mem_rng]
  omega
theorem in_al (c : Nat) : decide (c ∈ tl ("abcdefghijklmnopqrstuvwxyz" ++ "ABCDEFGHIJKLMNOPQRSTUVWXYZ" ++ "0123456789" : Str)) = isAl c := by
  unfold isAl
  rw [← in_sm, ← in_gr, ← in_fi, tl_app, tl_app, Bool.eq_iff_iff]
  simp only [decide_eq_true_eq, Bool.or_eq_true, List.mem_append]
/-- how many from the left are so, at most n -/
def runLen (p : Nat → Bool) : Nat → List Nat → Nat
  | 0, _ => 0
  | _ + 1, [] => 0
  | n + 1, c :: r => if p c = true then runLen p n r + 1 else 0
theorem runLen_le (p : Nat → Bool) : ∀ (n : Nat) (s : List Nat), runLen p n s ≤ s.length
  | 0, _ => Nat.zero_le _
  | _ + 1, [] => Nat.zero_le _
  | n + 1, c :: r => by
    unfold runLen
    have h := runLen_le p n r
    split
    · rw [List.length_cons]
      omega
    · exact Nat.zero_le _
theorem runLen_cap (p : Nat → Bool) : ∀ (n : Nat) (s : List Nat), runLen p n s ≤ n
  | 0, _ => Nat.zero_le _
  | _ + 1, [] => Nat.zero_le _
  | n + 1, c :: r => by
    unfold runLen
    have h := runLen_cap p n r
    split <;> omega
/-- the run's end, as a loop finds it: all ahead are so, and it is the cap, the end, or one that isn't -/
theorem runLen_is {p : Nat → Bool} : ∀ {n : Nat} {s : List Nat} {k : Nat}, k ≤ n → (∀ j c, j < k → s[j]? = some c → p c = true) → k ≤ s.length → (k = n ∨ k = s.length ∨ ∃ c, s[k]? = some c ∧ p c = false) → runLen p n s = k
  | 0, s, k, h, _, _, _ => by
    have e : k = 0 := by omega
    subst e
    rfl
  | n + 1, [], k, _, _, h, _ => by
    have e : k = 0 := by simpa using h
    subst e
    rfl
  | n + 1, c :: r, 0, _, _, _, h => by
    rcases h with h | h | ⟨d, h1, h2⟩
    · omega
    · simp at h
    · have e : c = d := Option.some.inj h1
      subst e
      unfold runLen
      rw [if_neg (by rw [h2]; decide)]
  | n + 1, c :: r, k + 1, h, ha, hl, hx => by
    have hc : p c = true := ha 0 c (by omega) rfl
    unfold runLen
    rw [if_pos hc]
    refine congrArg (· + 1) (runLen_is (by omega) (fun j d hj hd => ha (j + 1) d (by omega) hd) (by simpa using hl) ?_)
    rcases hx with hx | hx | ⟨d, h1, h2⟩
    · exact .inl (by omega)
    · exact .inr (.inl (by simpa using hx))
    · exact .inr (.inr ⟨d, h1, h2⟩)
def isP : List Nat → List Nat → Bool
  | [], _ => true
  | _ :: _, [] => false
  | a :: l, b :: r => decide (a = b) && isP l r
theorem isP_take : ∀ (p s : List Nat), isP p s = decide (p.length ≤ s.length ∧ s.take p.length = p)
  | [], s => by simp [isP]
  | _ :: _, [] => by simp [isP]
  | a :: l, b :: r => by
    unfold isP
    rw [isP_take l r, Bool.eq_iff_iff]
    simp only [Bool.and_eq_true, decide_eq_true_eq, List.length_cons, List.take_succ_cons, List.cons.injEq]
    constructor
    · rintro ⟨rfl, h1, h2⟩
      exact ⟨by omega, rfl, h2⟩
    · rintro ⟨h1, rfl, h2⟩
      exact ⟨rfl, by omega, h2⟩
/-- row.startswith(sign, at) -/
theorem starts3 (a b : Str) (i : Nat) (h : i ≤ (tl a).length) : Txt.startswith3 a b (i : Int) = isP (tl b) ((tl a).drop i) := by
  unfold Txt.startswith3
  have e : fromIndex a.length (i : Int) = i := by
    unfold fromIndex
    rw [if_neg (by omega)]
    omega
  rw [e, isP_take, ← tl_len a, ← tl_len b, List.length_drop]
  unfold Builtin.Str.subAt
  rw [← tl_len b]
  rw [Bool.eq_iff_iff]
  simp only [Bool.and_eq_true, decide_eq_true_eq, beq_iff_eq]
  have key : (a.cps.extract i (i + (tl b).length) = b.cps) ↔ ((tl a).drop i).take (tl b).length = tl b := by
    constructor
    · intro h1
      have h2 := congrArg Array.toList h1
      rw [Array.toList_extract, List.extract_eq_take_drop] at h2
      rw [show i + (tl b).length - i = (tl b).length by omega] at h2
      exact h2
    · intro h1
      apply Array.toList_inj.mp
      rw [Array.toList_extract, List.extract_eq_take_drop]
      rw [show i + (tl b).length - i = (tl b).length by omega]
      exact h1
  rw [key]
  constructor
  · rintro ⟨h1, h2⟩
    exact ⟨by omega, h2⟩
  · rintro ⟨h1, h2⟩
    exact ⟨by omega, h2⟩
theorem cut_at (a : Str) (i j : Nat) (h : i ≤ j) (h2 : j ≤ (tl a).length) : cutS a (some (i : Int)) (some (j : Int)) = S (((tl a).drop i).take (j - i)) := by
  unfold cutS
  have e1 := HT.sIx_nat a.length 0 i
  have e2 := HT.sIx_nat a.length a.length j
  rw [e1, e2, ← tl_len a, Nat.min_eq_left (show i ≤ (tl a).length by omega), Nat.min_eq_left h2]
def WORDS : List Str := ["data", "let", "in", "if", "then", "else", "case", "of", "fun"]
def SIGNS : List Str := ["->", "==", "=", "|", "(", ")", "+", "-", "*", "<", "_"]
/-- the lexeme that begins a rest of a row: its sort and length -/
def lexOne (s : List Nat) : Str × Nat := match s with
  | [] => ("none", 0)
  | c :: r => if isSm c = true then (if S (s.take (runLen isSm 8 s)) ∈ WORDS then "word" else "name", runLen isSm 8 s)
    else if isGr c = true then ("maker", 1 + runLen isSm 7 r)
    else if c = 48 then ("number", 1)
    else if isFi c = true then ("number", runLen isFi s.length s)
    else match SIGNS.find? fun g => isP (tl g) s with
      | some g => ("sign", g.length)
      | none => ("none", 0)
structure Tk where
  row : Nat
  col : Nat
  sort : Str
  word : Str
/-- the lexemes of a rest of a row that begins at a place: what is found, or where none goes on -/
inductive LexR (num : Nat) : Nat → List Nat → Option (Nat × Nat) → List Tk → Prop
  | fin {i : Nat} {s : List Nat} : s = [] ∨ isP [45, 45] s = true → LexR num i s none []
  | blank {i : Nat} {r : List Nat} {e : Option (Nat × Nat)} {ts : List Tk} : LexR num (i + 1) r e ts → LexR num i (32 :: r) e ts
  | tok {i : Nat} {s : List Nat} {e : Option (Nat × Nat)} {ts : List Tk} {so : Str} {n : Nat} : s ≠ [] → s.head? ≠ some 32 → isP [45, 45] s = false → lexOne s = (so, n) → so ≠ "none" → 1 ≤ n → n ≤ s.length →
      (so ≠ "sign" → ∀ c, (s.drop n).head? = some c → isAl c = false) → LexR num (i + n) (s.drop n) e ts → LexR num i s e (⟨num, i + 1, so, S (s.take n)⟩ :: ts)
  | none {i : Nat} {s : List Nat} {n : Nat} : s ≠ [] → s.head? ≠ some 32 → isP [45, 45] s = false → lexOne s = (("none" : Str), n) → LexR num i s (some (num, i + 1)) []
  | glued {i : Nat} {s : List Nat} {so : Str} {n : Nat} {c : Nat} : s ≠ [] → s.head? ≠ some 32 → isP [45, 45] s = false → lexOne s = (so, n) → so ≠ "none" → n ≤ s.length →
      so ≠ "sign" → (s.drop n).head? = some c → isAl c = true → LexR num i s (some (num, i + n + 1)) []
/-! ### words that are lexemes, and what may stand behind them -/
def TokOk (so w : Str) : Prop :=
  (so = "name" ∧ (tl w).all isSm = true ∧ 1 ≤ (tl w).length ∧ (tl w).length ≤ 8 ∧ w ∉ WORDS) ∨ (so = "word" ∧ w ∈ WORDS) ∨
  (so = "maker" ∧ ∃ c r, tl w = c :: r ∧ isGr c = true ∧ r.all isSm = true ∧ r.length ≤ 7) ∨
  (so = "number" ∧ (tl w = [48] ∨ ∃ c r, tl w = c :: r ∧ isFi c = true ∧ c ≠ 48 ∧ r.all isFi = true)) ∨ (so = "sign" ∧ w ∈ SIGNS)
def HeadNot (p : Nat → Prop) (l : List Nat) : Prop := ∀ c, l.head? = some c → ¬ p c
def Sep (so w : Str) (rest : List Nat) : Prop :=
  (so ≠ "sign" → HeadNot (fun c => isAl c = true) rest) ∧ (so = "sign" → (w = "-" → HeadNot (fun c => c = 62 ∨ c = 45) rest) ∧ (w = "=" → HeadNot (fun c => c = 61) rest))
theorem runLen_app {p : Nat → Bool} : ∀ (l rest : List Nat) (n : Nat), l.all p = true → l.length ≤ n → HeadNot (fun c => p c = true) rest → runLen p n (l ++ rest) = l.length
  | [], rest, n, _, _, h => by
    cases n with
    | zero => rfl
    | succ n =>
      cases rest with
      | nil => rfl
      | cons c r =>
        show (if p c = true then runLen p n r + 1 else 0) = 0
        rw [if_neg (h c rfl)]
  | c :: l, rest, 0, _, h, _ => by simp at h
  | c :: l, rest, n + 1, ha, hl, h => by
    rw [List.all_cons, Bool.and_eq_true] at ha
    show (if p c = true then runLen p n (l ++ rest) + 1 else 0) = (c :: l).length
    rw [if_pos ha.1, runLen_app l rest n ha.2 (by simpa using hl) h]
    rfl
/-- .. where all that may be is taken -/
theorem runLen_full {p : Nat → Bool} : ∀ (l rest : List Nat), l.all p = true → runLen p l.length (l ++ rest) = l.length
  | [], rest, _ => rfl
  | c :: l, rest, ha => by
    rw [List.all_cons, Bool.and_eq_true] at ha
    show (if p c = true then runLen p l.length (l ++ rest) + 1 else 0) = (c :: l).length
    rw [if_pos ha.1, runLen_full l rest ha.2]
    rfl
theorem words_sm : ∀ w ∈ WORDS, (tl w).all isSm = true ∧ 1 ≤ (tl w).length ∧ (tl w).length ≤ 8 := by decide +kernel
theorem sm_not_al {l : List Nat} (h : HeadNot (fun c => isAl c = true) l) : HeadNot (fun c => isSm c = true) l := fun c e z => h c e (by show (isSm c || isGr c || isFi c) = true; rw [show isSm c = true from z]; rfl)
theorem fi_not_al {l : List Nat} (h : HeadNot (fun c => isAl c = true) l) : HeadNot (fun c => isFi c = true) l := fun c e z => h c e (by show (isSm c || isGr c || isFi c) = true; rw [show isFi c = true from z, Bool.or_true])
theorem sm_rng {c : Nat} (h : isSm c = true) : 97 ≤ c ∧ c ≤ 122 := by
  unfold isSm at h
  rw [Bool.and_eq_true, decide_eq_true_eq, decide_eq_true_eq] at h
  exact h
theorem gr_rng {c : Nat} (h : isGr c = true) : 65 ≤ c ∧ c ≤ 90 := by
  unfold isGr at h
  rw [Bool.and_eq_true, decide_eq_true_eq, decide_eq_true_eq] at h
  exact h
theorem fi_rng {c : Nat} (h : isFi c = true) : 48 ≤ c ∧ c ≤ 57 := by
  unfold isFi at h
  rw [Bool.and_eq_true, decide_eq_true_eq, decide_eq_true_eq] at h
  exact h
theorem not_sm {c : Nat} (h : ¬ (97 ≤ c ∧ c ≤ 122)) : ¬ isSm c = true := fun z => h (sm_rng z)
theorem not_gr {c : Nat} (h : ¬ (65 ≤ c ∧ c ≤ 90)) : ¬ isGr c = true := fun z => h (gr_rng z)
theorem not_fi {c : Nat} (h : ¬ (48 ≤ c ∧ c ≤ 57)) : ¬ isFi c = true := fun z => h (fi_rng z)
/-- what a lexeme must be for the lexer: its first sign is no blank, no remark, and it is taken whole -/
structure Taken (so w : Str) (s : List Nat) : Prop where
  ne : s ≠ []
  nb : s.head? ≠ some 32
  nr : isP [45, 45] s = false
  one : lexOne s = (so, (tl w).length)
  pos : 1 ≤ (tl w).length
theorem lexOne_sm {w : Str} {rest : List Nat} (h1 : (tl w).all isSm = true) (h2 : 1 ≤ (tl w).length) (h3 : (tl w).length ≤ 8) (h4 : HeadNot (fun c => isAl c = true) rest) : Taken (if w ∈ WORDS then "word" else "name") w (tl w ++ rest) := by
  have hr := runLen_app (p := isSm) (tl w) rest 8 h1 h3 (sm_not_al h4)
  have ht : S ((tl w ++ rest).take (tl w).length) = w := by rw [List.take_left]
  cases e : tl w with
  | nil =>
    rw [e] at h2
    simp at h2
  | cons c r =>
    rw [e] at h1 hr ht
    rw [List.all_cons, Bool.and_eq_true] at h1
    have hc := sm_rng h1.1
    refine ⟨by simp, ?_, ?_, ?_, h2⟩
    · rw [List.cons_append, List.head?_cons]
      intro z
      have := Option.some.inj z
      omega
    · show (decide (45 = c) && _) = false
      rw [decide_eq_false (by omega)]
      rfl
    · rw [List.cons_append] at hr ht ⊢
      unfold lexOne
      simp only
      rw [if_pos h1.1, hr, ht, e]
theorem TokOk.taken {so w : Str} {rest : List Nat} (h : TokOk so w) (hs : Sep so w rest) : Taken so w (tl w ++ rest) := by
  rcases h with ⟨rfl, h1, h2, h3, h4⟩ | ⟨rfl, h1⟩ | ⟨rfl, c, r, e, h1, h2, h3⟩ | ⟨rfl, h1⟩ | ⟨rfl, h1⟩
  · have t := lexOne_sm h1 h2 h3 (hs.1 (by decide +kernel))
    rw [if_neg h4] at t
    exact t
  · obtain ⟨a, b, c⟩ := words_sm w h1
    have t := lexOne_sm a b c (hs.1 (by decide +kernel))
    rw [if_pos h1] at t
    exact t
  · have hh := hs.1 (by decide +kernel)
    have hc := gr_rng h1
    rw [e]
    refine ⟨by simp, ?_, ?_, ?_, by rw [e]; simp⟩
    · rw [List.cons_append, List.head?_cons]
      intro z
      have := Option.some.inj z
      omega
    · show (decide (45 = c) && _) = false
      rw [decide_eq_false (by omega)]
      rfl
    · rw [List.cons_append]
      unfold lexOne
      simp only
      rw [if_neg (not_sm (by omega)), if_pos h1, runLen_app r rest 7 h2 h3 (sm_not_al hh), e, List.length_cons, Nat.add_comm]
  · have hh := hs.1 (by decide +kernel)
    rcases h1 with e | ⟨c, r, e, h1, h2, h3⟩
    · rw [e]
      refine ⟨by simp, by simp, rfl, ?_, by rw [e]; simp⟩
      rw [e]
      rfl
    · have hc := fi_rng h1
      rw [e]
      refine ⟨by simp, ?_, ?_, ?_, by rw [e]; simp⟩
      · rw [List.cons_append, List.head?_cons]
        intro z
        have := Option.some.inj z
        omega
      · show (decide (45 = c) && _) = false
        rw [decide_eq_false (by omega)]
        rfl
      · have ha : (c :: r).all isFi = true := by rw [List.all_cons, h1, h3]; rfl
        have hr := runLen_app (p := isFi) (c :: r) rest ((c :: r) ++ rest).length ha (by simp) (fi_not_al hh)
        rw [List.cons_append] at hr ⊢
        unfold lexOne
        simp only
        rw [if_neg (not_sm (by omega)), if_neg (not_gr (by omega)), if_neg h2, if_pos h1, hr, e]
  · obtain ⟨_, hs2⟩ := hs
    obtain ⟨hm, hq⟩ := hs2 rfl
    have fin : ∀ (g : Str) (gl : List Nat), tl g = gl → gl ≠ [] → gl.head? ≠ some 32 → isP [45, 45] (gl ++ rest) = false → lexOne (gl ++ rest) = (("sign" : Str), gl.length) → Taken "sign" g (tl g ++ rest) := by
      intro g gl e1 e2 e3 e4 e5
      subst e1
      refine ⟨by simp [e2], ?_, e4, e5, ?_⟩
      · cases q : tl g with
        | nil => exact absurd q e2
        | cons a b =>
          rw [q] at e3
          exact e3
      · cases q : tl g with
        | nil => exact absurd q e2
        | cons a b => simp
    have hne : ∀ {p : Nat → Prop} {c : Nat} {r : List Nat}, HeadNot p (c :: r) → ¬ p c := fun h => h _ rfl
    simp only [SIGNS, List.mem_cons, List.mem_nil_iff, or_false] at h1
    rcases h1 with rfl | rfl | rfl | rfl | rfl | rfl | rfl | rfl | rfl | rfl | rfl
    · exact fin _ [45, 62] (by decide +kernel) (by simp) (by simp) (by simp [isP]) rfl
    · exact fin _ [61, 61] (by decide +kernel) (by simp) (by simp) (by simp [isP]) rfl
    · have h := hq rfl
      refine fin _ [61] (by decide +kernel) (by simp) (by simp) (by simp [isP]) ?_
      cases rest with
      | nil => rfl
      | cons c r =>
        have h2 := hne h
        have e : SIGNS.find? (fun g => isP (tl g) (61 :: c :: r)) = some ("=" : Str) := by
          simp only [SIGNS, List.find?]
          have e1 : isP (tl "->") (61 :: c :: r) = false := rfl
          have e2 : isP (tl "==") (61 :: c :: r) = false := by
            show (decide (61 = 61) && (decide (61 = c) && _)) = false
            rw [decide_eq_false (show ¬ 61 = c by omega)]
            rfl
          have e3 : isP (tl "=") (61 :: c :: r) = true := rfl
          rw [e1, e2, e3] <;> rfl
        show lexOne (61 :: c :: r) = _
        unfold lexOne
        simp only
        rw [if_neg (by decide), if_neg (by decide), if_neg (by decide), if_neg (by decide), e]
        rfl
    · exact fin _ [124] (by decide +kernel) (by simp) (by simp) (by simp [isP]) rfl
    · exact fin _ [40] (by decide +kernel) (by simp) (by simp) (by simp [isP]) rfl
    · exact fin _ [41] (by decide +kernel) (by simp) (by simp) (by simp [isP]) rfl
    · exact fin _ [43] (by decide +kernel) (by simp) (by simp) (by simp [isP]) rfl
    · have h := hm rfl
      refine fin _ [45] (by decide +kernel) (by simp) (by simp) ?_ ?_
      · cases rest with
        | nil => rfl
        | cons c r =>
          have h2 := hne h
          show (decide (45 = 45) && (decide (45 = c) && _)) = false
          rw [decide_eq_false (show ¬ 45 = c by omega)]
          rfl
      · cases rest with
        | nil => rfl
        | cons c r =>
          have h2 := hne h
          have e : SIGNS.find? (fun g => isP (tl g) (45 :: c :: r)) = some ("-" : Str) := by
            simp only [SIGNS, List.find?]
            have e1 : isP (tl "->") (45 :: c :: r) = false := by
              show (decide (45 = 45) && (decide (62 = c) && _)) = false
              rw [decide_eq_false (show ¬ 62 = c by omega)]
              rfl
            have e2 : isP (tl "==") (45 :: c :: r) = false := rfl
            have e3 : isP (tl "=") (45 :: c :: r) = false := rfl
            have e4 : isP (tl "|") (45 :: c :: r) = false := rfl
            have e5 : isP (tl "(") (45 :: c :: r) = false := rfl
            have e6 : isP (tl ")") (45 :: c :: r) = false := rfl
            have e7 : isP (tl "+") (45 :: c :: r) = false := rfl
            have e8 : isP (tl "-") (45 :: c :: r) = true := rfl
            rw [e1, e2, e3, e4, e5, e6, e7, e8] <;> rfl
          show lexOne (45 :: c :: r) = _
          unfold lexOne
          simp only
          rw [if_neg (by decide), if_neg (by decide), if_neg (by decide), if_neg (by decide), e]
          rfl
    · exact fin _ [42] (by decide +kernel) (by simp) (by simp) (by simp [isP]) rfl
    · exact fin _ [60] (by decide +kernel) (by simp) (by simp) (by simp [isP]) rfl
    · exact fin _ [95] (by decide +kernel) (by simp) (by simp) (by simp [isP]) rfl
/-! ### a row that is put together from the left -/
def RowI (num : Nat) (line : List Nat) (ts : List Tk) (ok : List Nat → Prop) : Prop := ∀ rest e us, ok rest → LexR num line.length rest e us → LexR num 0 (line ++ rest) e (ts ++ us)
theorem lex_blk (num : Nat) : ∀ (k i : Nat) (rest : List Nat) {e : Option (Nat × Nat)} {us : List Tk}, LexR num (i + k) rest e us → LexR num i (List.replicate k 32 ++ rest) e us
  | 0, i, rest, e, us, h => h
  | k + 1, i, rest, e, us, h => by
    rw [List.replicate_succ, List.cons_append]
    refine .blank (lex_blk num k (i + 1) rest ?_)
    rw [show i + 1 + k = i + (k + 1) by omega]
    exact h
theorem RowI.start (num k : Nat) : RowI num (List.replicate k 32) [] (fun _ => True) := fun rest e us _ h => by
  rw [List.length_replicate] at h
  exact lex_blk num k 0 rest (by rw [Nat.zero_add]; exact h)
theorem RowI.blanks {num : Nat} {line : List Nat} {ts : List Tk} {ok : List Nat → Prop} (h : RowI num line ts ok) (k : Nat) (hk : ∀ r, ok (32 :: r)) : RowI num (line ++ List.replicate (k + 1) 32) ts (fun _ => True) := fun rest e us _ hl => by
  rw [List.append_assoc]
  refine h _ e us ?_ (lex_blk num (k + 1) line.length rest ?_)
  · rw [List.replicate_succ, List.cons_append]
    exact hk _
  · rw [List.length_append, List.length_replicate] at hl
    exact hl
theorem RowI.tok {num : Nat} {line : List Nat} {ts : List Tk} {ok : List Nat → Prop} {so w : Str} (h : RowI num line ts ok) (t : TokOk so w) (hk : ∀ r, ok (tl w ++ r)) (hn : so ≠ "none") :
    RowI num (line ++ tl w) (ts ++ [⟨num, line.length + 1, so, w⟩]) (Sep so w) := fun rest e us hs hl => by
  rw [List.append_assoc]
  have q := t.taken hs
  rw [List.append_assoc]
  refine h _ e _ (hk rest) ?_
  have d : (tl w ++ rest).drop (tl w).length = rest := List.drop_left
  have tk : (tl w ++ rest).take (tl w).length = tl w := List.take_left
  have r : LexR num line.length (tl w ++ rest) e (⟨num, line.length + 1, so, S ((tl w ++ rest).take (tl w).length)⟩ :: us) := by
    refine .tok q.ne q.nb q.nr q.one hn q.pos (by simp) (fun z c hc => ?_) ?_
    · rw [d] at hc
      have := hs.1 z c hc
      simpa using this
    · rw [d]
      rw [List.length_append] at hl
      exact hl
  rw [tk, S_tl'] at r
  exact r
theorem RowI.done {num : Nat} {line : List Nat} {ts : List Tk} {ok : List Nat → Prop} (h : RowI num line ts ok) (h0 : ok []) : LexR num 0 line none ts := by
  have r := h [] none [] h0 (.fin (.inl rfl))
  rw [List.append_nil, List.append_nil] at r
  exact r
theorem RowI.remark {num : Nat} {line : List Nat} {ts : List Tk} {ok : List Nat → Prop} (h : RowI num line ts ok) (hk : ∀ r, ok (32 :: r)) (r : List Nat) : LexR num 0 (line ++ 32 :: 45 :: 45 :: r) none ts := by
  have q := h (32 :: 45 :: 45 :: r) none [] (hk _) (.blank (.fin (.inr rfl)))
  rw [List.append_nil] at q
  exact q
theorem Sep.blank (so w : Str) (r : List Nat) : Sep so w (32 :: r) := by
  have e : ∀ {p : Nat → Prop}, ¬ p 32 → HeadNot p (32 :: r) := fun h c hc => by
    have z := Option.some.inj hc
    rw [← z]
    exact h
  exact ⟨fun _ => e (by decide), fun _ => ⟨fun _ => e (by decide), fun _ => e (by decide)⟩⟩
theorem Sep.nil (so w : Str) : Sep so w [] := ⟨fun _ c h => by simp at h, fun _ => ⟨fun _ c h => by simp at h, fun _ c h => by simp at h⟩⟩
end Sw
set_option Elab.async false
set_option linter.all false
set_option maxRecDepth 100000
set_option maxHeartbeats 4000000
/-! plain mathematics of another reading of lexemes -/
namespace Sw
open PySem PySem.Spec PyProof.Rows L2 SX
def isAp (c : Nat) : Bool := isSm c || isGr c
theorem u_fi : ∀ c, c < 128 → Unicode.isDigit c = isFi c := by decide +kernel
theorem u_ap : ∀ c, c < 128 → Unicode.isAlpha c = isAp c := by decide +kernel
theorem u_al : ∀ c, c < 128 → Unicode.isAlnum c = isAl c := by decide +kernel
theorem u_lo : ∀ c, c < 128 → Txt.islower (S [c]) = isSm c := by decide +kernel
theorem u_up : ∀ c, c < 128 → Txt.isupper (S [c]) = isGr c := by decide +kernel
theorem all_eq {p q : Nat → Bool} {l : List Nat} (h : ∀ c ∈ l, p c = q c) : l.all p = l.all q := by
  induction l with
  | nil => rfl
  | cons a l ih => rw [List.all_cons, List.all_cons, h a (List.mem_cons_self ..), ih fun c hc => h c (List.mem_cons_of_mem _ hc)]
theorem cls_txt {u p : Nat → Bool} (hu : ∀ c, c < 128 → u c = p c) {l : List Nat} (h : ∀ c ∈ l, c < 128) : (decide ((S l).length > 0) && (S l).cps.all u) = (decide (l ≠ []) && l.all p) := by
  rw [S_len, ← Array.all_toList]
  show (decide (l.length > 0) && l.all u) = _
  rw [all_eq fun c hc => hu c (h c hc)]
  cases l <;> rfl
theorem t_digit {l : List Nat} (h : ∀ c ∈ l, c < 128) : Txt.isdigit (S l) = (decide (l ≠ []) && l.all isFi) := cls_txt u_fi h
theorem t_alpha {l : List Nat} (h : ∀ c ∈ l, c < 128) : Txt.isalpha (S l) = (decide (l ≠ []) && l.all isAp) := cls_txt u_ap h
theorem t_alnum {l : List Nat} (h : ∀ c ∈ l, c < 128) : Txt.isalnum (S l) = (decide (l ≠ []) && l.all isAl) := cls_txt u_al h
theorem t_lower0 : Txt.islower (S []) = false := by decide +kernel
/-- a slice of a row, its end perhaps beyond -/
theorem cut_to (a : Str) (i j : Nat) (h : i ≤ j) (hi : i ≤ (tl a).length) : cutS a (some (i : Int)) (some (j : Int)) = S (((tl a).drop i).take (j - i)) := by
  unfold cutS
  have e1 := HT.sIx_nat a.length 0 i
  have e2 := HT.sIx_nat a.length a.length j
  rw [e1, e2, ← tl_len a, Nat.min_eq_left hi]
  by_cases hj : j ≤ (tl a).length
  · rw [Nat.min_eq_left hj]
  · rw [Nat.min_eq_right (by omega)]
    congr 2
    have q1 : ((tl a).drop i).length = (tl a).length - i := List.length_drop
    show List.take ((tl a).length - i) ((tl a).drop i) = List.take (j - i) ((tl a).drop i)
    rw [List.take_of_length_le (by omega), List.take_of_length_le (by omega)]
theorem runLen_step {p : Nat → Bool} {c : Nat} {r : List Nat} (n : Nat) (h : p c = true) : runLen p (n + 1) (c :: r) = runLen p n r + 1 := by
  show (if p c = true then runLen p n r + 1 else 0) = _
  rw [if_pos h]
theorem lexOne_fi {c : Nat} {r : List Nat} (h : isFi c = true) : lexOne (c :: r) = (("number" : Str), if c = 48 then 1 else runLen isFi r.length r + 1) := by
  have hc := fi_rng h
  unfold lexOne
  simp only
  rw [if_neg (not_sm (by omega)), if_neg (not_gr (by omega))]
  by_cases e : c = 48
  · rw [if_pos e, if_pos e]
  · rw [if_neg e, if_neg e, if_pos h, List.length_cons, runLen_step _ h]
theorem lexOne_ap {c : Nat} {r : List Nat} (h : isAp c = true) : (lexOne (c :: r)).2 = runLen isSm 7 r + 1 ∧ (lexOne (c :: r)).1 ≠ "none" := by
  unfold lexOne
  simp only
  by_cases hs : isSm c = true
  · rw [if_pos hs]
    refine ⟨runLen_step 7 hs, ?_⟩
    show (if S (List.take (runLen isSm 8 (c :: r)) (c :: r)) ∈ WORDS then ("word" : Str) else ("name" : Str)) ≠ ("none" : Str)
    split <;> decide +kernel
  · have hg : isGr c = true := by
      unfold isAp at h
      rcases Bool.or_eq_true_iff.mp h with h | h
      · exact absurd h hs
      · exact h
    rw [if_neg hs, if_pos hg]
    exact ⟨Nat.add_comm _ _, by show ("maker" : Str) ≠ ("none" : Str); decide +kernel⟩
def sg1 : List Nat := [61, 124, 40, 41, 43, 45, 42, 60, 95]
theorem sg1_eq : tl "=|()+-*<_" = sg1 := by decide +kernel
def TwoS (s : List Nat) : Bool := isP [45, 62] s || isP [61, 61] s
theorem find_other {c : Nat} {r : List Nat} (h : c ∉ sg1) : SIGNS.find? (fun g => isP (tl g) (c :: r)) = none := by
  rw [List.find?_eq_none]
  intro g hg
  have hh : ∀ g ∈ SIGNS, ∃ d l, tl g = d :: l ∧ d ∈ sg1 := by
    have h2 : ∀ g ∈ SIGNS, (match tl g with | [] => false | d :: _ => decide (d ∈ sg1)) = true := by decide +kernel
    intro g hg
    have q := h2 g hg
    cases e : tl g with
    | nil => rw [e] at q; cases q
    | cons d l => rw [e] at q; exact ⟨d, l, rfl, of_decide_eq_true q⟩
  obtain ⟨d, l, e, hd⟩ := hh g hg
  rw [e]
  show ¬ (decide (d = c) && isP l r) = true
  rw [decide_eq_false (fun z => h (by rw [← z]; exact hd)), Bool.false_and]
  decide
theorem lexOne_sg {c : Nat} {r : List Nat} (h1 : isFi c = false) (h2 : isAp c = false) :
    ((lexOne (c :: r)).1 = "none" ∧ (lexOne (c :: r)).2 = 0 ∧ TwoS (c :: r) = false ∧ c ∉ sg1) ∨ ((lexOne (c :: r)).1 = "sign" ∧ c ∈ sg1 ∧ (lexOne (c :: r)).2 = (if TwoS (c :: r) = true then 2 else 1) ∧ S ((c :: r).take (lexOne (c :: r)).2) ∈ SIGNS) := by
  have hs : ¬ isSm c = true := by unfold isAp at h2; intro z; rw [z] at h2; cases h2
  have hg : ¬ isGr c = true := by unfold isAp at h2; intro z; rw [z, Bool.or_true] at h2; cases h2
  have hf : ¬ isFi c = true := by rw [h1]; decide
  have h48 : ¬ c = 48 := fun z => by rw [z] at h1; cases h1
  have hl : lexOne (c :: r) = match SIGNS.find? fun g => isP (tl g) (c :: r) with | some g => (("sign" : Str), g.length) | none => (("none" : Str), 0) := by
    unfold lexOne
    simp only
    rw [if_neg hs, if_neg hg, if_neg h48, if_neg hf] <;> rfl
  by_cases hm : c ∈ sg1
  · right
    have hm2 := hm
    simp only [sg1, List.mem_cons, List.mem_nil_iff, or_false] at hm2
    rcases hm2 with rfl | rfl | rfl | rfl | rfl | rfl | rfl | rfl | rfl
    · cases r with
      | nil => exact ⟨rfl, hm, rfl, by decide +kernel⟩
      | cons d r =>
        by_cases hd : d = 61
        · subst hd
          exact ⟨rfl, hm, rfl, by show S [61, 61] ∈ SIGNS; decide +kernel⟩
        · have hf1 : SIGNS.find? (fun g => isP (tl g) (61 :: d :: r)) = some ("=" : Str) := by
            simp only [SIGNS, List.find?]
            have a1 : isP (tl "->") (61 :: d :: r) = false := rfl
            have a2 : isP (tl "==") (61 :: d :: r) = false := by
              show (decide (61 = 61) && (decide (61 = d) && _)) = false
              rw [decide_eq_false (show ¬ 61 = d by omega)]
              rfl
            have a3 : isP (tl "=") (61 :: d :: r) = true := rfl
            rw [a1, a2, a3] <;> rfl
          have ht : TwoS (61 :: d :: r) = false := by
            show (isP [45, 62] (61 :: d :: r) || (decide (61 = 61) && (decide (61 = d) && _))) = false
            rw [decide_eq_false (show ¬ 61 = d by omega)]
            rfl
          rw [hl, hf1, ht]
          exact ⟨rfl, hm, rfl, by show S [61] ∈ SIGNS; decide +kernel⟩
    · exact ⟨rfl, hm, rfl, by show S [124] ∈ SIGNS; decide +kernel⟩
    · exact ⟨rfl, hm, rfl, by show S [40] ∈ SIGNS; decide +kernel⟩
    · exact ⟨rfl, hm, rfl, by show S [41] ∈ SIGNS; decide +kernel⟩
    · exact ⟨rfl, hm, rfl, by show S [43] ∈ SIGNS; decide +kernel⟩
    · cases r with
      | nil => exact ⟨rfl, hm, rfl, by decide +kernel⟩
      | cons d r =>
        by_cases hd : d = 62
        · subst hd
          exact ⟨rfl, hm, rfl, by show S [45, 62] ∈ SIGNS; decide +kernel⟩
        · have hf1 : SIGNS.find? (fun g => isP (tl g) (45 :: d :: r)) = some ("-" : Str) := by
            simp only [SIGNS, List.find?]
            have a1 : isP (tl "->") (45 :: d :: r) = false := by
              show (decide (45 = 45) && (decide (62 = d) && _)) = false
              rw [decide_eq_false (show ¬ 62 = d by omega)]
              rfl
            have a2 : isP (tl "==") (45 :: d :: r) = false := rfl
            have a3 : isP (tl "=") (45 :: d :: r) = false := rfl
            have a4 : isP (tl "|") (45 :: d :: r) = false := rfl
            have a5 : isP (tl "(") (45 :: d :: r) = false := rfl
            have a6 : isP (tl ")") (45 :: d :: r) = false := rfl
            have a7 : isP (tl "+") (45 :: d :: r) = false := rfl
            have a8 : isP (tl "-") (45 :: d :: r) = true := rfl
            rw [a1, a2, a3, a4, a5, a6, a7, a8] <;> rfl
          have ht : TwoS (45 :: d :: r) = false := by
            show ((decide (45 = 45) && (decide (62 = d) && _)) || isP [61, 61] (45 :: d :: r)) = false
            rw [decide_eq_false (show ¬ 62 = d by omega)]
            rfl
          rw [hl, hf1, ht]
          exact ⟨rfl, hm, rfl, by show S [45] ∈ SIGNS; decide +kernel⟩
    · exact ⟨rfl, hm, rfl, by show S [42] ∈ SIGNS; decide +kernel⟩
    · exact ⟨rfl, hm, rfl, by show S [60] ∈ SIGNS; decide +kernel⟩
    · exact ⟨rfl, hm, rfl, by show S [95] ∈ SIGNS; decide +kernel⟩
  · left
    rw [hl, find_other hm]
    refine ⟨rfl, rfl, ?_, hm⟩
    have n1 : c ≠ 45 := fun z => hm (by rw [z]; decide)
    have n2 : c ≠ 61 := fun z => hm (by rw [z]; decide)
    show ((decide (45 = c) && _) || (decide (61 = c) && _)) = false
    rw [decide_eq_false n1.symm, decide_eq_false n2.symm]
    rfl
theorem run_all {p : Nat → Bool} : ∀ (n : Nat) (s : List Nat), (s.take (runLen p n s)).all p = true
  | 0, s => by simp [runLen]
  | n + 1, [] => by simp [runLen]
  | n + 1, c :: r => by
    unfold runLen
    split
    · rename_i h
      rw [List.take_succ_cons, List.all_cons, h, run_all n r]
      rfl
    · rfl
/-- what a lexeme's word is like -/
theorem tok_shape {c : Nat} {r : List Nat} {so : Str} {n : Nat} (h : lexOne (c :: r) = (so, n)) (hn : so ≠ "none") :
    (so = "number" ∧ ∃ l, (c :: r).take n = c :: l ∧ (c :: l).all isFi = true) ∨ (so = "maker" ∧ ∃ l, (c :: r).take n = c :: l ∧ isGr c = true ∧ l.all isSm = true) ∨
    (so = (if S ((c :: r).take n) ∈ WORDS then ("word" : Str) else "name") ∧ ∃ l, (c :: r).take n = c :: l ∧ (c :: l).all isSm = true) ∨ (so = "sign" ∧ S ((c :: r).take n) ∈ SIGNS) := by
  by_cases hf : isFi c = true
  · rw [lexOne_fi hf] at h
    obtain ⟨e1, e2⟩ := Prod.mk.inj h
    left
    refine ⟨e1.symm, ?_⟩
    by_cases e : c = 48
    · rw [if_pos e] at e2
      rw [← e2]
      exact ⟨[], rfl, by rw [List.all_cons, hf]; rfl⟩
    · rw [if_neg e] at e2
      rw [← e2, List.take_succ_cons]
      exact ⟨_, rfl, by rw [List.all_cons, hf, run_all]; rfl⟩
  · by_cases hs : isSm c = true
    · unfold lexOne at h
      simp only at h
      rw [if_pos hs] at h
      obtain ⟨e1, e2⟩ := Prod.mk.inj h
      right; right; left
      rw [← e1, ← e2]
      refine ⟨rfl, ?_⟩
      rw [runLen_step 7 hs, List.take_succ_cons]
      exact ⟨_, rfl, by rw [List.all_cons, hs, run_all]; rfl⟩
    · by_cases hg : isGr c = true
      · unfold lexOne at h
        simp only at h
        rw [if_neg hs, if_pos hg] at h
        obtain ⟨e1, e2⟩ := Prod.mk.inj h
        right; left
        rw [← e1, ← e2, Nat.add_comm 1, List.take_succ_cons]
        exact ⟨rfl, _, rfl, hg, run_all 7 r⟩
      · have h2 : isAp c = false := by
          unfold isAp
          simp at hs hg
          rw [hs, hg]
          rfl
        rcases lexOne_sg (r := r) (by simpa using hf) h2 with ⟨q, _⟩ | ⟨q1, _, _, q4⟩
        · rw [h] at q
          exact absurd q hn
        · rw [h] at q1 q4
          exact .inr (.inr (.inr ⟨q1, q4⟩))
theorem sm_ap {l : List Nat} (h : l.all isSm = true) : l.all isAl = true := by
  rw [List.all_eq_true] at h ⊢
  intro x hx
  unfold isAl
  rw [h x hx]
  rfl
theorem fi_al {l : List Nat} (h : l.all isFi = true) : l.all isAl = true := by
  rw [List.all_eq_true] at h ⊢
  intro x hx
  unfold isAl
  rw [h x hx, Bool.or_true]
/-- its last sign is a letter or a figure just where it is no sign -/
theorem tok_last {c : Nat} {r : List Nat} {so : Str} {n : Nat} {d : Nat} (h : lexOne (c :: r) = (so, n)) (hn : so ≠ "none") (hd : ((c :: r).take n).getLast? = some d) : isAl d = true ↔ so ≠ "sign" := by
  have mem : d ∈ (c :: r).take n := List.mem_of_getLast? hd
  rcases tok_shape h hn with ⟨e, l, e2, h2⟩ | ⟨e, l, e2, h2, h3⟩ | ⟨e, l, e2, h2⟩ | ⟨e, h2⟩
  · rw [e2] at mem
    have q := List.all_eq_true.mp (fi_al h2) d mem
    rw [q, e]
    exact ⟨fun _ => by decide +kernel, fun _ => rfl⟩
  · rw [e2] at mem
    have q : isAl d = true := by
      rcases List.mem_cons.mp mem with rfl | m
      · unfold isAl
        rw [h2]
        simp
      · exact List.all_eq_true.mp (sm_ap h3) d m
    rw [q, e]
    exact ⟨fun _ => by decide +kernel, fun _ => rfl⟩
  · rw [e2] at mem
    have q := List.all_eq_true.mp (sm_ap h2) d mem
    rw [q, e]
    refine ⟨fun _ => ?_, fun _ => rfl⟩
    split <;> decide +kernel
  · have hh : ∀ g ∈ SIGNS, ∀ d ∈ tl g, isAl d = false := by decide +kernel
    have q := hh _ h2 d mem
    rw [q, e]
    exact ⟨fun z => (by cases z), fun z => absurd rfl z⟩
end Sw
set_option Elab.async false
set_option linter.all false
set_option maxRecDepth 100000
set_option maxHeartbeats 4000000
namespace Sw
open PySem PySem.Spec PyProof.Rows L2 SX
def topS (i : Nat) : Stmt := PySem.Challenge.pw_slumberway_k02_where_no_lexeme_goes_on.main.body.getD i (.Pass ⟨0, 0, 0, 0⟩)
abbrev s_L_mixed : Stmt := topS 18
theorem sc_L_mixed : FnScope ["_law_cell", "_law_k", "_law_number"] ["_law_cell", "_law_k"] (defScope s_L_mixed) := ⟨rfl, rfl, rfl, by decide +kernel, rfl, by decide +kernel, by decide +kernel⟩
abbrev s_L_purse : Stmt := topS 19
theorem sc_L_purse : FnScope ["_law_cell", "_law_k"] ["_law_cell", "_law_k"] (defScope s_L_purse) := ⟨rfl, rfl, rfl, by decide +kernel, rfl, by decide +kernel, by decide +kernel⟩
abbrev s_L_take : Stmt := topS 20
theorem sc_L_take : FnScope ["_law_purse_here", "_law_many", "_law_got"] ["_law_purse_here", "_law_many"] (defScope s_L_take) := ⟨rfl, rfl, rfl, by decide +kernel, rfl, by decide +kernel, by decide +kernel⟩
abbrev s_L_at : Stmt := topS 21
theorem sc_L_at : FnScope ["_law_script", "_law_k"] ["_law_script", "_law_k"] (defScope s_L_at) := ⟨rfl, rfl, rfl, by decide +kernel, rfl, by decide +kernel, by decide +kernel⟩
abbrev s_L_word : Stmt := topS 22
theorem sc_L_word : FnScope ["_law_purse_here", "_law_way", "_law_small", "_law_sign", "_law_stem", "_law_k"] ["_law_purse_here"] (defScope s_L_word) := ⟨rfl, rfl, rfl, by decide +kernel, rfl, by decide +kernel, by decide +kernel⟩
abbrev s_L_words : Stmt := topS 23
theorem sc_L_words : FnScope [] [] (defScope s_L_words) := ⟨rfl, rfl, rfl, by decide +kernel, rfl, by decide +kernel, by decide +kernel⟩
abbrev s_L_touches : Stmt := topS 24
theorem sc_L_touches : FnScope ["_law_sort_here", "_law_word_here", "_law_last", "_law_both"] ["_law_sort_here", "_law_word_here", "_law_last"] (defScope s_L_touches) := ⟨rfl, rfl, rfl, by decide +kernel, rfl, by decide +kernel, by decide +kernel⟩
abbrev s_L_grow : Stmt := topS 25
theorem sc_L_grow : FnScope [] [] (defScope s_L_grow) := ⟨rfl, rfl, rfl, by decide +kernel, rfl, by decide +kernel, by decide +kernel⟩
abbrev s_L_row : Stmt := topS 26
theorem sc_L_row : FnScope ["_law_purse_here", "_law_number", "_law_steps", "_law_line", "_law_found", "_law_last", "_law_k", "_law_sort_here", "_law_word_here"] ["_law_purse_here", "_law_number", "_law_steps"] (defScope s_L_row) := ⟨rfl, rfl, rfl, by decide +kernel, rfl, by decide +kernel, by decide +kernel⟩
abbrev s_L_rows : Stmt := topS 27
theorem sc_L_rows : FnScope ["_law_purse_here", "_law_steps", "_law_lines", "_law_found", "_law_number", "_law_line", "_law_more"] ["_law_purse_here", "_law_steps"] (defScope s_L_rows) := ⟨rfl, rfl, rfl, by decide +kernel, rfl, by decide +kernel, by decide +kernel⟩
abbrev s_L_own : Stmt := topS 28
theorem sc_L_own : FnScope ["_law_lines", "_law_found", "_law_number", "_law_line", "_law_at_here", "_law_end_here"] ["_law_lines"] (defScope s_L_own) := ⟨rfl, rfl, rfl, by decide +kernel, rfl, by decide +kernel, by decide +kernel⟩
abbrev s_L_end : Stmt := topS 29
theorem sc_L_end : FnScope ["_law_line", "_law_at_here", "_law_sign", "_law_end_here"] ["_law_line", "_law_at_here"] (defScope s_L_end) := ⟨rfl, rfl, rfl, by decide +kernel, rfl, by decide +kernel, by decide +kernel⟩
abbrev s_L_sort : Stmt := topS 30
theorem sc_L_sort : FnScope ["_law_said"] ["_law_said"] (defScope s_L_sort) := ⟨rfl, rfl, rfl, by decide +kernel, rfl, by decide +kernel, by decide +kernel⟩
abbrev s_L_bent : Stmt := topS 31
theorem sc_L_bent : FnScope ["_law_purse_here", "_law_line", "_law_at_here", "_law_sign", "_law_way"] ["_law_purse_here", "_law_line"] (defScope s_L_bent) := ⟨rfl, rfl, rfl, by decide +kernel, rfl, by decide +kernel, by decide +kernel⟩
abbrev s_L_told : Stmt := topS 32
theorem sc_L_told : FnScope ["_law_way", "_law_lines", "_law_error", "_law_told_here", "caught"] ["_law_way", "_law_lines"] (defScope s_L_told) := ⟨rfl, rfl, rfl, by decide +kernel, rfl, by decide +kernel, by decide +kernel⟩
abbrev s_L_beyond : Stmt := topS 33
theorem sc_L_beyond : FnScope ["_law_lines", "_law_line", "_law_digits", "_law_sign", "_law_part"] ["_law_lines"] (defScope s_L_beyond) := ⟨rfl, rfl, rfl, by decide +kernel, rfl, by decide +kernel, by decide +kernel⟩
abbrev s_L_right : Stmt := topS 34
theorem sc_L_right : FnScope ["_law_lines", "_law_held", "_law_due"] ["_law_lines"] (defScope s_L_right) := ⟨rfl, rfl, rfl, by decide +kernel, rfl, by decide +kernel, by decide +kernel⟩
abbrev s_law : Stmt := topS 35
theorem sc_law : FnScope ["_law_script", "_law_cell", "_law_purse_here", "_law_lines", "_law_found", "_law_turn", "_law_at_here", "_law_some", "_law_line"] ["_law_script"] (defScope s_law) := ⟨rfl, rfl, rfl, by decide +kernel, rfl, by decide +kernel, by decide +kernel⟩
abbrev s_run_end : Stmt := topS 11
theorem sc_run_end : FnScope ["row", "at", "signs", "most", "end"] ["row", "at", "signs", "most"] (defScope s_run_end) := ⟨rfl, rfl, rfl, by decide +kernel, rfl, by decide +kernel, by decide +kernel⟩
abbrev s_lexeme_end : Stmt := topS 12
theorem sc_lexeme_end : FnScope ["row", "at", "end", "sign"] ["row", "at"] (defScope s_lexeme_end) := ⟨rfl, rfl, rfl, by decide +kernel, rfl, by decide +kernel, by decide +kernel⟩
abbrev s_row_lexemes : Stmt := topS 13
theorem sc_row_lexemes : FnScope ["row", "number", "found", "at", "sort", "end"] ["row", "number"] (defScope s_row_lexemes) := ⟨rfl, rfl, rfl, by decide +kernel, rfl, by decide +kernel, by decide +kernel⟩
abbrev s_lexemes : Stmt := topS 14
theorem sc_lexemes : FnScope ["text", "found", "number", "row"] ["text"] (defScope s_lexemes) := ⟨rfl, rfl, rfl, by decide +kernel, rfl, by decide +kernel, by decide +kernel⟩
abbrev s_laid : Stmt := topS 16
theorem sc_laid : FnScope ["text", "laying", "found", "end", "lexeme", "row", "column", "sort", "word"] ["text"] (defScope s_laid) := ⟨rfl, rfl, rfl, by decide +kernel, rfl, by decide +kernel, by decide +kernel⟩
abbrev s_NoSign_init : Stmt := inClass (topS 2) 0
theorem sc_NoSign_init : FnScope ["self", "place"] ["self", "place"] (defScope s_NoSign_init) := ⟨rfl, rfl, rfl, by decide +kernel, rfl, by decide +kernel, by decide +kernel⟩
abbrev s_Laying_init : Stmt := inClass (topS 15) 0
theorem sc_Laying_init : FnScope ["self"] ["self"] (defScope s_Laying_init) := ⟨rfl, rfl, rfl, by decide +kernel, rfl, by decide +kernel, by decide +kernel⟩
structure Txt (K : PySem.W.Frag) (mg : Str → Option Value) : Prop where
  d_L_mixed : Dfn K mg "_law_mixed" s_L_mixed ["_law_cell", "_law_k"]
  d_L_purse : Dfn K mg "_law_purse" s_L_purse ["_law_cell", "_law_k"]
  d_L_take : Dfn K mg "_law_take" s_L_take ["_law_purse_here", "_law_many"]
  d_L_at : Dfn K mg "_law_at" s_L_at ["_law_script", "_law_k"]
  d_L_word : Dfn K mg "_law_word" s_L_word ["_law_purse_here"]
  d_L_words : Dfn K mg "_law_words" s_L_words []
  d_L_touches : Dfn K mg "_law_touches" s_L_touches ["_law_sort_here", "_law_word_here", "_law_last"]
  d_L_grow : Dfn K mg "_law_grow" s_L_grow []
  d_L_row : Dfn K mg "_law_row" s_L_row ["_law_purse_here", "_law_number", "_law_steps"]
  d_L_rows : Dfn K mg "_law_rows" s_L_rows ["_law_purse_here", "_law_steps"]
  d_L_own : Dfn K mg "_law_own" s_L_own ["_law_lines"]
  d_L_end : Dfn K mg "_law_end" s_L_end ["_law_line", "_law_at_here"]
  d_L_sort : Dfn K mg "_law_sort" s_L_sort ["_law_said"]
  d_L_bent : Dfn K mg "_law_bent" s_L_bent ["_law_purse_here", "_law_line"]
  d_L_told : Dfn K mg "_law_told" s_L_told ["_law_way", "_law_lines"]
  d_L_beyond : Dfn K mg "_law_beyond" s_L_beyond ["_law_lines"]
  d_L_right : Dfn K mg "_law_right" s_L_right ["_law_lines"]
  d_law : Dfn K mg "law" s_law ["_law_script"]
  d_run_end : Dfn K mg "run_end" s_run_end ["row", "at", "signs", "most"]
  d_lexeme_end : Dfn K mg "lexeme_end" s_lexeme_end ["row", "at"]
  d_row_lexemes : Dfn K mg "row_lexemes" s_row_lexemes ["row", "number"]
  d_lexemes : Dfn K mg "lexemes" s_lexemes ["text"]
  d_laid : Dfn K mg "laid" s_laid ["text"]
  k_laid : KBn K (fdAt K (He.ga K "laid")) ["text"] 0 ["text"] (fun us ws => us ++ ws) (fun vs zs => vs ++ zs)
  x_NoSign : Exn K mg "NoSign" "NoSign.__init__" s_NoSign_init ["self", "place"]
  f_NoSign : PySem.W.findIn K (.ref (He.ga K "NoSign")) "place" = some none
  g_SlumberError : mg "SlumberError" = some (.ref (He.ga K "SlumberError"))
  m_NoSign : PySem.W.exmOne K (.ref (He.ga K "NoSign")) (.ref (He.ga K "SlumberError")) = some true
  k_NoSign : PySem.W.kitOne K (.ref (He.ga K "NoSign")) (.ref (He.ga K "NoSign")) = some true
  k_ValueError : PySem.W.kitOne K (.ref (He.ga K "NoSign")) (.type "ValueError") = some true
  d_Laying_init : Mth K "Laying" "__init__" "Laying.__init__" s_Laying_init ["self"]
  mk_Laying : Mk K (He.ga K "Laying") (He.ma K (He.ga K "Laying") "__init__")
  g_Laying : mg "Laying" = some (.ref (He.ga K "Laying"))
  cl_Laying : Cls K (He.ga K "Laying")
  na_Laying : ∀ f ∈ (["told", "pile", "lets", "opener", "line"] : List Str), NoAttr K (He.ga K "Laying") f
  c_SMALL : Glob mg "SMALL" (.str "abcdefghijklmnopqrstuvwxyz")
  c_GREAT : Glob mg "GREAT" (.str "ABCDEFGHIJKLMNOPQRSTUVWXYZ")
  c_FIGURES : Glob mg "FIGURES" (.str "0123456789")
  c_WORDS : Glob mg "WORDS" (.ref (He.ga K "WORDS"))
  c_SIGNS : Glob mg "SIGNS" (.ref (He.ga K "SIGNS"))
  c_MOST_LETTERS : Glob mg "MOST_LETTERS" (.int 8)
  t_WORDS : ∀ H, SqT K H (He.ga K "WORDS") [.str "data", .str "let", .str "in", .str "if", .str "then", .str "else", .str "case", .str "of", .str "fun"]
  t_SIGNS : ∀ H, SqT K H (He.ga K "SIGNS") [.str "->", .str "==", .str "=", .str "|", .str "(", .str ")", .str "+", .str "-", .str "*", .str "<", .str "_"]
  b_len : mg "len" = none
  b_int : mg "int" = none
  b_list : mg "list" = none
  b_tuple : mg "tuple" = none
  b_str : mg "str" = none
  b_bool : mg "bool" = none
  b_range : mg "range" = none
  b_enumerate : mg "enumerate" = none
  b_isinstance : mg "isinstance" = none
  b_max : mg "max" = none
  b_ValueError : mg "ValueError" = none
end Sw
set_option Elab.async false
set_option linter.all false
set_option maxRecDepth 100000
set_option maxHeartbeats 4000000
namespace Sw
open PySem PySem.Spec PyProof.Rows L2 SX
local macro_rules | `(tactic| walk_at "sd") => `(tactic| first | exact ⟨by decide, by decide, by decide⟩ | (show (0 : Int) < _; decide) | exact .inl ⟨by decide, by decide⟩ | exact .inr ⟨by decide, by decide⟩ | (refine szS ?_; simp only [List.length_cons, List.length_nil]; decide))
local macro_rules | `(tactic| walk_at "rd") => `(tactic| ((repeat (first | refine ⟨_, rfl, ?_⟩ | refine ⟨_, _, rfl, rfl, ?_⟩ | refine ⟨by walk_at "sd", ?_⟩)); try dsimp only))
/-! ### numbers drawn -/
theorem e18 : (10 : Int) ^ (18 : Int).toNat = 1000000000000000000 := by decide +kernel
theorem e60 : (10 : Int) ^ (60 : Int).toNat = 1000000000000000000000000000000000000000000000000000000000000 := by decide +kernel
theorem mul_ok {i j : Int} (a b : Nat) (h0 : 0 ≤ i) (h1 : i < 2 ^ a) (h2 : 0 ≤ j) (h3 : j < 2 ^ b) (ha : 0 < a) (hb : 0 < b) (h : a + b ≤ 1000000) : CMulW i j := by
  have p : ∀ (x : Int) (n : Nat), 0 ≤ x → x < 2 ^ n → x.natAbs < 2 ^ n := fun x n q1 q2 => by
    have e : (((2 : Nat) ^ n : Nat) : Int) = (2 : Int) ^ n := by rw [Int.natCast_pow] <;> rfl
    rw [← e] at q2
    omega
  exact wide_mul (p i a h0 h1) (p j b h2 h3) ha hb h
theorem mul_lt {i j : Int} (a b : Nat) (h0 : 0 ≤ i) (h1 : i < 2 ^ a) (h2 : 0 ≤ j) (h3 : j < 2 ^ b) : 0 ≤ i * j ∧ i * j < 2 ^ (a + b) := by
  refine ⟨Int.mul_nonneg h0 h2, ?_⟩
  rw [Int.pow_add]
  exact Int.lt_of_le_of_lt (Int.mul_le_mul_of_nonneg_right (Int.le_of_lt h1) h2) (Int.mul_lt_mul_of_pos_left h3 (Int.pow_pos (by decide)))
section
variable {P : Program} {w : World} {K : PySem.W.Frag} {mg : Str → Option Value} {base : Heap}
def spMixed : Sp := fun vs H Q _ => ∃ (c k : Int), vs = [.int c, .int k] ∧ 0 ≤ k ∧ k < 2 ^ 40 ∧ ∀ r : Int, 0 ≤ r → r < 2 ^ 200 → Q (.int r) H
theorem ok_L_mixed (T : Txt K mg) : FnOk P w K mg base (L2.CX P w) 1 (He.ga K "_law_mixed") (fdAt K (He.ga K "_law_mixed")) ["_law_cell", "_law_k"] spMixed := by
  refine T.d_L_mixed.fn.ok sc_L_mixed (fun vs H Q E h => ?_) (fun cdv A outer s H vs Q E hr h => ?_)
  · obtain ⟨c, k, rfl, _⟩ := h
    rfl
  · obtain ⟨c, k, rfl, k0, k1, q⟩ := h
    refine ⟨_, PSs.nox (pss_cons (ps_set (i := 2) sc_L_mixed.nd rfl (.inl rfl) (pe_op op_add (pe_op op_add (pe_op op_mulW (pe_op op_add (pe_op op_mod (pv 0) (pe_op op_add (pe_op op_pow pe_int pe_int) pe_int)) (pe_op op_mul pe_int (pv 1))) pe_int) (pe_op op_mul pe_int (pv 1))) pe_int))
      (pss_cons (ps_set (i := 2) sc_L_mixed.nd rfl (.inl rfl) (pe_op op_mod (pe_op op_mulW (pv 2) (pv 2)) (pe_op op_add (pe_op op_pow pe_int pe_int) pe_int)))
      (pss_one (ps_ret (pe_op op_mod (pe_op op_mulW (pe_op op_add (pv 2) pe_int) (pe_op op_add (pv 2) pe_int)) (pe_op op_add (pe_op op_pow pe_int pe_int) pe_int)))))), ?_⟩
    have hx0 : 0 ≤ c % (1000000000000000000 + 9) := Int.emod_nonneg _ (by decide)
    have hx1 : c % (1000000000000000000 + 9) < 1000000000000000009 := Int.emod_lt_of_pos _ (by decide)
    have e40 : (2 : Int) ^ 40 = 1099511627776 := by decide
    have e64 : (2 : Int) ^ 64 = 18446744073709551616 := by decide
    walk_at "rd"
    rw [e18]
    generalize c % (1000000000000000000 + 9) = x at hx0 hx1 ⊢
    refine ⟨mul_ok 64 100 (by omega) (by omega) (by decide) (by decide) (by decide) (by decide) (by decide), ?_⟩
    have hm := mul_lt (i := x + 7 * k) (j := 739108512309184756019283746561) 64 100 (by omega) (by omega) (by decide) (by decide)
    generalize (x + 7 * k) * 739108512309184756019283746561 = y at hm ⊢
    walk_at "rd"
    have e164 : (2 : Int) ^ (64 + 100) = 23384026197294446691258957323460528314494920687616 := by decide +kernel
    have e170 : (2 : Int) ^ 170 = 1496577676626844588240573268701473812127674924007424 := by decide +kernel
    rw [e164] at hm
    have hz : 0 ≤ y + 7919 * k + 1 ∧ y + 7919 * k + 1 < 2 ^ 170 := by rw [e170]; omega
    generalize y + 7919 * k + 1 = z at hz ⊢
    refine ⟨mul_ok 170 170 hz.1 hz.2 hz.1 hz.2 (by decide) (by decide) (by decide), ?_⟩
    walk_at "rd"
    rw [e60]
    have hu0 : 0 ≤ z * z % (1000000000000000000000000000000000000000000000000000000000000 + 7) := Int.emod_nonneg _ (by decide)
    have hu1 : z * z % (1000000000000000000000000000000000000000000000000000000000000 + 7) < 1000000000000000000000000000000000000000000000000000000000007 := Int.emod_lt_of_pos _ (by decide)
    generalize z * z % (1000000000000000000000000000000000000000000000000000000000000 + 7) = u at hu0 hu1 ⊢
    have e201 : (2 : Int) ^ 201 = 3213876088517980551083924184682325205044405987565585670602752 := by decide +kernel
    have e200 : (2 : Int) ^ 200 = 1606938044258990275541962092341162602522202993782792835301376 := by decide +kernel
    refine ⟨mul_ok 201 201 (by omega) (by rw [e201]; omega) (by omega) (by rw [e201]; omega) (by decide) (by decide) (by decide), ?_⟩
    walk_at "rd"
    rw [e60]
    refine q _ (Int.emod_nonneg _ (by decide)) (Int.lt_of_lt_of_le (Int.emod_lt_of_pos _ (by decide)) (by rw [e200]; decide))
/-! ### a purse -/
def PuOk (H : Hp) (pu : Addr) (n : Nat) : Prop := ∃ a b c : Int, H pu = some (.lst [.int a, .int b, .int c]) ∧ 0 ≤ a ∧ a < 2 ^ 2100 ∧ 0 ≤ b ∧ b ≤ (n : Int)
theorem PuOk.mono {H : Hp} {pu : Addr} {n m : Nat} (h : PuOk H pu n) (e : n ≤ m) : PuOk H pu m := by
  obtain ⟨a, b, c, h1, h2, h3, h4, h5⟩ := h
  exact ⟨a, b, c, h1, h2, h3, h4, by omega⟩
theorem PuOk.same {H H' : Hp} {pu : Addr} {n : Nat} (h : PuOk H pu n) (e : Same H H') : PuOk H' pu n := by
  obtain ⟨a, b, c, h1, h2⟩ := h
  exact ⟨a, b, c, e _ _ h1, h2⟩
theorem PuOk.but {H H' : Hp} {pu a : Addr} {n : Nat} (h : PuOk H pu n) (e : But a H H') (ne : pu ≠ a) : PuOk H' pu n := by
  obtain ⟨a, b, c, h1, h2⟩ := h
  exact ⟨a, b, c, e _ _ ne h1, h2⟩
theorem e2100 : (2 : Int) ^ 201 ≤ 2 ^ 2100 := by decide +kernel
theorem e600 : ((10 : Int) ^ (60 : Int).toNat) ^ (10 : Int).toNat ≤ 2 ^ 2100 := by decide +kernel
def spPurse : Sp := fun vs H Q _ => ∃ (c k : Int), vs = [.int c, .int k] ∧ 0 ≤ k ∧ k < 2 ^ 40 ∧ ∀ p H', H p = none → Same H H' → PuOk H' p 0 → Q (.ref p) H'
theorem ok_L_purse (T : Txt K mg) : FnOk P w K mg base (L2.CX P w) 2 (He.ga K "_law_purse") (fdAt K (He.ga K "_law_purse")) ["_law_cell", "_law_k"] spPurse := by
  refine T.d_L_purse.fn.ok sc_L_purse (fun vs H Q E h => ?_) (fun cdv A outer s H vs Q E hr h => ?_)
  · obtain ⟨c, k, rfl, _⟩ := h
    rfl
  · obtain ⟨c, k, rfl, k0, k1, q⟩ := h
    refine ⟨_, PSs.nox (pss_cons (ps_if (pt_cmpR op_ge (pv 0) (pe_op op_pow pe_int pe_int) (nomark _))
        (pss_one (ps_ret (pe_lst (pa_cons (pe_op op_mod (pe_op op_sub (pv 0) (pe_op op_pow pe_int pe_int)) (pe_op op_powW (pe_op op_pow pe_int pe_int) pe_int)) (pa_cons pe_int (pa_cons (pv 1) pa_nil))))))
        pss_nil)
      (pss_one (ps_ret (pe_lst (pa_cons (pe_call (ok_L_mixed T) (hr.mono (by decide)) (by rfl) T.d_L_mixed.g T.d_L_mixed.fn.kp T.d_L_mixed.b .nil passL (pa_cons (pv 0) (pa_cons (pv 1) pa_nil))) (pa_cons pe_int (pa_cons (pe_op op_add (pe_op op_mod (pv 0) (pe_op op_add (pe_op op_pow pe_int pe_int) pe_int)) (pv 1)) pa_nil))))))), ?_⟩
    walk_at "rd"
    refine ite2 (fun e => ?_) (fun e => ?_)
    · walk_at "rd"
      refine ⟨⟨by decide, by decide +kernel⟩, ?_⟩
      walk_at "rd"
      refine fun p hp => q p _ hp (same_new hp) ⟨_, _, _, upd_same, Int.emod_nonneg _ (by decide +kernel), Int.lt_of_lt_of_le (Int.emod_lt_of_pos _ (by decide +kernel)) e600, by decide, by decide⟩
    · refine ⟨_, rfl, _, rfl, c, k, rfl, k0, k1, fun r r0 r1 => ?_⟩
      walk_at "rd"
      refine fun p hp => q p _ hp (same_new hp) ⟨_, _, _, upd_same, r0, Int.lt_of_lt_of_le r1 (by decide +kernel), by decide, by decide⟩
def spTake : Sp := fun vs H Q _ => ∃ (pu : Addr) (st : Int) (n : Nat), vs = [.ref pu, .int st] ∧ 1 ≤ st ∧ st ≤ 1000000 ∧ PuOk H pu n ∧ n ≤ 10000000 ∧
  ∀ (r : Int) H', 0 ≤ r → r < st → But pu H H' → (∀ b, H b = none → H' b = none) → PuOk H' pu (n + 1) → Q (.int r) H'
theorem ok_L_take (T : Txt K mg) : FnOk P w K mg base (L2.CX P w) 2 (He.ga K "_law_take") (fdAt K (He.ga K "_law_take")) ["_law_purse_here", "_law_many"] spTake := by
  refine T.d_L_take.fn.ok sc_L_take (fun vs H Q E h => ?_) (fun cdv A outer s H vs Q E hr h => ?_)
  · obtain ⟨pu, st, n, rfl, _⟩ := h
    rfl
  · obtain ⟨pu, st, n, rfl, s1, s2, ⟨a, b, c, hp, a0, a1, b0, b1⟩, hn, q⟩ := h
    refine ⟨_, PSs.nox (C8.pss_cut (ps_if (pt_cmpR op_lt (pe_ix ix_list (pv 0) pe_int (fun _ _ => rfl)) (pv 1) (nomark _))
        (pss_cons (ps_asg (pe_op op_add (pe_ix ix_list (pv 0) pe_int (fun _ _ => rfl)) pe_int) (pg_sub (pv 0) pe_int set_list))
      (pss_one (ps_asg (pe_op op_add (pe_ix ix_list (pv 0) pe_int (fun _ _ => rfl)) (pe_op op_mulW (pv 1) (pe_call (ok_L_mixed T) (hr.mono (by decide)) (by rfl) T.d_L_mixed.g T.d_L_mixed.fn.kp T.d_L_mixed.b .nil passL (pa_cons (pe_ix ix_list (pv 0) pe_int (fun _ _ => rfl)) (pa_cons (pe_op op_add (pe_op op_mul pe_int (pe_ix ix_list (pv 0) pe_int (fun _ _ => rfl))) pe_int) pa_nil))))) (pg_sub (pv 0) pe_int set_list))))
        pss_nil)
      (pss_cons (ps_set (i := 2) sc_L_take.nd rfl (.inl rfl) (pe_op op_mod (pe_ix ix_list (pv 0) pe_int (fun _ _ => rfl)) (pv 1)))
      (pss_cons (ps_asg (pe_op op_fdiv (pe_ix ix_list (pv 0) pe_int (fun _ _ => rfl)) (pv 1)) (pg_sub (pv 0) pe_int set_list))
      (pss_one (ps_ret (pv 2)))))), ?_⟩
    have e40 : (2 : Int) ^ 40 = 1099511627776 := by decide
    have e20 : (2 : Int) ^ 20 = 1048576 := by decide
    refine ⟨fun σ' H1 => ∃ a b : Int, σ' = [some (.ref pu), some (.int st), none] ∧ H1 pu = some (.lst [.int a, .int b, .int c]) ∧ 0 ≤ a ∧ a < 2 ^ 2100 ∧ 0 ≤ b ∧ b ≤ ((n + 1 : Nat) : Int) ∧ But pu H H1 ∧ (∀ b, H b = none → H1 b = none), ?_, ?_⟩
    · refine ⟨_, rfl, pu, _, 0, .int a, rfl, rfl, .of hp, rfl, _, rfl, a, st, rfl, rfl, _, rfl, ite2 (fun e => ?_) (fun e => ?_)⟩
      · have ea : a < st := of_decide_eq_true e
        refine ⟨_, rfl, pu, _, 1, .int b, rfl, rfl, .of hp, rfl, b, 1, rfl, rfl, ?_⟩
        refine ⟨_, rfl, pu, _, 1, 1, rfl, rfl, hp, rfl, ?_⟩
        refine ⟨_, rfl, pu, _, 0, .int a, rfl, rfl, .of upd_same, rfl, ?_⟩
        refine ⟨_, rfl, _, rfl, pu, _, 2, .int c, rfl, rfl, .of upd_same, rfl, _, rfl, pu, _, 1, .int (b + 1), rfl, rfl, .of upd_same, rfl, 11, b + 1, rfl, rfl, .inl ⟨by decide, by decide⟩, 11 * (b + 1), 5, rfl, rfl, ?_⟩
        refine ⟨c, 11 * (b + 1) + 5, rfl, by omega, by rw [e40]; omega, fun r r0 r1 => ?_⟩
        have s3 : st < 2 ^ 20 := by rw [e20]; omega
        refine ⟨st, r, rfl, rfl, mul_ok 20 200 (by omega) s3 r0 r1 (by decide) (by decide) (by decide), a, st * r, rfl, rfl, ?_⟩
        refine ⟨_, rfl, pu, _, 0, 0, rfl, rfl, upd_same, rfl, ?_⟩
        have hm := mul_lt (i := st) (j := r) 20 200 (by omega) s3 r0 r1
        have e220 : (2 : Int) ^ (20 + 200) = 1684996666696914987166688442938726917102321526408785780068975640576 := by decide +kernel
        have e221 : (1684996666696914987166688442938726917102321526408785780068975640577 + 1000000 : Int) ≤ 2 ^ 2100 := by decide +kernel
        rw [e220] at hm
        refine ⟨a + st * r, b + 1, rfl, by rw [upd_upd]; exact upd_same, by omega, ?_, by omega, by omega, But.upd (But.upd (But.refl _ _)), fun x hx => ?_⟩
        · exact Int.lt_of_lt_of_le (by omega) e221
        · rw [upd_upd, upd_ne (fun e => by rw [e, hp] at hx; cases hx)]
          exact hx
      · exact ⟨a, b, rfl, hp, a0, a1, b0, by omega, But.refl _ _, fun _ h => h⟩
    · rintro σ' H1 ⟨a, b, rfl, hp, a0, a1, b0, b1, bt, fr⟩
      refine ⟨_, rfl, pu, _, 0, .int a, rfl, rfl, .of hp, rfl, _, rfl, a, st, rfl, rfl, by show 0 < st; omega, ?_⟩
      refine ⟨_, rfl, pu, _, 0, .int a, rfl, rfl, .of hp, rfl, _, rfl, a, st, rfl, rfl, ⟨by omega, by omega⟩, ?_⟩
      refine ⟨_, rfl, pu, _, 0, 0, rfl, rfl, hp, rfl, _, rfl, ?_⟩
      refine q (a % st) _ (Int.emod_nonneg _ (by omega)) (Int.emod_lt_of_pos _ (by omega)) bt.upd (fun x hx => ?_) ⟨a / st, b, c, upd_same, Int.ediv_nonneg a0 (by omega), ?_, b0, b1⟩
      · have h1 := fr x hx
        rw [upd_ne (fun e => by rw [e, hp] at h1; cases h1)]
        exact h1
      · exact Int.lt_of_le_of_lt (Int.ediv_le_self _ a0) a1
/-! ### the script -/
def spAt (K : PySem.W.Frag) : Sp := fun vs H Q _ => ∃ (a : Addr) (ns : List Int) (k : Nat), vs = [.ref a, .int (k : Int)] ∧ SqL K H a (ns.map V.int) ∧ ∀ r : Int, Q (.int r) H
theorem ok_L_at (T : Txt K mg) : FnOk P w K mg base (L2.CX P w) 1 (He.ga K "_law_at") (fdAt K (He.ga K "_law_at")) ["_law_script", "_law_k"] (spAt K) := by
  refine T.d_L_at.fn.ok sc_L_at (fun vs H Q E h => ?_) (fun cdv A outer s H vs Q E hr h => ?_)
  · obtain ⟨a, ns, k, rfl, _⟩ := h
    rfl
  · obtain ⟨a, ns, k, rfl, hS, q⟩ := h
    refine ⟨_, PSs.nox (pss_cons (ps_if (pt_cmpR op_lt (pv 1) (pe_callB call_len_seq (by rfl) T.b_len PySem.boot_len (pa_cons (pv 0) pa_nil)) (nomark _))
        (pss_one (ps_ret (pe_ix ix_list (pv 0) (pv 1) (fun _ _ => rfl))))
        pss_nil)
      (pss_one (ps_ret (pe_op op_add (pe_op op_mul pe_int (pv 1)) pe_int)))), ?_⟩
    refine ⟨_, rfl, _, rfl, a, _, rfl, .inl hS, k, _, rfl, rfl, _, rfl, ite2 (fun e => ?_) (fun e => ?_)⟩
    · have e1 := of_decide_eq_true e
      rw [List.length_map] at e1
      have hk : k < ns.length := by omega
      refine ⟨_, rfl, _, rfl, a, _, k, .int ns[k], rfl, rfl, hS, atI_nat ?_, q _⟩
      rw [List.getElem?_map, List.getElem?_eq_getElem hk]
      rfl
    · walk_at "rd"
      exact q _
end
end Sw
set_option Elab.async false
set_option linter.all false
set_option maxRecDepth 100000
set_option maxHeartbeats 4000000
namespace Sw
open PySem PySem.Spec PyProof.Rows L2 SX
local macro_rules | `(tactic| walk_at "sd") => `(tactic| first | exact ⟨by decide, by decide, by decide⟩ | (show (0 : Int) < _; decide) | exact .inl ⟨by decide, by decide⟩ | exact .inr ⟨by decide, by decide⟩ | (refine szS ?_; simp only [List.length_cons, List.length_nil]; decide))
local macro_rules | `(tactic| walk_at "rd") => `(tactic| ((repeat (first | refine ⟨_, rfl, ?_⟩ | refine ⟨_, _, rfl, rfl, ?_⟩ | refine ⟨by walk_at "sd", ?_⟩)); try dsimp only))
section
variable {P : Program} {w : World} {K : PySem.W.Frag} {mg : Str → Option Value} {base : Heap}
def mostV : Option Nat → V
  | none => .non
  | some k => .int (k : Int)
def capOf (m : Option Nat) (n : Nat) : Nat := m.getD n
theorem at_some {row : Str} {i : Nat} (h : i < (tl row).length) : ∃ c, (tl row)[i]? = some c ∧ atI (tl row) (i : Int) = some c := ⟨_, List.getElem?_eq_getElem h, atI_nat (List.getElem?_eq_getElem h)⟩
def spRunEnd : Sp := fun vs H Q _ => ∃ (row signs : Str) (i : Nat) (m : Option Nat) (p : Nat → Bool), vs = [.str row, .int (i : Int), .str signs, mostV m] ∧ i ≤ (tl row).length ∧ (tl row).length ≤ 100000 ∧ (∀ c, decide (c ∈ tl signs) = p c) ∧
  Q (.int ((i + runLen p (capOf m ((tl row).length - i)) ((tl row).drop i) : Nat) : Int)) H
theorem ok_run_end (T : Txt K mg) : FnOk P w K mg base (L2.CX P w) 1 (He.ga K "run_end") (fdAt K (He.ga K "run_end")) ["row", "at", "signs", "most"] spRunEnd := by
  refine T.d_run_end.fn.ok sc_run_end (fun vs H Q E h => ?_) (fun cdv A outer s H vs Q E hr h => ?_)
  · obtain ⟨_, _, _, _, _, rfl, _⟩ := h
    rfl
  · obtain ⟨row, signs, i, m, p, rfl, hi, hz, hp, q⟩ := h
    refine ⟨_, PSs.nox (pss_cons (ps_set (i := 4) sc_run_end.nd rfl (.inl rfl) (pv 1))
      (pss_cons (ps_while PassesOwn.never (pw_and (pt_cmpR op_lt (pv 4) (pe_callB call_len_str (by rfl) T.b_len PySem.boot_len (pa_cons (pv 0) pa_nil)) (nomark _)) (pw_and (pt_cmpR op_in_sign (pe_ix ix_str (pv 0) (pv 4) (fun _ _ => rfl)) (pv 2) rfl) (pw_and1 (pw_or (pt_cmpR op_isN (pv 3) pe_non (nomark _)) (pw_or1 (pt_cmpR op_lt (pv 4) (pe_op op_add (pv 1) (pv 3)) (nomark _)))).pt))).pt
        (pss_one (ps_aug (i := 4) sc_run_end.nd rfl (.inl rfl) pe_int ip_add)))
      (pss_one (ps_ret (pv 4))))), ?_⟩
    have hrl : row.length = (tl row).length := (tl_len row).symm
    have hsz : row.length ≤ sizeLine := by rw [hrl]; exact szS hz
    refine ⟨_, rfl, fun mm σ H' => ∃ k : Nat, σ = [some (.str row), some (.int (i : Int)), some (.str signs), some (mostV m), some (.int ((i + k : Nat) : Int))] ∧ H' = H ∧ k ≤ capOf m ((tl row).length - i) ∧ i + k ≤ (tl row).length ∧ (∀ j c, j < k → ((tl row).drop i)[j]? = some c → p c = true) ∧ mm = (tl row).length - (i + k),
      ⟨_, 0, rfl, rfl, Nat.zero_le _, by omega, fun j c hj => by omega, rfl⟩, ?_⟩
    rintro mm σ H' ⟨k, rfl, rfl, hk, hik, ha, rfl⟩
    have fin : (k = capOf m ((tl row).length - i) ∨ k = ((tl row).drop i).length ∨ ∃ c, ((tl row).drop i)[k]? = some c ∧ p c = false) → Q (.int ((i + k : Nat) : Int)) H' := fun h => by
      rw [runLen_is (p := p) hk ha (by rw [List.length_drop]; omega) h] at q
      exact q
    refine ⟨_, rfl, _, rfl, row, rfl, hsz, _, _, rfl, rfl, _, rfl, ite2 (fun e => ?_) (fun e => ?_)⟩
    · have e1 := of_decide_eq_true e
      have hlt : i + k < (tl row).length := by rw [hrl] at e1; omega
      obtain ⟨c, hc, hc2⟩ := at_some hlt
      have hc3 : ((tl row).drop i)[k]? = some c := by rw [List.getElem?_drop]; exact hc
      refine ⟨_, rfl, _, rfl, row, _, c, rfl, rfl, hsz, hc2, _, rfl, c, signs, rfl, rfl, _, rfl, ?_⟩
      rw [show decide (c ∈ signs.cps.toList) = p c from hp c]
      refine ite2 (fun ep => ?_) (fun ep => ?_)
      · have go : k < capOf m ((tl row).length - i) → ∃ N : L2.St → Hp → Prop, (∀ σ' H'', N σ' H'' → ∃ m', m' < (tl row).length - (i + k) ∧ ∃ k' : Nat, σ' = [some (.str row), some (.int (i : Int)), some (.str signs), some (mostV m), some (.int ((i + k' : Nat) : Int))] ∧ H'' = H' ∧ k' ≤ capOf m ((tl row).length - i) ∧ i + k' ≤ (tl row).length ∧ (∀ j c, j < k' → ((tl row).drop i)[j]? = some c → p c = true) ∧ m' = (tl row).length - (i + k')) ∧
            tAug 4 (tC (.int 1)) (ipI fun i j => i + j) { nx := N, rt := Q, ct := N, bk := fun σ' H'' => tRet (tVar 4) { nx := fun _ H' => Q .non H', rt := Q } σ' H'' } [some (.str row), some (.int (i : Int)), some (.str signs), some (mostV m), some (.int ((i + k : Nat) : Int))] H' := fun hlt2 => by
          refine ⟨fun σ' H'' => σ' = [some (.str row), some (.int (i : Int)), some (.str signs), some (mostV m), some (.int ((i + (k + 1) : Nat) : Int))] ∧ H'' = H', fun σ' H'' hN => ?_, ?_⟩
          · obtain ⟨rfl, rfl⟩ := hN
            refine ⟨_, ?_, k + 1, rfl, rfl, by omega, by omega, fun j d hj hd => ?_, rfl⟩
            · omega
            · by_cases hjk : j = k
              · subst hjk
                rw [hc3] at hd
                rw [← Option.some.inj hd]
                exact ep
              · exact ha j d (by omega) hd
          · refine ⟨_, rfl, _, _, rfl, rfl, ?_, rfl⟩
            rfl
        cases m with
        | none =>
          refine ⟨_, rfl, rfl, _, rfl, iteT (iteT ?_)⟩
          exact go (by show k < (tl row).length - i; omega)
        | some mx =>
          refine ⟨_, rfl, rfl, _, rfl, iteF ?_⟩
          refine ⟨_, rfl, _, rfl, _, rfl, _, _, rfl, rfl, _, _, rfl, rfl, _, rfl, ite2 (fun e2 => ?_) (fun e2 => ?_)⟩
          · have e3 := of_decide_eq_true e2
            exact go (by show k < mx; omega)
          · have e3 : ¬ ((i + k : Nat) : Int) < (i : Int) + (mx : Int) := fun z => e2 (decide_eq_true z)
            exact ⟨_, rfl, fin (.inl (by show k = mx; have : k ≤ mx := hk; omega))⟩
      · exact iteF ⟨_, rfl, fin (.inr (.inr ⟨c, hc3, by simpa using ep⟩))⟩
    · have e1 : ¬ ((i + k : Nat) : Int) < (row.length : Int) := fun z => e (decide_eq_true z)
      exact iteF ⟨_, rfl, fin (.inr (.inl (by rw [List.length_drop]; rw [hrl] at e1; omega)))⟩
theorem in_strs (w : Str) : ∀ l : List Str, inV (.str w) (l.map V.str) = decide (w ∈ l)
  | [] => rfl
  | x :: l => by
    show (eqV (.str x) (.str w) || inV (.str w) (l.map V.str)) = _
    rw [in_strs w l, Bool.eq_iff_iff]
    simp only [Bool.or_eq_true, decide_eq_true_eq, List.mem_cons]
    have e : eqV (.str x) (.str w) = true ↔ w = x := by
      show (x == w) = true ↔ w = x
      rw [beq_iff_eq]
      exact ⟨Eq.symm, Eq.symm⟩
    rw [e]
theorem find_at {α : Type} {p : α → Bool} : ∀ {l : List α} {i : Nat} {g : α}, l[i]? = some g → p g = true → (∀ j h, j < i → l[j]? = some h → p h = false) → l.find? p = some g
  | [], i, g, h, _, _ => by simp at h
  | x :: l, 0, g, h, hg, _ => by
    have e : x = g := Option.some.inj h
    subst e
    rw [List.find?_cons, hg]
  | x :: l, i + 1, g, h, hg, hb => by
    have e : p x = false := hb 0 x (by omega) rfl
    rw [List.find?_cons, e]
    exact find_at (l := l) (i := i) h hg (fun j y hj hy => hb (j + 1) y (by omega) hy)
theorem find_no {α : Type} {p : α → Bool} {l : List α} (h : ∀ (j : Nat) x, l[j]? = some x → p x = false) : l.find? p = none := by
  rw [List.find?_eq_none]
  intro x hx
  obtain ⟨j, hj⟩ := List.getElem?_of_mem hx
  rw [h j x hj]
  decide
theorem drop_cons {l : List Nat} {i c : Nat} (h : l[i]? = some c) : l.drop i = c :: l.drop (i + 1) := by
  obtain ⟨hi, e⟩ := List.getElem?_eq_some_iff.mp h
  rw [List.drop_eq_getElem_cons hi, e]
def spLexEnd : Sp := fun vs H Q _ => ∃ (row : Str) (i : Nat), vs = [.str row, .int (i : Int)] ∧ i < (tl row).length ∧ (tl row).length ≤ 100000 ∧
  ∀ so n p H', lexOne ((tl row).drop i) = (so, n) → H p = none → Same H H' → H' p = some (.tup [.str so, .int ((i + n : Nat) : Int)]) → Q (.ref p) H'
theorem ok_lexeme_end (T : Txt K mg) : FnOk P w K mg base (L2.CX P w) 2 (He.ga K "lexeme_end") (fdAt K (He.ga K "lexeme_end")) ["row", "at"] spLexEnd := by
  refine T.d_lexeme_end.fn.ok sc_lexeme_end (fun vs H Q E h => ?_) (fun cdv A outer s H vs Q E hr h => ?_)
  · obtain ⟨_, _, rfl, _⟩ := h
    rfl
  · obtain ⟨row, i, rfl, hi, hz, q⟩ := h
    refine ⟨_, PSs.nox (pss_cons (ps_if (pt_cmpR op_in_sign (pe_ix ix_str (pv 0) (pv 1) (fun _ _ => rfl)) (pe_g T.c_SMALL) rfl)
        (pss_cons (ps_set (i := 2) sc_lexeme_end.nd rfl (.inl rfl) (pe_call (ok_run_end T) (hr.mono (by decide)) (by rfl) T.d_run_end.g T.d_run_end.fn.kp T.d_run_end.b .nil passL (pa_cons (pv 0) (pa_cons (pv 1) (pa_cons (pe_g T.c_SMALL) (pa_cons (pe_g T.c_MOST_LETTERS) pa_nil))))))
      (pss_one (ps_ret (pe_tup (pa_cons (pe_ifExp (pt_cmpR op_in_seq (pe_slice sl_str (pv 0) (po_some (pv 1)) (po_some (pv 2))) (pe_g T.c_WORDS) rfl) pe_str pe_str) (pa_cons (pv 2) pa_nil))))))
        pss_nil)
      (pss_cons (ps_if (pt_cmpR op_in_sign (pe_ix ix_str (pv 0) (pv 1) (fun _ _ => rfl)) (pe_g T.c_GREAT) rfl)
        (pss_one (ps_ret (pe_tup (pa_cons pe_str (pa_cons (pe_call (ok_run_end T) (hr.mono (by decide)) (by rfl) T.d_run_end.g T.d_run_end.fn.kp T.d_run_end.b .nil passL (pa_cons (pv 0) (pa_cons (pe_op op_add (pv 1) pe_int) (pa_cons (pe_g T.c_SMALL) (pa_cons (pe_op op_sub (pe_g T.c_MOST_LETTERS) pe_int) pa_nil))))) pa_nil)))))
        pss_nil)
      (pss_cons (ps_if (pt_cmpR op_eq (pe_ix ix_str (pv 0) (pv 1) (fun _ _ => rfl)) pe_str (nomark _))
        (pss_one (ps_ret (pe_tup (pa_cons pe_str (pa_cons (pe_op op_add (pv 1) pe_int) pa_nil)))))
        pss_nil)
      (pss_cons (ps_if (pt_cmpR op_in_sign (pe_ix ix_str (pv 0) (pv 1) (fun _ _ => rfl)) (pe_g T.c_FIGURES) rfl)
        (pss_one (ps_ret (pe_tup (pa_cons pe_str (pa_cons (pe_call (ok_run_end T) (hr.mono (by decide)) (by rfl) T.d_run_end.g T.d_run_end.fn.kp T.d_run_end.b .nil passL (pa_cons (pv 0) (pa_cons (pv 1) (pa_cons (pe_g T.c_FIGURES) (pa_cons pe_non pa_nil))))) pa_nil)))))
        pss_nil)
      (pss_cons (ps_for PassesOwn.never rfl (pi_tup (pe_g T.c_SIGNS)) (pg_name (i := 3) sc_lexeme_end.nd rfl (.inl rfl))
        (pss_one (ps_if (pt_val (pe_bm PySem.F.plainAttrs_str PySem.F.slot_str_startswith PySem.F.type_str_startswith mt_startswith3 (pv 0) (pa_cons (pv 3) (pa_cons (pv 1) pa_nil))))
        (pss_one (ps_ret (pe_tup (pa_cons pe_str (pa_cons (pe_op op_add (pv 1) (pe_callB call_len_str (by rfl) T.b_len PySem.boot_len (pa_cons (pv 3) pa_nil))) pa_nil)))))
        pss_nil)))
      (pss_one (ps_ret (pe_tup (pa_cons pe_str (pa_cons (pv 1) pa_nil)))))))))), ?_⟩
    have hrl : row.length = (tl row).length := (tl_len row).symm
    have hsz : row.length ≤ sizeLine := by rw [hrl]; exact szS hz
    obtain ⟨c, hc, hc2⟩ := at_some hi
    have hd := drop_cons hc
    have ret : ∀ (so : Str) (n : Nat) (p : Addr) (m : Int), lexOne ((tl row).drop i) = (so, n) → m = ((i + n : Nat) : Int) → H p = none → Q (.ref p) (upd H p (.tup [.str so, .int m])) := fun so n p m e1 e2 e3 => by
      subst e2
      exact q so n p _ e1 e3 (same_new e3) upd_same
    -- a small letter
    refine ⟨_, rfl, _, rfl, row, _, c, rfl, rfl, hsz, hc2, c, _, rfl, rfl, _, rfl, ?_⟩
    rw [show decide (c ∈ _) = isSm c from in_sm c]
    refine ite2 (fun e1 => ?_) (fun e1 => ?_)
    · refine ⟨_, rfl, _, rfl, row, _, i, some 8, isSm, rfl, by omega, hz, in_sm, ?_⟩
      have hle := runLen_le isSm 8 ((tl row).drop i)
      rw [List.length_drop] at hle
      refine ⟨_, rfl, _, rfl, _, rfl, _, rfl, _, rfl, row, rfl, hsz, ?_⟩
      rw [cut_at row i _ (by omega) (by show i + runLen isSm 8 ((tl row).drop i) ≤ _; omega)]
      refine ⟨_, _, rfl, .inr (T.t_WORDS _), rfl, rfl, _, rfl, ?_⟩
      have hl : lexOne ((tl row).drop i) = (if S (((tl row).drop i).take (runLen isSm 8 ((tl row).drop i))) ∈ WORDS then ("word" : Str) else "name", runLen isSm 8 ((tl row).drop i)) := by
        rw [hd]
        unfold lexOne
        simp only
        rw [if_pos e1]
      have hw := in_strs (S (((tl row).drop i).take (i + runLen isSm 8 ((tl row).drop i) - i))) WORDS
      rw [show i + runLen isSm 8 ((tl row).drop i) - i = runLen isSm 8 ((tl row).drop i) by omega] at hw
      refine ite2 (fun e2 => ?_) (fun e2 => ?_)
      · refine ⟨_, rfl, szS (by simp), fun p hp => ret _ _ p _ ?_ rfl hp⟩
        rw [hl, if_pos]
        · rfl
        · have z : inV (.str (S (((tl row).drop i).take (i + runLen isSm 8 ((tl row).drop i) - i)))) (WORDS.map V.str) = true := e2
          rw [show i + runLen isSm 8 ((tl row).drop i) - i = runLen isSm 8 ((tl row).drop i) by omega, hw] at z
          exact of_decide_eq_true z
      · refine ⟨_, rfl, szS (by simp), fun p hp => ret _ _ p _ ?_ rfl hp⟩
        rw [hl, if_neg]
        · rfl
        · intro z
          refine e2 ?_
          show inV (.str (S (((tl row).drop i).take (i + runLen isSm 8 ((tl row).drop i) - i)))) (WORDS.map V.str) = true
          rw [show i + runLen isSm 8 ((tl row).drop i) - i = runLen isSm 8 ((tl row).drop i) by omega, hw]
          exact decide_eq_true z
    -- a great letter
    refine ⟨_, rfl, _, rfl, row, _, c, rfl, rfl, hsz, hc2, c, _, rfl, rfl, _, rfl, ?_⟩
    rw [show decide (c ∈ _) = isGr c from in_gr c]
    refine ite2 (fun e2 => ?_) (fun e2 => ?_)
    · refine ⟨_, rfl, _, rfl, _, _, rfl, rfl, _, _, rfl, rfl, row, _, i + 1, some 7, isSm, rfl, by omega, hz, in_sm, ?_⟩
      refine ⟨szS (by simp), fun p hp => ret "maker" (1 + runLen isSm 7 ((tl row).drop (i + 1))) p _ ?_ ?_ hp⟩
      · rw [hd]
        unfold lexOne
        simp only
        rw [if_neg e1, if_pos e2]
      · show ((i + 1 + runLen isSm 7 ((tl row).drop (i + 1)) : Nat) : Int) = _
        omega
    -- nought
    refine ⟨_, rfl, _, rfl, row, _, c, rfl, rfl, hsz, hc2, rfl, _, rfl, ?_⟩
    have h0 : decide (V.str ⟨#[c]⟩ = V.str "0") = decide (c = 48) := by
      have e0 : (Str.ofString "0") = ⟨#[48]⟩ := by decide +kernel
      rw [e0, Bool.eq_iff_iff, decide_eq_true_eq, decide_eq_true_eq]
      constructor
      · intro h
        injection h with h
        injection h with h
        have := congrArg Array.toList h
        simpa using this
      · rintro rfl
        rfl
    rw [h0]
    refine ite2 (fun e3 => ?_) (fun e3 => ?_)
    · refine ⟨_, rfl, _, _, rfl, rfl, szS (by simp), fun p hp => ret "number" 1 p _ ?_ (by omega) hp⟩
      rw [hd]
      unfold lexOne
      simp only
      rw [if_neg e1, if_neg e2, if_pos (of_decide_eq_true e3)]
    have e3' : ¬ c = 48 := fun z => e3 (decide_eq_true z)
    -- a figure
    refine ⟨_, rfl, _, rfl, row, _, c, rfl, rfl, hsz, hc2, c, _, rfl, rfl, _, rfl, ?_⟩
    rw [show decide (c ∈ _) = isFi c from in_fi c]
    refine ite2 (fun e4 => ?_) (fun e4 => ?_)
    · refine ⟨_, rfl, _, rfl, row, _, i, none, isFi, rfl, by omega, hz, in_fi, ?_⟩
      refine ⟨szS (by simp), fun p hp => ret "number" _ p _ ?_ rfl hp⟩
      have el : (tl row).length - i = ((tl row).drop i).length := by rw [List.length_drop]
      show lexOne ((tl row).drop i) = (_, runLen isFi ((tl row).length - i) ((tl row).drop i))
      rw [el, hd]
      unfold lexOne
      simp only
      rw [if_neg e1, if_neg e2, if_neg e3', if_pos e4]
    -- signs
    have hfall : lexOne ((tl row).drop i) = match SIGNS.find? fun g => isP (tl g) ((tl row).drop i) with | some g => (("sign" : Str), g.length) | none => (("none" : Str), 0) := by
      rw [hd]
      unfold lexOne
      simp only
      rw [if_neg e1, if_neg e2, if_neg e3', if_neg e4] <;> rfl
    refine ⟨_, rfl, ⟨_, T.t_SIGNS H⟩, for_tup (xs := SIGNS.map V.str) (fun j σ H' => ∃ v, σ = [some (.str row), some (.int (i : Int)), none, v] ∧ H' = H ∧ ∀ (k : Nat) g, k < j → SIGNS[k]? = some g → isP (tl g) ((tl row).drop i) = false)
      ⟨none, rfl, rfl, fun k g hk => by omega⟩ (fun j σ H' _ _ => T.t_SIGNS H') (fun j x σ H' hx hP => ?_) (fun σ H' hP => ?_)⟩
    · obtain ⟨v, rfl, rfl, hall⟩ := hP
      rw [List.getElem?_map] at hx
      obtain ⟨g, hg, rfl⟩ := Option.map_eq_some_iff.mp hx
      refine ⟨_, rfl, rfl, _, rfl, _, rfl, row, g, _, rfl, rfl, ?_⟩
      rw [starts3 row g i (by omega)]
      refine ⟨_, rfl, ite2 (fun e5 => ?_) (fun e5 => ?_)⟩
      · have hfind := find_at (p := fun g => isP (tl g) ((tl row).drop i)) hg e5 (fun k h hk hh => hall k h hk hh)
        have hgl : g.length ≤ sizeLine := by
          have hm := List.mem_of_getElem? hg
          have hall2 : ∀ x ∈ SIGNS, x.length ≤ 100 := by decide +kernel
          exact szS (Nat.le_trans (hall2 g hm) (by decide))
        refine ⟨_, rfl, _, rfl, g, rfl, hgl, _, _, rfl, rfl, szS (by simp), fun p hp => ret "sign" g.length p _ ?_ rfl hp⟩
        rw [hfall, hfind]
      · refine ⟨some (.str g), rfl, rfl, fun k h hk hh => ?_⟩
        by_cases hkj : k = j
        · subst hkj
          rw [hg] at hh
          rw [← Option.some.inj hh]
          simpa using e5
        · exact hall k h (by omega) hh
    · obtain ⟨v, rfl, rfl, hall⟩ := hP
      have hnone := find_no (p := fun g => isP (tl g) ((tl row).drop i)) (l := SIGNS) (fun k x hx => hall k x (by
        have := (List.getElem?_eq_some_iff.mp hx).1
        rw [List.length_map]
        exact this) hx)
      refine ⟨_, rfl, szS (by simp), fun p hp => ret "none" 0 p _ ?_ rfl hp⟩
      rw [hfall, hnone]
end
end Sw
set_option Elab.async false
set_option linter.all false
set_option maxRecDepth 100000
set_option maxHeartbeats 4000000
namespace Sw
open PySem PySem.Spec PyProof.Rows L2 SX
section
variable {P : Program} {w : World} {K : PySem.W.Frag} {mg : Str → Option Value} {base : Heap}
/-! ### lexemes as objects -/
/-- a tuple ((row, column), sort, word) -/
def TkT (H : Hp) (v : V) (t : Tk) : Prop := ∃ a b, v = .ref a ∧ H a = some (.tup [.ref b, .str t.sort, .str t.word]) ∧ H b = some (.tup [.int (t.row : Int), .int (t.col : Int)])
theorem TkT.same {H H' : Hp} {v : V} {t : Tk} (h : TkT H v t) (e : Same H H') : TkT H' v t := by
  obtain ⟨a, b, h1, h2, h3⟩ := h
  exact ⟨a, b, h1, e _ _ h2, e _ _ h3⟩
theorem TkT.but {H H' : Hp} {v : V} {t : Tk} {f : Addr} {xs : List V} (h : TkT H v t) (e : But f H H') (hf : H f = some (.lst xs)) : TkT H' v t := by
  obtain ⟨a, b, h1, h2, h3⟩ := h
  exact ⟨a, b, h1, e _ _ (ne_of h2 hf (by intro z; cases z)) h2, e _ _ (ne_of h3 hf (by intro z; cases z)) h3⟩
theorem pt_same {H H' : Hp} {us : List V} {ts : List Tk} (h : Paired (TkT H) us ts) (e : Same H H') : Paired (TkT H') us ts := h.mono fun _ _ q => q.same e
theorem pt_but {H H' : Hp} {us : List V} {ts : List Tk} {f : Addr} {xs : List V} (h : Paired (TkT H) us ts) (e : But f H H') (hf : H f = some (.lst xs)) : Paired (TkT H') us ts := h.mono fun _ _ q => q.but e hf
theorem pt_app {α β : Type} {F : α → β → Prop} : ∀ {a : List α} {b : List β} {c : List α} {d : List β}, Paired F a b → Paired F c d → Paired F (a ++ c) (b ++ d)
  | _, _, _, _, .nil, h => h
  | _, _, _, _, .cons h t, q => .cons h (pt_app t q)
/-- Same holds on through a change of an object that was not there -/
theorem same_mut {H H1 : Hp} {f : Addr} {o : HO} (e : Same H H1) (n : H f = none) : Same H (upd H1 f o) := fun b u h => by
  rw [upd_ne (ne_of_none h n)]
  exact e b u h
theorem blank_is (c : Nat) : decide (V.str ⟨#[c]⟩ = V.str " ") = decide (c = 32) := by
  have e0 : (Str.ofString " ") = ⟨#[32]⟩ := by decide +kernel
  rw [e0, Bool.eq_iff_iff, decide_eq_true_eq, decide_eq_true_eq]
  constructor
  · intro h
    injection h with h
    injection h with h
    have := congrArg Array.toList h
    simpa using this
  · rintro rfl
    rfl
theorem dash_tl : tl "--" = [45, 45] := by decide +kernel
/-! ### what refuses a row -/
theorem lex_inv {num i : Nat} {c : Nat} {r : List Nat} {e : Option (Nat × Nat)} {ts : List Tk} (h : LexR num i (c :: r) e ts) (hr : isP [45, 45] (c :: r) = false) :
    (c = 32 ∧ LexR num (i + 1) r e ts) ∨ (c ≠ 32 ∧ ∃ so n, lexOne (c :: r) = (so, n) ∧ ((so = "none" ∧ e = some (num, i + 1) ∧ ts = []) ∨ (so ≠ "none" ∧ n ≤ (c :: r).length ∧
      ((so ≠ "sign" ∧ (∃ d, ((c :: r).drop n).head? = some d ∧ isAl d = true) ∧ e = some (num, i + n + 1) ∧ ts = []) ∨
      (1 ≤ n ∧ (so ≠ "sign" → ∀ d, ((c :: r).drop n).head? = some d → isAl d = false) ∧ ∃ us, LexR num (i + n) ((c :: r).drop n) e us ∧ ts = ⟨num, i + 1, so, S ((c :: r).take n)⟩ :: us))))) := by
  have nb : ∀ {c : Nat} {r : List Nat}, (c :: r).head? ≠ some 32 → c ≠ 32 := fun h2 e => h2 (by rw [e]; rfl)
  cases h with
  | fin h =>
    rcases h with h | h
    · cases h
    · rw [hr] at h
      cases h
  | blank h => exact .inl ⟨rfl, h⟩
  | tok h1 h2 h3 h4 h5 h6 h7 h8 h9 => exact .inr ⟨nb h2, _, _, h4, .inr ⟨h5, h7, .inr ⟨h6, h8, _, h9, rfl⟩⟩⟩
  | none h1 h2 h3 h4 => exact .inr ⟨nb h2, _, _, h4, .inl ⟨rfl, rfl, rfl⟩⟩
  | glued h1 h2 h3 h4 h5 h6 h7 h8 h9 => exact .inr ⟨nb h2, _, _, h4, .inr ⟨h5, h6, .inl ⟨h7, ⟨_, h8, h9⟩, rfl, rfl⟩⟩⟩
/-- each row has its lexemes, or the place at which none goes on -/
theorem lexOne_le (s : List Nat) : (lexOne s).2 ≤ s.length := by
  cases s with
  | nil => exact Nat.le_refl 0
  | cons c r =>
    unfold lexOne
    simp only
    split
    · exact runLen_le _ _ _
    · split
      · show 1 + runLen isSm 7 r ≤ (c :: r).length
        have := runLen_le isSm 7 r
        rw [List.length_cons]
        omega
      · split
        · show 1 ≤ (c :: r).length
          simp
        · split
          · exact runLen_le _ _ _
          · split
            · rename_i g hg
              have h := List.find?_some hg
              rw [isP_take] at h
              have h2 := (of_decide_eq_true h).1
              rw [tl_len] at h2
              exact h2
            · exact Nat.zero_le _
theorem lexOne_pos {s : List Nat} {so : Str} {n : Nat} (h : lexOne s = (so, n)) (hs : s ≠ []) (hn : so ≠ "none") : 1 ≤ n := by
  cases s with
  | nil => exact absurd rfl hs
  | cons c r =>
    have one : ∀ {p : Nat → Bool} {m : Nat}, p c = true → 1 ≤ m → 1 ≤ runLen p m (c :: r) := fun {p m} hp hm => by
      cases m with
      | zero => omega
      | succ m =>
        show 1 ≤ (if p c = true then runLen p m r + 1 else 0)
        rw [if_pos hp]
        omega
    unfold lexOne at h
    simp only at h
    split at h
    · rename_i e
      have := (Prod.mk.inj h).2
      rw [← this]
      exact one e (by decide)
    · split at h
      · have := (Prod.mk.inj h).2
        omega
      · split at h
        · have := (Prod.mk.inj h).2
          omega
        · split at h
          · rename_i e
            have := (Prod.mk.inj h).2
            rw [← this]
            exact one e (by simp)
          · split at h
            · rename_i g hg
              have h2 := (Prod.mk.inj h).2
              have hm := List.mem_of_find?_eq_some hg
              have h3 : ∀ x ∈ SIGNS, 1 ≤ x.length := by decide +kernel
              rw [← h2]
              exact h3 g hm
            · exact absurd (Prod.mk.inj h).1.symm hn
theorem lex_some (num : Nat) : ∀ (k i : Nat) (s : List Nat), s.length ≤ k → ∃ e ts, LexR num i s e ts
  | 0, i, s, h => ⟨none, [], .fin (.inl (List.length_eq_zero_iff.mp (by omega)))⟩
  | k + 1, i, [], h => ⟨none, [], .fin (.inl rfl)⟩
  | k + 1, i, c :: r, h => by
    cases hd : isP [45, 45] (c :: r) with
    | true => exact ⟨none, [], .fin (.inr hd)⟩
    | false =>
      by_cases hc : c = 32
      · subst hc
        obtain ⟨e, ts, q⟩ := lex_some num k (i + 1) r (by simpa using h)
        exact ⟨e, ts, .blank q⟩
      · have nb : (c :: r).head? ≠ some 32 := fun z => hc (Option.some.inj z)
        have hle := lexOne_le (c :: r)
        obtain ⟨so, n⟩ : Str × Nat := lexOne (c :: r)
        cases ho : lexOne (c :: r) with
        | mk so n =>
          rw [ho] at hle
          by_cases hn : so = "none"
          · subst hn
            exact ⟨_, _, .none (by simp) nb hd ho⟩
          · have hp := lexOne_pos ho (by simp) hn
            by_cases hg : so ≠ "sign" ∧ ∃ d, ((c :: r).drop n).head? = some d ∧ isAl d = true
            · obtain ⟨h1, d, h2, h3⟩ := hg
              exact ⟨_, _, .glued (by simp) nb hd ho hn hle h1 h2 h3⟩
            · have hl : ((c :: r).drop n).length ≤ k := by
                rw [List.length_drop]
                simp at h ⊢
                omega
              obtain ⟨e, ts, q⟩ := lex_some num k (i + n) _ hl
              refine ⟨e, _, .tok (by simp) nb hd ho hn hp hle (fun z d hd2 => ?_) q⟩
              cases ha : isAl d with
              | false => rfl
              | true => exact absurd ⟨z, d, hd2, ha⟩ hg
/-- the lexemes of rows, the first of which has this number, or the first place at which none goes on -/
inductive LexE : Nat → List Str → Option (Nat × Nat) → List Tk → Prop
  | nil {n : Nat} : LexE n [] none []
  | cons {n : Nat} {r : Str} {rs : List Str} {e : Option (Nat × Nat)} {t1 t2 : List Tk} : LexR n 0 (tl r) none t1 → LexE (n + 1) rs e t2 → LexE n (r :: rs) e (t1 ++ t2)
  | bad {n : Nat} {r : Str} {rs : List Str} {q : Nat × Nat} {t1 : List Tk} : LexR n 0 (tl r) (some q) t1 → LexE n (r :: rs) (some q) []
theorem lexE_some : ∀ (rows : List Str) (n : Nat), ∃ e ts, LexE n rows e ts
  | [], n => ⟨none, [], .nil⟩
  | r :: rows, n => by
    obtain ⟨e, t1, h⟩ := lex_some n (tl r).length 0 (tl r) (Nat.le_refl _)
    cases e with
    | some q => exact ⟨_, _, .bad h⟩
    | none =>
      obtain ⟨e, t2, h2⟩ := lexE_some rows (n + 1)
      exact ⟨_, _, .cons h h2⟩
/-! ### the refusal as an object -/
/-- the error's own dict d holds the place -/
def PlaceAt (H : Hp) (d : Addr) (q : Nat × Nat) : Prop := ∃ pl, H d = some (.xd [("place", .ref pl)]) ∧ H pl = some (.tup [.int (q.1 : Int), .int (q.2 : Int)])
theorem ok_NoSign_init (T : Txt K mg) : FnOk P w K mg base (L2.CX P w) 1 (He.ma K (He.ga K "NoSign") "__init__") (fdAt K (He.ma K (He.ga K "NoSign") "__init__")) ["self", "place"] (spIni1 (He.ga K "NoSign") "place") := by
  refine T.x_NoSign.fn.ok sc_NoSign_init (fun vs H Q E h => ?_) (fun cdv A outer s H vs Q E hr h => ?_)
  · obtain ⟨_, _, rfl, _⟩ := h
    rfl
  · obtain ⟨a, v, rfl, ha, q⟩ := h
    refine ⟨_, PSs.nox (pss_one (ps_ost (pv 0) (pv 1))), ?_⟩
    exact ⟨_, rfl, _, rfl, a, _, rfl, T.x_NoSign.cx, T.f_NoSign, .inl ⟨ha, q⟩⟩
def spRowLex (K : PySem.W.Frag) : Sp := fun vs H Q E => ∃ (row : Str) (num : Nat) (e : Option (Nat × Nat)) (ts : List Tk), vs = [.str row, .int (num : Int)] ∧ (tl row).length ≤ 10000 ∧ LexR num 0 (tl row) e ts ∧
  (e = none → ∀ p H' us, H p = none → Same H H' → H' p = some (.lst us) → Paired (TkT H') us ts → us.length ≤ (tl row).length → Q (.ref p) H') ∧
  (∀ q, e = some q → ∀ d H', H d = none → Same H H' → PlaceAt H' d q → E (.ref (He.ga K "NoSign")) (some d) H')
theorem ok_row_lexemes (T : Txt K mg) : FnOk P w K mg base (L2.CX P w) 3 (He.ga K "row_lexemes") (fdAt K (He.ga K "row_lexemes")) ["row", "number"] (spRowLex K) := by
  refine T.d_row_lexemes.fn.ok sc_row_lexemes (fun vs H Q E h => ?_) (fun cdv A outer s H vs Q E hr h => ?_)
  · obtain ⟨_, _, _, _, rfl, _⟩ := h
    rfl
  · obtain ⟨row, num, err, ts, rfl, hz, hL, q, qe⟩ := h
    refine ⟨_, (pss_cons (ps_set (i := 2) sc_row_lexemes.nd rfl (.inl rfl) (pe_lst pa_nil))
      (pss_cons (ps_set (i := 3) sc_row_lexemes.nd rfl (.inl rfl) pe_int)
      (pss_cons (ps_while (passes_of rfl) (pw_and (pt_cmpR op_lt (pv 3) (pe_callB call_len_str (by rfl) T.b_len PySem.boot_len (pa_cons (pv 0) pa_nil)) (nomark _)) (pw_and1 (pt_not (pt_val (pe_bm PySem.F.plainAttrs_str PySem.F.slot_str_startswith PySem.F.type_str_startswith mt_startswith3 (pv 0) (pa_cons pe_str (pa_cons (pv 3) pa_nil))))))).pt
        (pss_one (ps_if (pt_cmpR op_eq (pe_ix ix_str (pv 0) (pv 3) (fun _ _ => rfl)) pe_str (nomark _))
        (pss_one (ps_aug (i := 3) sc_row_lexemes.nd rfl (.inl rfl) pe_int ip_add))
        (pss_cons (ps_asg (pe_call (ok_lexeme_end T) (hr.mono (by decide)) (by rfl) T.d_lexeme_end.g T.d_lexeme_end.fn.kp T.d_lexeme_end.b .nil passL (pa_cons (pv 0) (pa_cons (pv 3) pa_nil))) (pg_tup rfl (pgs_cons (pg_name (i := 4) sc_row_lexemes.nd rfl (.inl rfl)) (pgs_cons (pg_name (i := 5) sc_row_lexemes.nd rfl (.inl rfl)) pgs_nil))))
      (pss_cons (ps_if (pt_cmpR op_eq (pv 4) pe_str (nomark _))
        (pss_one (ps_raise rfl (takes_of rfl rfl rfl rfl) (pmk_oex T.x_NoSign.cx T.x_NoSign.ini T.x_NoSign.ity (ok_NoSign_init T) (hr.mono (by decide)) T.x_NoSign.b .nil passL (by rfl) T.x_NoSign.g (pa_cons (pe_tup (pa_cons (pv 1) (pa_cons (pe_op op_add (pv 3) pe_int) pa_nil))) pa_nil))))
        pss_nil)
      (pss_cons (ps_if (pw_and (pt_cmpR op_ne (pv 4) pe_str (nomark _)) (pw_and (pt_cmpR op_lt (pv 5) (pe_callB call_len_str (by rfl) T.b_len PySem.boot_len (pa_cons (pv 0) pa_nil)) (nomark _)) (pw_and1 (pt_cmpR op_in_sign (pe_ix ix_str (pv 0) (pv 5) (fun _ _ => rfl)) (pe_op op_add_str (pe_op op_add_str (pe_g T.c_SMALL) (pe_g T.c_GREAT)) (pe_g T.c_FIGURES)) rfl)))).pt
        (pss_one (ps_raise rfl (takes_of rfl rfl rfl rfl) (pmk_oex T.x_NoSign.cx T.x_NoSign.ini T.x_NoSign.ity (ok_NoSign_init T) (hr.mono (by decide)) T.x_NoSign.b .nil passL (by rfl) T.x_NoSign.g (pa_cons (pe_tup (pa_cons (pv 1) (pa_cons (pe_op op_add (pv 5) pe_int) pa_nil))) pa_nil))))
        pss_nil)
      (pss_cons (ps_expr (pe_bm PySem.F.plainAttrs_list PySem.F.slot_list_append PySem.F.type_list_append mt_append (pv 2) (pa_cons (pe_tup (pa_cons (pe_tup (pa_cons (pv 1) (pa_cons (pe_op op_add (pv 3) pe_int) pa_nil))) (pa_cons (pv 4) (pa_cons (pe_slice sl_str (pv 0) (po_some (pv 3)) (po_some (pv 5))) pa_nil)))) pa_nil)))
      (pss_one (ps_set (i := 3) sc_row_lexemes.nd rfl (.inl rfl) (pv 5))))))))))
      (pss_one (ps_ret (pv 2)))))), ?_⟩
    have hrl : row.length = (tl row).length := (tl_len row).symm
    have hsz : row.length ≤ sizeLine := by rw [hrl]; exact szS (by omega)
    refine ⟨szS (by simp), fun fo hfo => ?_⟩
    refine ⟨fun m σ H' => ∃ (i : Nat) (y4 y5 : Option V) (us : List V) (t1 t2 : List Tk), σ = [some (.str row), some (.int (num : Int)), some (.ref fo), some (.int (i : Int)), y4, y5] ∧ Same H H' ∧ H' fo = some (.lst us) ∧ Paired (TkT H') us t1 ∧ LexR num i ((tl row).drop i) err t2 ∧ (err = none → ts = t1 ++ t2) ∧ i ≤ (tl row).length ∧ us.length ≤ i ∧ m = (tl row).length - i,
      ⟨_, 0, none, none, [], [], ts, rfl, same_new hfo, upd_same, .nil, hL, fun _ => rfl, by omega, by simp, rfl⟩, ?_⟩
    rintro m σ H' ⟨i, y4, y5, us, t1, t2, rfl, sm, hf, hp, hl, hts, hi, hu, rfl⟩
    refine ⟨_, rfl, _, rfl, row, rfl, hsz, _, _, rfl, rfl, _, rfl, ite2 (fun e => ?_) (fun e => ?_)⟩
    · have e1 := of_decide_eq_true e
      have hlt : i < (tl row).length := by rw [hrl] at e1; omega
      refine ⟨_, rfl, rfl, _, rfl, row, _, _, rfl, rfl, ?_⟩
      rw [starts3 row "--" i (by omega), dash_tl]
      obtain ⟨c, hc, hc2⟩ := at_some hlt
      have hd := drop_cons hc
      refine ⟨_, rfl, ?_⟩
      rw [hd] at hl ⊢
      cases hdash : isP [45, 45] (c :: (tl row).drop (i + 1)) with
      | true =>
        refine iteF ⟨_, rfl, ?_⟩
        have et2 : err = none ∧ t2 = [] := by
          cases hl with
          | fin => exact ⟨rfl, rfl⟩
          | blank h => simp [isP] at hdash
          | tok h1 h2 h3 => rw [hdash] at h3; cases h3
          | none h1 h2 h3 => rw [hdash] at h3; cases h3
          | glued h1 h2 h3 => rw [hdash] at h3; cases h3
        have hts2 := hts et2.1
        rw [et2.2, List.append_nil] at hts2
        subst hts2
        exact q et2.1 fo H' us hfo sm hf hp (by omega)
      | false =>
        refine iteT ?_
        refine ⟨fun σ' H'' => ∃ (i' : Nat) (y4 y5 : Option V) (us : List V) (t1' t2' : List Tk), i < i' ∧ σ' = [some (.str row), some (.int (num : Int)), some (.ref fo), some (.int (i' : Int)), y4, y5] ∧ Same H H'' ∧ H'' fo = some (.lst us) ∧ Paired (TkT H'') us t1' ∧ LexR num i' ((tl row).drop i') err t2' ∧ (err = none → ts = t1' ++ t2') ∧ i' ≤ (tl row).length ∧ us.length ≤ i',
          fun σ' H'' hN => ?_, ?_⟩
        · obtain ⟨i', y4, y5, us, t1', t2', hlt', h1, h2, h3, h4, h5, h6, h7, h8⟩ := hN
          exact ⟨(tl row).length - i', by omega, i', y4, y5, us, t1', t2', h1, h2, h3, h4, h5, h6, h7, h8, rfl⟩
        · refine ⟨_, rfl, _, rfl, row, _, c, rfl, rfl, hsz, hc2, rfl, _, rfl, ?_⟩
          rw [blank_is]
          rcases lex_inv hl hdash with ⟨rfl, hl2⟩ | ⟨hne, so, n, h1, hcase⟩
          · refine iteT ⟨_, rfl, _, _, rfl, rfl, i + 1, y4, y5, us, t1, t2, by omega, rfl, sm, hf, hp, hl2, hts, by omega, by omega⟩
          · rw [decide_eq_false hne]
            have hlen : (c :: (tl row).drop (i + 1)).length = (tl row).length - i := by rw [← hd, List.length_drop]
            refine iteF ⟨_, rfl, _, rfl, row, i, rfl, hlt, by omega, fun so' n' tp H1 hone htp sm1 htt => ?_⟩
            have eon : (so', n') = (so, n) := hone.symm.trans (by rw [hd]; exact h1)
            obtain ⟨rfl, rfl⟩ := Prod.mk.inj eon
            refine ⟨tp, _, rfl, .of htt, rfl, _, _, rfl, _, _, rfl, rfl, ?_⟩
            refine ⟨_, rfl, rfl, _, rfl, ?_⟩
            rcases hcase with ⟨hno, herr, _⟩ | ⟨h2, h4, hrest⟩
            · -- no lexeme begins
              rw [decide_eq_true (congrArg V.str hno)]
              refine iteT ⟨_, rfl, _, rfl, _, _, rfl, rfl, szS (by simp), fun pl hpl => raise1 fun d H2 hd2 sm2 hx2 => ?_⟩
              have snew := same_new (o := HO.tup [V.int (num : Int), V.int ((i : Int) + 1)]) hpl
              exact qe _ herr d H2 ((sm.trans (sm1.trans snew)).free hd2) (sm.trans (sm1.trans (snew.trans sm2))) ⟨pl, hx2, sm2 _ _ upd_same⟩
            rw [decide_eq_false (fun z => h2 (V.str.inj z))]
            refine iteF ?_
            have rest : 1 ≤ n' → (so' ≠ "sign" → ∀ d, ((c :: (tl row).drop (i + 1)).drop n').head? = some d → isAl d = false) → (∃ us, LexR num (i + n') ((c :: (tl row).drop (i + 1)).drop n') err us ∧ t2 = ⟨num, i + 1, so', S ((c :: (tl row).drop (i + 1)).take n')⟩ :: us) →
                tSeq (tDrop (tBM K "list" rAppend (tVar 2) (tCons (tTup (tCons (tTup (tCons (tVar 1) (tCons (tOp (rI0 fun i j => V.int (i + j)) (tVar 3) (tC (.int 1))) tNil))) (tCons (tVar 4) (tCons (tSl rSlS (tVar 0) (tPart (tVar 3)) (tPart (tVar 5))) tNil)))) tNil))) (tAsg (tVar 5) (gName 3))
                { nx := fun σ' H'' => ∃ (i' : Nat) (y4 y5 : Option V) (us : List V) (t1' t2' : List Tk), i < i' ∧ σ' = [some (.str row), some (.int (num : Int)), some (.ref fo), some (.int (i' : Int)), y4, y5] ∧ Same H H'' ∧ H'' fo = some (.lst us) ∧ Paired (TkT H'') us t1' ∧ LexR num i' ((tl row).drop i') err t2' ∧ (err = none → ts = t1' ++ t2') ∧ i' ≤ (tl row).length ∧ us.length ≤ i', rt := Q,
                  bk := fun σ' H'' => tRet (tVar 2) { nx := fun _ H' => Q .non H', rt := Q } σ' H'', ct := fun σ' H'' => ∃ (i' : Nat) (y4 y5 : Option V) (us : List V) (t1' t2' : List Tk), i < i' ∧ σ' = [some (.str row), some (.int (num : Int)), some (.ref fo), some (.int (i' : Int)), y4, y5] ∧ Same H H'' ∧ H'' fo = some (.lst us) ∧ Paired (TkT H'') us t1' ∧ LexR num i' ((tl row).drop i') err t2' ∧ (err = none → ts = t1' ++ t2') ∧ i' ≤ (tl row).length ∧ us.length ≤ i' }
                [some (.str row), some (.int (num : Int)), some (.ref fo), some (.int (i : Int)), some (.str so'), some (.int ((i + n' : Nat) : Int))] H1 := by
              rintro h3 h5 ⟨vs, h6, rfl⟩
              have hf1 : H1 fo = some (.lst us) := sm1 _ _ hf
              refine ⟨_, rfl, .inl ⟨rfl, _, .of hf1⟩, _, rfl, _, rfl, _, _, rfl, rfl, szS (by simp), fun b hb => ?_⟩
              refine ⟨_, rfl, _, rfl, _, rfl, _, rfl, _, rfl, _, rfl, row, rfl, hsz, szS (by simp), fun a ha => ?_⟩
              have nfb : fo ≠ b := ne_of_none hf1 hb
              have hf2 := (same_new (o := HO.tup [V.int (num : Int), V.int ((i : Int) + 1)]) hb) _ _ hf1
              have nfa : fo ≠ a := ne_of_none hf2 ha
              have hf3 : upd (upd H1 b (.tup [V.int (num : Int), V.int ((i : Int) + 1)])) a (.tup [V.ref b, V.str so', V.str (cutS row (some (i : Int)) (some ((i + n' : Nat) : Int)))]) fo = some (.lst us) := (same_new ha) _ _ hf2
              have smA : Same H1 (upd (upd H1 b (.tup [V.int (num : Int), V.int ((i : Int) + 1)])) a (.tup [V.ref b, V.str so', V.str (cutS row (some (i : Int)) (some ((i + n' : Nat) : Int)))])) := (same_new hb).trans (same_new ha)
              have nba : b ≠ a := fun z => by
                rw [← z, upd_same] at ha
                cases ha
              refine ⟨fo, us, .ref a, rfl, rfl, hf3, szL (by omega), _, rfl, i + n', _, _, us ++ [.ref a], t1 ++ [⟨num, i + 1, so', S ((c :: (tl row).drop (i + 1)).take n')⟩], vs, by omega, rfl, same_mut (sm.trans (sm1.trans smA)) hfo, upd_same, ?_, ?_, fun z => by rw [hts z]; simp, by omega, by rw [List.length_append]; simp; omega⟩
              · refine Paired.snoc (pt_but (pt_same (pt_same hp sm1) smA) (But.upd (But.refl _ _)) hf3) ⟨a, b, rfl, ?_, ?_⟩
                · rw [upd_ne nfa.symm, upd_same, cut_at row i (i + n') (by omega) (by omega), hd, show i + n' - i = n' by omega]
                · rw [upd_ne nfb.symm, upd_ne nba, upd_same]
                  rfl
              · rw [← hd, List.drop_drop] at h6
                exact h6
            refine ⟨_, rfl, rfl, _, rfl, ?_⟩
            by_cases hsg : so' = "sign"
            · rw [show (!decide (V.str so' = V.str "sign")) = false by rw [hsg]; simp]
              rcases hrest with ⟨hz2, _⟩ | ⟨r1, r2, r3⟩
              · exact absurd hsg hz2
              · exact iteF (iteF (rest r1 r2 r3))
            · rw [show (!decide (V.str so' = V.str "sign")) = true by rw [decide_eq_false (fun z => hsg (V.str.inj z))]; rfl]
              refine iteT ⟨_, rfl, _, rfl, row, rfl, hsz, _, _, rfl, rfl, _, rfl, ite2 (fun e5 => ?_) (fun e5 => ?_)⟩
              · have e6 := of_decide_eq_true e5
                have hlt2 : i + n' < (tl row).length := by rw [hrl] at e6; omega
                obtain ⟨d, hd1, hd2⟩ := at_some hlt2
                have hhead : ((c :: (tl row).drop (i + 1)).drop n').head? = some d := by rw [← hd, List.drop_drop, drop_cons hd1]; rfl
                refine ⟨_, rfl, _, rfl, row, _, d, rfl, rfl, hsz, hd2, _, _, rfl, rfl, szS (by decide), _, _, rfl, rfl, szS (by decide), d, _, rfl, rfl, _, rfl, ?_⟩
                rw [show decide (d ∈ _) = isAl d from in_al d]
                rcases hrest with ⟨_, ⟨d', hd3, hd4⟩, herr, _⟩ | ⟨r1, r2, r3⟩
                · rw [hhead] at hd3
                  cases hd3
                  rw [hd4]
                  refine iteT ⟨_, rfl, _, rfl, _, _, rfl, rfl, szS (by simp), fun pl hpl => raise1 fun d H2 hd2 sm2 hx2 => ?_⟩
                  have snew := same_new (o := HO.tup [V.int (num : Int), V.int (((i + n' : Nat) : Int) + 1)]) hpl
                  exact qe _ herr d H2 ((sm.trans (sm1.trans snew)).free hd2) (sm.trans (sm1.trans (snew.trans sm2))) ⟨pl, hx2, sm2 _ _ upd_same⟩
                · rw [r2 hsg d hhead]
                  exact iteF (rest r1 r2 r3)
              · rcases hrest with ⟨_, ⟨d', hd3, hd4⟩, herr, _⟩ | ⟨r1, r2, r3⟩
                · exfalso
                  have e6 : ¬ ((i + n' : Nat) : Int) < (row.length : Int) := fun z => e5 (decide_eq_true z)
                  rw [← hd, List.drop_drop, List.drop_eq_nil_of_le (by rw [hrl] at e6; omega)] at hd3
                  cases hd3
                · exact iteF (rest r1 r2 r3)
    · have e1 : ¬ (i : Int) < (row.length : Int) := fun z => e (decide_eq_true z)
      have ei : i = (tl row).length := by rw [hrl] at e1; omega
      refine iteF ⟨_, rfl, ?_⟩
      have et2 : err = none ∧ t2 = [] := by
        rw [ei, List.drop_length] at hl
        cases hl with
        | fin => exact ⟨rfl, rfl⟩
        | tok h1 => exact absurd rfl h1
        | none h1 => exact absurd rfl h1
        | glued h1 => exact absurd rfl h1
      have hts2 := hts et2.1
      rw [et2.2, List.append_nil] at hts2
      subst hts2
      exact q et2.1 fo H' us hfo sm hf hp (by omega)
def spLexemes (K : PySem.W.Frag) : Sp := fun vs H Q E => ∃ (a : Addr) (rows : List Str) (e : Option (Nat × Nat)) (ts : List Tk), vs = [.ref a] ∧ SqL K H a (rows.map V.str) ∧ rows.length ≤ 200 ∧ (∀ r ∈ rows, (tl r).length ≤ 300) ∧ LexE 1 rows e ts ∧
  (e = none → ∀ p H' us, H p = none → Same H H' → H' p = some (.lst us) → Paired (TkT H') us ts → us.length ≤ 300 * rows.length → Q (.ref p) H') ∧
  (∀ q, e = some q → ∀ d H', H d = none → Same H H' → PlaceAt H' d q → E (.ref (He.ga K "NoSign")) (some d) H')
theorem ok_lexemes (T : Txt K mg) : FnOk P w K mg base (L2.CX P w) 4 (He.ga K "lexemes") (fdAt K (He.ga K "lexemes")) ["text"] (spLexemes K) := by
  refine T.d_lexemes.fn.ok sc_lexemes (fun vs H Q E h => ?_) (fun cdv A outer s H vs Q E hr h => ?_)
  · obtain ⟨_, _, _, _, rfl, _⟩ := h
    rfl
  · obtain ⟨a, rows, err, ts, rfl, hS, hn, hz, hL, q, qe⟩ := h
    refine ⟨_, (pss_cons (ps_set (i := 1) sc_lexemes.nd rfl (.inl rfl) (pe_lst pa_nil))
      (pss_cons (ps_for (passes_of rfl) rfl (pi_enum (by rfl) T.b_enumerate (pa_cons (pv 0) pa_nil)) (pg_tup rfl (pgs_cons (pg_name (i := 2) sc_lexemes.nd rfl (.inl rfl)) (pgs_cons (pg_name (i := 3) sc_lexemes.nd rfl (.inl rfl)) pgs_nil)))
        (pss_one (ps_expr (pe_bm PySem.F.plainAttrs_list PySem.F.slot_list_extend PySem.F.type_list_extend mt_extend (pv 1) (pa_cons (pe_call (ok_row_lexemes T) (hr.mono (by decide)) (by rfl) T.d_row_lexemes.g T.d_row_lexemes.fn.kp T.d_row_lexemes.b .nil (passes_call (takes_of rfl rfl rfl rfl) (fun _ _ _ _ h => h)) (pa_cons (pv 3) (pa_cons (pe_op op_add (pv 2) pe_int) pa_nil))) pa_nil)))))
      (pss_one (ps_ret (pv 1))))), ?_⟩
    refine ⟨szS (by simp), fun fo hfo => ?_⟩
    refine ⟨_, rfl, a, _, rfl, (same_new hfo).seq hS, for_it (walk_enum (xs := rows.map V.str)) (fun i σ H' => ∃ (y2 y3 : Option V) (us : List V) (t1 t2 : List Tk), σ = [some (.ref a), some (.ref fo), y2, y3] ∧ Same H H' ∧ H' fo = some (.lst us) ∧ Paired (TkT H') us t1 ∧ LexE (i + 1) (rows.drop i) err t2 ∧ (err = none → ts = t1 ++ t2) ∧ us.length ≤ 300 * i)
      ⟨none, none, [], [], ts, rfl, same_new hfo, upd_same, .nil, hL, fun _ => rfl, by simp⟩ (fun i σ H' _ ⟨_, _, _, _, _, _, sm, _⟩ => sm.seq hS) (fun i x σ H1 H2 hi hP hY => ?_) (fun σ H' hP => ?_)⟩
    · obtain ⟨y2, y3, us, t1, t2, rfl, sm, hf, hp, hl, hts, hu⟩ := hP
      obtain ⟨T0, x1, x2, rfl, hT0, rfl, ex1, ex2⟩ := hY
      rw [List.length_map] at hi
      have hg : rows[i]? = some rows[i] := List.getElem?_eq_getElem hi
      have ex2' : x2 = .str rows[i] := by
        dsimp only at ex2
        rw [List.getElem?_map, hg] at ex2
        exact (Option.some.inj ex2).symm
      have ex1' : x1 = .int (i : Int) := (Option.some.inj ex1).symm
      subst ex1' ex2'
      refine ⟨T0, _, rfl, .of upd_same, rfl, _, _, rfl, _, _, rfl, rfl, ?_⟩
      have sm1 := same_new (o := HO.tup [.int (i : Int), .str rows[i]]) hT0
      have hf1 := sm1 _ _ hf
      rw [List.drop_eq_getElem_cons hi] at hl
      have hpz := hz _ (List.getElem_mem hi)
      cases hl with
      | @cons n r rs e u1 u2 hl1 hl2 =>
        refine ⟨_, rfl, .inl ⟨rfl, _, .of hf1⟩, _, rfl, _, rfl, _, _, rfl, rfl, rows[i], i + 1, none, u1, rfl, by omega, hl1, fun _ p H3 vs hp0 sm3 hp3 hpp hvl => ?_, fun q z => by cases z⟩
        have hf3 := sm3 _ _ hf1
        refine ⟨fo, p, us, vs, rfl, rfl, hf3, hp3, szS (by omega), _, _, us ++ vs, t1 ++ u1, u2, rfl, same_mut (sm.trans (sm1.trans sm3)) hfo, upd_same, ?_, hl2, fun z => by rw [hts z, List.append_assoc], by rw [List.length_append]; omega⟩
        exact pt_app (pt_but (pt_same (pt_same hp sm1) sm3) (But.upd (But.refl _ _)) hf3) (pt_but hpp (But.upd (But.refl _ _)) hf3)
      | @bad n r rs q0 u1 hl1 =>
        refine ⟨_, rfl, .inl ⟨rfl, _, .of hf1⟩, _, rfl, _, rfl, _, _, rfl, rfl, rows[i], i + 1, some q0, u1, rfl, by omega, hl1, (fun z => by cases z), fun q z d H3 hd3 sm3 hx3 => ?_⟩
        cases z
        exact qe q0 rfl d H3 ((sm.trans sm1).free hd3) (sm.trans (sm1.trans sm3)) hx3
    · obtain ⟨y2, y3, us, t1, t2, rfl, sm, hf, hp, hl, hts, hu⟩ := hP
      rw [List.length_map, List.drop_length] at hl
      cases hl
      have hts2 := hts rfl
      rw [List.append_nil] at hts2
      subst hts2
      exact ⟨_, rfl, q rfl fo H' us hfo sm hf hp (by rw [List.length_map] at hu; exact hu)⟩
end
end Sw
set_option Elab.async false
set_option linter.all false
set_option maxRecDepth 100000
set_option maxHeartbeats 4000000
namespace Sw
open PySem PySem.Spec PyProof.Rows L2 SX
/-- the lexemes of rows, the first of which has this number -/
inductive LexT : Nat → List Str → List Tk → Prop
  | nil {n : Nat} : LexT n [] []
  | cons {n : Nat} {r : Str} {rs : List Str} {t1 t2 : List Tk} : LexR n 0 (tl r) none t1 → LexT (n + 1) rs t2 → LexT n (r :: rs) (t1 ++ t2)
section
variable {P : Program} {w : World} {K : PySem.W.Frag} {mg : Str → Option Value} {base : Heap}
/-! ### words and signs of the law's own -/
def spWords : Sp := fun vs H Q _ => vs = [] ∧ ∀ p H', H p = none → Same H H' → H' p = some (.lst (WORDS.map V.str)) → Q (.ref p) H'
theorem ok_L_words (T : Txt K mg) : FnOk P w K mg base (L2.CX P w) 1 (He.ga K "_law_words") (fdAt K (He.ga K "_law_words")) [] spWords := by
  refine T.d_L_words.fn.ok sc_L_words (fun vs H Q E h => ?_) (fun cdv A outer s H vs Q E hr h => ?_)
  · obtain ⟨rfl, _⟩ := h
    rfl
  · obtain ⟨rfl, q⟩ := h
    refine ⟨_, PSs.nox (pss_one (ps_ret (pe_lst (pa_cons pe_str (pa_cons pe_str (pa_cons pe_str (pa_cons pe_str (pa_cons pe_str (pa_cons pe_str (pa_cons pe_str (pa_cons pe_str (pa_cons pe_str pa_nil)))))))))))), ?_⟩
    exact ⟨szS (by simp), fun p hp => q p _ hp (same_new hp) upd_same⟩
def GROW : List (Str × Str) := [("-", ">"), ("=", "="), ("-", "-"), ("<", "-"), ("=", "-"), ("*", "-"), ("+", "-"), ("|", "-"), ("(", "-")]
/-- a list of lists of two texts -/
def Pr (H : Hp) (v : V) (p : Str × Str) : Prop := ∃ a, v = .ref a ∧ H a = some (.lst [.str p.1, .str p.2])
theorem Pr.same {H H' : Hp} {v : V} {p : Str × Str} (h : Pr H v p) (e : Same H H') : Pr H' v p := by
  obtain ⟨a, h1, h2⟩ := h
  exact ⟨a, h1, e _ _ h2⟩
def spGrow : Sp := fun vs H Q _ => vs = [] ∧ ∀ p H' us, H p = none → Same H H' → H' p = some (.lst us) → Paired (Pr H') us GROW → Q (.ref p) H'
theorem ok_L_grow (T : Txt K mg) : FnOk P w K mg base (L2.CX P w) 1 (He.ga K "_law_grow") (fdAt K (He.ga K "_law_grow")) [] spGrow := by
  refine T.d_L_grow.fn.ok sc_L_grow (fun vs H Q E h => ?_) (fun cdv A outer s H vs Q E hr h => ?_)
  · obtain ⟨rfl, _⟩ := h
    rfl
  · obtain ⟨rfl, q⟩ := h
    refine ⟨_, PSs.nox (pss_one (ps_ret (pe_lst (pa_cons (pe_lst (pa_cons pe_str (pa_cons pe_str pa_nil))) (pa_cons (pe_lst (pa_cons pe_str (pa_cons pe_str pa_nil))) (pa_cons (pe_lst (pa_cons pe_str (pa_cons pe_str pa_nil))) (pa_cons (pe_lst (pa_cons pe_str (pa_cons pe_str pa_nil))) (pa_cons (pe_lst (pa_cons pe_str (pa_cons pe_str pa_nil))) (pa_cons (pe_lst (pa_cons pe_str (pa_cons pe_str pa_nil))) (pa_cons (pe_lst (pa_cons pe_str (pa_cons pe_str pa_nil))) (pa_cons (pe_lst (pa_cons pe_str (pa_cons pe_str pa_nil))) (pa_cons (pe_lst (pa_cons pe_str (pa_cons pe_str pa_nil))) pa_nil)))))))))))), ?_⟩
    have two : ∀ (x y : V), [x, y].length ≤ sizeLine := fun _ _ => szS (by simp)
    refine ⟨two _ _, fun p1 h1 => ⟨two _ _, fun p2 h2 => ⟨two _ _, fun p3 h3 => ⟨two _ _, fun p4 h4 => ⟨two _ _, fun p5 h5 => ⟨two _ _, fun p6 h6 => ⟨two _ _, fun p7 h7 => ⟨two _ _, fun p8 h8 => ⟨two _ _, fun p9 h9 => ⟨szS (by simp), fun p hp => ?_⟩⟩⟩⟩⟩⟩⟩⟩⟩⟩
    have s9 := same_new (o := HO.lst [V.ref p1, V.ref p2, V.ref p3, V.ref p4, V.ref p5, V.ref p6, V.ref p7, V.ref p8, V.ref p9]) hp
    have s8 := (same_new (o := HO.lst [V.str "(", V.str "-"]) h9).trans s9
    have s7 := (same_new (o := HO.lst [V.str "|", V.str "-"]) h8).trans s8
    have s6 := (same_new (o := HO.lst [V.str "+", V.str "-"]) h7).trans s7
    have s5 := (same_new (o := HO.lst [V.str "*", V.str "-"]) h6).trans s6
    have s4 := (same_new (o := HO.lst [V.str "=", V.str "-"]) h5).trans s5
    have s3 := (same_new (o := HO.lst [V.str "<", V.str "-"]) h4).trans s4
    have s2 := (same_new (o := HO.lst [V.str "-", V.str "-"]) h3).trans s3
    have s1 := (same_new (o := HO.lst [V.str "=", V.str "="]) h2).trans s2
    have s0 := (same_new (o := HO.lst [V.str "-", V.str ">"]) h1).trans s1
    have f0 : Same H _ := (same_new (o := HO.lst [V.str "-", V.str ">"]) h1).trans ((same_new (o := HO.lst [V.str "=", V.str "="]) h2).trans ((same_new (o := HO.lst [V.str "-", V.str "-"]) h3).trans ((same_new (o := HO.lst [V.str "<", V.str "-"]) h4).trans ((same_new (o := HO.lst [V.str "=", V.str "-"]) h5).trans ((same_new (o := HO.lst [V.str "*", V.str "-"]) h6).trans ((same_new (o := HO.lst [V.str "+", V.str "-"]) h7).trans ((same_new (o := HO.lst [V.str "|", V.str "-"]) h8).trans (same_new (o := HO.lst [V.str "(", V.str "-"]) h9))))))))
    refine q p _ [.ref p1, .ref p2, .ref p3, .ref p4, .ref p5, .ref p6, .ref p7, .ref p8, .ref p9] (f0.free hp) s0 upd_same ?_
    exact .cons ⟨p1, rfl, s1 _ _ upd_same⟩ (.cons ⟨p2, rfl, s2 _ _ upd_same⟩ (.cons ⟨p3, rfl, s3 _ _ upd_same⟩ (.cons ⟨p4, rfl, s4 _ _ upd_same⟩ (.cons ⟨p5, rfl, s5 _ _ upd_same⟩ (.cons ⟨p6, rfl, s6 _ _ upd_same⟩ (.cons ⟨p7, rfl, s7 _ _ upd_same⟩ (.cons ⟨p8, rfl, s8 _ _ upd_same⟩ (.cons ⟨p9, rfl, s9 _ _ upd_same⟩ .nil))))))))
end
theorem units65 {A : Around} {k : Nat} (hr : Room k A) : A.units + 65 < cLine := by have := hr.un; omega
theorem eqv_pr (a b c d : Str) : PyData.eqv (.list [.str a, .str b]) (.list [.str c, .str d]) = (a == c && b == d) := by
  simp only [PyData.eqv, PyData.eqvAll, Bool.and_true]
theorem strOk_of {w : Str} (h : ∀ c ∈ tl w, c < 128) : PyData.strOk w = true := by
  unfold PyData.strOk
  rw [← Array.all_toList, List.all_eq_true]
  intro c hc
  exact decide_eq_true (Nat.lt_trans (h c hc) (by decide))
theorem all_lt {p : Nat → Bool} {l : List Nat} (hp : ∀ c, p c = true → c < 128) (h : l.all p = true) : ∀ c ∈ l, c < 128 := fun c hc => hp c (List.all_eq_true.mp h c hc)
theorem sm_lt (c : Nat) (h : isSm c = true) : c < 128 := by have := sm_rng h; omega
theorem fi_lt (c : Nat) (h : isFi c = true) : c < 128 := by have := fi_rng h; omega
theorem words_ok : ∀ w ∈ WORDS, PyData.strOk w = true := by decide +kernel
theorem signs_ok : ∀ w ∈ SIGNS, PyData.strOk w = true := by decide +kernel
theorem tok_ok {so w : Str} (h : TokOk so w) : PyData.strOk w = true := by
  rcases h with ⟨rfl, h1, h2, h3, h4⟩ | ⟨rfl, h1⟩ | ⟨rfl, c, r, e, h1, h2, h3⟩ | ⟨rfl, h1⟩ | ⟨rfl, h1⟩
  · exact strOk_of (all_lt sm_lt h1)
  · exact words_ok w h1
  · refine strOk_of fun d hd => ?_
    rw [e] at hd
    rcases List.mem_cons.mp hd with rfl | hd
    · have := gr_rng h1
      omega
    · exact all_lt sm_lt h2 d hd
  · refine strOk_of fun d hd => ?_
    rcases h1 with e | ⟨c, r, e, h1, _, h3⟩
    · rw [e] at hd
      rcases List.mem_cons.mp hd with rfl | hd
      · decide
      · cases hd
    · rw [e] at hd
      rcases List.mem_cons.mp hd with rfl | hd
      · exact fi_lt _ h1
      · exact all_lt fi_lt h3 d hd
  · exact signs_ok w h1
def TouchOk : Option (Str × Str) → Str → Prop
  | none, _ => True
  | some (ls, lw), w => ∀ rest, Sep ls lw (tl w ++ rest)
theorem tok_head {so w : Str} (h : TokOk so w) (hn : so ≠ "sign") : ∃ c r, tl w = c :: r ∧ isAl c = true := by
  have sm : ∀ {l : List Nat}, l.all isSm = true → 1 ≤ l.length → ∃ c r, l = c :: r ∧ isAl c = true := fun {l} h1 h2 => by
    cases l with
    | nil => simp at h2
    | cons c r =>
      rw [List.all_cons, Bool.and_eq_true] at h1
      exact ⟨c, r, rfl, by unfold isAl; rw [h1.1]; rfl⟩
  rcases h with ⟨rfl, h1, h2, h3, h4⟩ | ⟨rfl, h1⟩ | ⟨rfl, c, r, e, h1, h2, h3⟩ | ⟨rfl, h1⟩ | ⟨rfl, h1⟩
  · exact sm h1 h2
  · exact sm (words_sm w h1).1 (words_sm w h1).2.1
  · exact ⟨c, r, e, by unfold isAl; rw [h1]; simp⟩
  · rcases h1 with e | ⟨c, r, e, h1, _⟩
    · exact ⟨48, [], e, by decide⟩
    · exact ⟨c, r, e, by unfold isAl; rw [h1]; simp⟩
  · exact absurd rfl hn
theorem sign_head : ∀ w ∈ SIGNS, ∃ c r, tl w = c :: r ∧ isAl c = false := by
  have h : ∀ w ∈ SIGNS, (match tl w with | [] => false | c :: _ => !isAl c) = true := by decide +kernel
  intro w hw
  have q := h w hw
  cases e : tl w with
  | nil => rw [e] at q; cases q
  | cons c r =>
    rw [e] at q
    exact ⟨c, r, rfl, by simpa using q⟩
theorem signs_lt : ∀ w ∈ SIGNS, ∀ c ∈ tl w, c < 128 := by decide +kernel
theorem al_not {c : Nat} (h : isAl c = true) : c ≠ 62 ∧ c ≠ 45 ∧ c ≠ 61 := by
  refine ⟨?_, ?_, ?_⟩ <;> (rintro rfl; revert h; decide)
theorem tok_sign {w : Str} (h : TokOk "sign" w) : w ∈ SIGNS := by
  rcases h with ⟨e, _⟩ | ⟨e, _⟩ | ⟨e, _⟩ | ⟨e, _⟩ | ⟨_, h⟩
  · exact absurd e (by decide +kernel)
  · exact absurd e (by decide +kernel)
  · exact absurd e (by decide +kernel)
  · exact absurd e (by decide +kernel)
  · exact h
theorem head_app {p : Nat → Prop} {c : Nat} {r rest : List Nat} (h : ¬ p c) : HeadNot p (c :: r ++ rest) := fun d hd => by
  have e : c = d := Option.some.inj hd
  rw [← e]
  exact h
theorem touch_one {ls lw w : Str} (h : ls ≠ "sign") (hw : w ∈ SIGNS) : TouchOk (some (ls, lw)) w := fun rest => by
  obtain ⟨c, r, e, hc⟩ := sign_head w hw
  rw [e]
  exact ⟨fun _ => head_app (by rw [hc]; decide), fun z => absurd z h⟩
theorem touch_two {so lw w : Str} (h : TokOk so w) (hn : so ≠ "sign") : TouchOk (some ("sign", lw)) w := fun rest => by
  obtain ⟨c, r, e, hc⟩ := tok_head h hn
  obtain ⟨a, b, d⟩ := al_not hc
  rw [e]
  exact ⟨fun z => absurd rfl z, fun _ => ⟨fun _ => head_app (by omega), fun _ => head_app (by omega)⟩⟩
theorem touch_three {lw w : Str} {c : Nat} {r : List Nat} (e : tl w = c :: r) (h : ∀ p ∈ GROW, (p.1 == lw && p.2 == (⟨#[c]⟩ : Str)) = false) : TouchOk (some ("sign", lw)) w := fun rest => by
  have g1 := h ("-", ">") (by decide +kernel)
  have g2 := h ("-", "-") (by decide +kernel)
  have g3 := h ("=", "=") (by decide +kernel)
  have one : ∀ {x : Str} {n : Nat}, x = ⟨#[n]⟩ → (lw = lw) → (c = n → (x == (⟨#[c]⟩ : Str)) = true) := fun {x n} hx _ hc => by
    rw [hx, hc]
    exact beq_self_eq_true _
  rw [e]
  refine ⟨fun z => absurd rfl z, fun _ => ⟨fun z => head_app ?_, fun z => head_app ?_⟩⟩
  · subst z
    rintro (rfl | rfl)
    · rw [beq_self_eq_true, Bool.true_and, one (n := 62) (by decide +kernel) rfl rfl] at g1
      cases g1
    · rw [beq_self_eq_true, Bool.true_and, one (n := 45) (by decide +kernel) rfl rfl] at g2
      cases g2
  · subst z
    rintro rfl
    rw [beq_self_eq_true, Bool.true_and, one (n := 61) (by decide +kernel) rfl rfl] at g3
    cases g3
section
variable {P : Program} {w : World} {K : PySem.W.Frag} {mg : Str → Option Value} {base : Heap}
theorem dp_pr {H : Hp} {v : V} {p : Str × Str} (h : Pr H v p) : Dp K H v (.list [.str p.1, .str p.2]) := by
  obtain ⟨a, rfl, h2⟩ := h
  exact .lst (.of h2) (.cons (.str _) (.cons (.str _) .nil))
theorem dp_prs {H : Hp} : ∀ {us : List V} {ps : List (Str × Str)}, Paired (Pr H) us ps → DpAll K H us (ps.map fun p => .list [.str p.1, .str p.2])
  | _, _, .nil => .nil
  | _, _, .cons h t => .cons (dp_pr h) (dp_prs t)
def lastV (H : Hp) : Option (Str × Str) → V → Prop
  | none, v => v = .non
  | some (ls, lw), v => ∃ l, v = .ref l ∧ H l = some (.lst [.str ls, .str lw]) ∧ TokOk ls lw
def spTouches : Sp := fun vs H Q _ => ∃ (so w : Str) (v : V) (last : Option (Str × Str)), vs = [.str so, .str w, v] ∧ lastV H last v ∧ TokOk so w ∧ w.length ≤ 100 ∧ (∀ ls lw, last = some (ls, lw) → lw.length ≤ 100) ∧
  ∀ b H', Same H H' → (b = true → TouchOk last w) → Q (.bl b) H'
theorem ok_L_touches (T : Txt K mg) : FnOk P w K mg base (L2.CX P w) 2 (He.ga K "_law_touches") (fdAt K (He.ga K "_law_touches")) ["_law_sort_here", "_law_word_here", "_law_last"] spTouches := by
  refine T.d_L_touches.fn.ok sc_L_touches (fun vs H Q E h => ?_) (fun cdv A outer s H vs Q E hr h => ?_)
  · obtain ⟨_, _, _, _, rfl, _⟩ := h
    rfl
  · obtain ⟨so, w, v, last, rfl, hv, ht, hw, hlw, q⟩ := h
    refine ⟨_, PSs.nox (pss_cons (ps_if (pt_cmpR op_isN (pv 2) pe_non (nomark _))
        (pss_one (ps_ret pe_bl))
        pss_nil)
      (pss_cons (ps_if (pw_and (pt_cmpR op_ne (pe_ix ix_list (pv 2) pe_int (fun _ _ => rfl)) pe_str (nomark _)) (pw_and1 (pt_cmpR op_ne (pv 0) pe_str (nomark _)))).pt
        (pss_one (ps_ret pe_bl))
        pss_nil)
      (pss_cons (ps_if (pw_and (pt_cmpR op_eq (pe_ix ix_list (pv 2) pe_int (fun _ _ => rfl)) pe_str (nomark _)) (pw_and1 (pt_cmpR op_eq (pv 0) pe_str (nomark _)))).pt
        (pss_cons (ps_set (i := 3) sc_L_touches.nd rfl (.inl rfl) (pe_op op_add_str (pe_ix ix_list (pv 2) pe_int (fun _ _ => rfl)) (pv 1)))
      (pss_one (ps_ret (pe_and (pe_cmpR op_notIn_seq (pv 3) (pe_lst (pa_cons pe_str (pa_cons pe_str (pa_cons pe_str pa_nil)))) rfl) (pe_and (pe_not (pe_bm PySem.F.plainAttrs_str PySem.F.slot_str_startswith PySem.F.type_str_startswith mt_startswith (pv 3) (pa_cons pe_str pa_nil))) (pe_one (pe_cmpR (op_notInD (units65 hr)) (pe_lst (pa_cons (pe_ix ix_list (pv 2) pe_int (fun _ _ => rfl)) (pa_cons (pe_ix ix_str (pv 1) pe_int (fun _ _ => rfl)) pa_nil))) (pe_call0 (ok_L_grow T) (hr.mono (by decide)) (by rfl) T.d_L_grow.g T.d_L_grow.fn.kp T.d_L_grow.b .nil passL) rfl)))))))
        pss_nil)
      (pss_one (ps_ret pe_bl))))), ?_⟩
    cases last with
    | none =>
      obtain rfl : v = .non := hv
      exact ⟨_, rfl, rfl, _, rfl, iteT (q true H (Same.refl H) fun _ => True.intro)⟩
    | some p =>
      obtain ⟨ls, lw⟩ := p
      obtain ⟨l, rfl, hl, htl⟩ := hv
      have hlw' := hlw ls lw rfl
      have hix0 : atI [V.str ls, V.str lw] 0 = some (.str ls) := rfl
      have hix1 : atI [V.str ls, V.str lw] 1 = some (.str lw) := rfl
      refine ⟨_, rfl, rfl, _, rfl, iteF ?_⟩
      refine ⟨_, rfl, l, _, 0, _, rfl, rfl, .of hl, hix0, rfl, _, rfl, ?_⟩
      by_cases e1 : ls = "sign"
      · subst e1
        rw [show (!decide (V.str (Str.ofString "sign") = V.str "sign")) = false by simp]
        refine iteF (iteF ⟨_, rfl, l, _, 0, _, rfl, rfl, .of hl, hix0, rfl, _, rfl, ?_⟩)
        rw [decide_eq_true rfl]
        refine iteT ⟨_, rfl, rfl, _, rfl, ?_⟩
        by_cases e2 : so = "sign"
        · subst e2
          rw [decide_eq_true rfl]
          have hws := tok_sign ht
          obtain ⟨c, r, ec, hc⟩ := sign_head w hws
          have hat : atI (tl w) 0 = some c := atI_nat (j := 0) (by rw [ec]; rfl)
          refine iteT ⟨_, rfl, l, _, 1, _, rfl, rfl, .of hl, hix1, _, rfl, lw, w, rfl, rfl, szS (by omega), ?_⟩
          refine ⟨_, rfl, szS (by simp), fun p1 hp1 => ?_⟩
          have s1 := same_new (o := HO.lst [V.str "-->", V.str "--", V.str "->>"]) hp1
          refine ⟨p1, _, rfl, .inl (.of upd_same), rfl, rfl, _, rfl, ite2 (fun e3 => ?_) (fun e3 => q false _ s1 fun z => by cases z)⟩
          refine ⟨_, rfl, rfl, lw ++ w, _, rfl, rfl, _, rfl, _, rfl, ite2 (fun e4 => ?_) (fun e4 => q false _ s1 fun z => by cases z)⟩
          refine ⟨_, rfl, l, _, 1, _, rfl, rfl, .of (s1 _ _ hl), hix1, _, rfl, w, _, c, rfl, rfl, szS (by omega), hat, szS (by simp), fun p2 hp2 => ?_⟩
          have s2 := same_new (o := HO.lst [V.str lw, V.str ⟨#[c]⟩]) hp2
          refine ⟨rfl, fun p3 H3 us hp3 s3 h3 hpr => ?_⟩
          refine ⟨.list [.str lw, .str ⟨#[c]⟩], _, .lst (.of (s3 _ _ upd_same)) (.cons (.str _) (.cons (.str _) .nil)), .lst (.of h3) (dp_prs hpr), ?_, by decide +kernel, ?_⟩
          · have k1 := tok_ok htl
            have k2 : PyData.strOk (⟨#[c]⟩ : Str) = true := strOk_of fun d hd => by
              have e : d = c := by simpa [tl] using hd
              rw [e]
              have k3 := signs_lt w hws c (by rw [ec]; exact List.mem_cons_self ..)
              exact k3
            simp [SeqAt.shaped, PyData.canLay0, PyData.canLayAll0, PyData.depth, PyData.depthAll, k1, k2]
          · refine q _ _ (s1.trans (s2.trans s3)) fun z => touch_three ec fun p hp => ?_
            rw [Bool.not_eq_true'] at z
            have z2 := List.any_eq_false.mp z (.list [.str p.1, .str p.2]) (List.mem_map.mpr ⟨p, hp, rfl⟩)
            rw [eqv_pr] at z2
            simpa using z2
        · rw [decide_eq_false (fun z => e2 (V.str.inj z))]
          exact iteF (q true H (Same.refl H) fun _ => touch_two ht e2)
      · rw [show (!decide (V.str ls = V.str "sign")) = true by rw [decide_eq_false (fun z => e1 (V.str.inj z))]; rfl]
        refine iteT ⟨_, rfl, rfl, _, rfl, ?_⟩
        by_cases e2 : so = "sign"
        · subst e2
          rw [show (!decide (V.str (Str.ofString "sign") = V.str "sign")) = false by simp]
          refine iteF ⟨_, rfl, l, _, 0, _, rfl, rfl, .of hl, hix0, rfl, _, rfl, ?_⟩
          rw [decide_eq_false (fun z => e1 (V.str.inj z))]
          exact iteF (iteF (q true H (Same.refl H) fun _ => touch_one e1 (tok_sign ht)))
        · rw [show (!decide (V.str so = V.str "sign")) = true by rw [decide_eq_false (fun z => e2 (V.str.inj z))]; rfl]
          exact iteT (q false H (Same.refl H) fun z => by cases z)
end
/-! ### a drawn word -/
def smB (w : Str) : Bool := (tl w).all isSm && (decide (1 ≤ (tl w).length) && decide ((tl w).length ≤ 8))
theorem tok_nw {w : Str} (h : smB w = true) : TokOk (if w ∈ WORDS then "word" else "name") w := by
  unfold smB at h
  rw [Bool.and_eq_true, Bool.and_eq_true, decide_eq_true_eq, decide_eq_true_eq] at h
  by_cases e : w ∈ WORDS
  · rw [if_pos e]
    exact .inr (.inl ⟨rfl, e⟩)
  · rw [if_neg e]
    exact .inl ⟨rfl, h.1, h.2.1, h.2.2, e⟩
def mkB (w : Str) : Bool := match tl w with
  | c :: r => isGr c && (r.all isSm && decide (r.length ≤ 7))
  | [] => false
theorem tok_mk {w : Str} (h : mkB w = true) : TokOk "maker" w := by
  unfold mkB at h
  cases e : tl w with
  | nil => rw [e] at h; cases h
  | cons c r =>
    rw [e] at h
    simp only [Bool.and_eq_true, decide_eq_true_eq] at h
    exact .inr (.inr (.inl ⟨rfl, c, r, e, h.1, h.2.1, h.2.2⟩))
def nuB (w : Str) : Bool := match tl w with
  | c :: r => isFi c && r.all isFi && (decide (c ≠ 48) || decide (r = []))
  | [] => false
theorem tok_nu {w : Str} (h : nuB w = true) : TokOk "number" w := by
  unfold nuB at h
  cases e : tl w with
  | nil => rw [e] at h; cases h
  | cons c r =>
    rw [e] at h
    simp only [Bool.and_eq_true, Bool.or_eq_true, decide_eq_true_eq] at h
    refine .inr (.inr (.inr (.inl ⟨rfl, ?_⟩)))
    by_cases e0 : c = 48
    · rcases h.2 with h2 | h2
      · exact absurd e0 h2
      · left
        rw [e, e0, h2]
    · exact .inr ⟨c, r, e, h.1.1, e0, h.1.2⟩
/-- an item of a written list of texts -/
theorem pick {L : List Str} {r : Int} (h0 : 0 ≤ r) (h1 : r < (L.length : Int)) : ∃ w, w ∈ L ∧ atI (L.map V.str) r = some (.str w) := by
  obtain ⟨n, rfl⟩ := Int.eq_ofNat_of_zero_le h0
  have hn : n < L.length := by omega
  refine ⟨L[n], List.getElem_mem hn, atI_nat ?_⟩
  rw [List.getElem?_map, List.getElem?_eq_getElem hn]
  rfl
theorem bool_ix (b : Bool) (x y : V) : atI [x, y] (if b = true then 1 else 0) = some (if b = true then y else x) := by
  cases b <;> rfl
def L1 : List Str := ["x", "f", "in", "ab", "lets", "ofa", "datas", "abcdefgh", "e", "then"]
def L2' : List Str := ["A", "Cons", "True", "Abcdefgh", "In", "Z"]
def L3 : List Str := ["0", "7", "10", "42", "1" ++ S (List.replicate 26 (tl "0")).flatten, "905"]
theorem l1_ok : ∀ w ∈ L1, smB w = true ∧ w.length ≤ 30 := by decide +kernel
theorem l2_ok : ∀ w ∈ L2', mkB w = true ∧ w.length ≤ 30 := by decide +kernel
theorem l3_ok : ∀ w ∈ L3, nuB w = true ∧ w.length ≤ 30 := by decide +kernel
theorem words_len : ∀ w ∈ WORDS, w.length ≤ 30 := by decide +kernel
theorem signs_len : ∀ w ∈ SIGNS, w.length ≤ 30 := by decide +kernel
section
variable {P : Program} {w : World} {K : PySem.W.Frag} {mg : Str → Option Value} {base : Heap}
theorem join_one (ys : List Str) : Txt.join "" ys = S (ys.map tl).flatten := by
  have e0 : (Str.ofString "") = S [] := by decide +kernel
  have h := SX.join_S [] (ys.map tl)
  rw [List.map_map] at h
  have e1 : (S ∘ tl : Str → Str) = id := funext fun x => S_tl' x
  rw [e1, List.map_id] at h
  rw [e0, h]
  congr 1
  have : ∀ l : List (List Nat), TL.joinL [] l = l.flatten := by
    intro l
    induction l with
    | nil => rfl
    | cons x l ih =>
      cases l with
      | nil => simp [TL.joinL]
      | cons y l =>
        rw [List.flatten_cons, ← ih]
        rfl
  rw [this]
def spWord : Sp := fun vs H Q _ => ∃ (pu : Addr) (n : Nat), vs = [.ref pu] ∧ PuOk H pu n ∧ n ≤ 1000000 ∧
  ∀ p H' so w, H p = none → But pu H H' → PuOk H' pu (n + 20) → H' p = some (.lst [.str so, .str w]) → TokOk so w → w.length ≤ 30 → Q (.ref p) H'
theorem ok_L_word (T : Txt K mg) : FnOk P w K mg base (L2.CX P w) 3 (He.ga K "_law_word") (fdAt K (He.ga K "_law_word")) ["_law_purse_here"] spWord := by
  refine T.d_L_word.fn.ok sc_L_word (fun vs H Q E h => ?_) (fun cdv A outer s H vs Q E hr h => ?_)
  · obtain ⟨_, _, rfl, _⟩ := h
    rfl
  · obtain ⟨pu, n, rfl, hpu, hn, q⟩ := h
    refine ⟨_, PSs.nox (pss_cons (ps_set (i := 1) sc_L_word.nd rfl (.inl rfl) (pe_call (ok_L_take T) (hr.mono (by decide)) (by rfl) T.d_L_take.g T.d_L_take.fn.kp T.d_L_take.b .nil passL (pa_cons (pv 0) (pa_cons pe_int pa_nil))))
      (pss_cons (ps_set (i := 2) sc_L_word.nd rfl (.inr rfl) pe_str)
      (pss_cons (ps_if (pt_cmpR op_lt (pv 1) pe_int (nomark _))
        (pss_cons (ps_set (i := 3) sc_L_word.nd rfl (.inl rfl) (pe_ix ix_list (pe_lst (pa_cons pe_str (pa_cons pe_str (pa_cons pe_str (pa_cons pe_str (pa_cons pe_str (pa_cons pe_str (pa_cons pe_str (pa_cons pe_str (pa_cons pe_str (pa_cons pe_str pa_nil))))))))))) (pe_call (ok_L_take T) (hr.mono (by decide)) (by rfl) T.d_L_take.g T.d_L_take.fn.kp T.d_L_take.b .nil passL (pa_cons (pv 0) (pa_cons pe_int pa_nil))) (fun _ _ => rfl)))
      (pss_one (ps_ret (pe_lst (pa_cons (pe_ix ix_list (pe_lst (pa_cons pe_str (pa_cons pe_str pa_nil))) (pe_callTy call_int1 (by rfl) T.b_int (by decide +kernel) (pa_cons (pe_cmpR op_in_seq (pv 3) (pe_call0 (ok_L_words T) (hr.mono (by decide)) (by rfl) T.d_L_words.g T.d_L_words.fn.kp T.d_L_words.b .nil passL) rfl) pa_nil)) (fun _ _ => rfl)) (pa_cons (pv 3) pa_nil))))))
        pss_nil)
      (pss_cons (ps_if (pt_cmpR op_eq (pv 1) pe_int (nomark _))
        (pss_one (ps_ret (pe_lst (pa_cons pe_str (pa_cons (pe_ix ix_list (pe_lst (pa_cons pe_str (pa_cons pe_str (pa_cons pe_str (pa_cons pe_str (pa_cons pe_str (pa_cons pe_str pa_nil))))))) (pe_call (ok_L_take T) (hr.mono (by decide)) (by rfl) T.d_L_take.g T.d_L_take.fn.kp T.d_L_take.b .nil passL (pa_cons (pv 0) (pa_cons pe_int pa_nil))) (fun _ _ => rfl)) pa_nil)))))
        pss_nil)
      (pss_cons (ps_if (pt_cmpR op_eq (pv 1) pe_int (nomark _))
        (pss_one (ps_ret (pe_lst (pa_cons pe_str (pa_cons (pe_ix ix_list (pe_lst (pa_cons pe_str (pa_cons pe_str (pa_cons pe_str (pa_cons pe_str (pa_cons (pe_op op_add_str pe_str (pe_op op_mulS pe_str pe_int)) (pa_cons pe_str pa_nil))))))) (pe_call (ok_L_take T) (hr.mono (by decide)) (by rfl) T.d_L_take.g T.d_L_take.fn.kp T.d_L_take.b .nil passL (pa_cons (pv 0) (pa_cons pe_int pa_nil))) (fun _ _ => rfl)) pa_nil)))))
        pss_nil)
      (pss_cons (ps_if (pt_cmpR op_eq (pv 1) pe_int (nomark _))
        (pss_cons (ps_set (i := 3) sc_L_word.nd rfl (.inl rfl) (pe_ix ix_list (pe_call0 (ok_L_words T) (hr.mono (by decide)) (by rfl) T.d_L_words.g T.d_L_words.fn.kp T.d_L_words.b .nil passL) (pe_call (ok_L_take T) (hr.mono (by decide)) (by rfl) T.d_L_take.g T.d_L_take.fn.kp T.d_L_take.b .nil passL (pa_cons (pv 0) (pa_cons pe_int pa_nil))) (fun _ _ => rfl)))
      (pss_one (ps_ret (pe_lst (pa_cons pe_str (pa_cons (pv 3) pa_nil))))))
        pss_nil)
      (pss_cons (ps_if (pt_cmpR op_eq (pv 1) pe_int (nomark _))
        (pss_cons (ps_set (i := 4) sc_L_word.nd rfl (.inl rfl) (pe_join pe_str (pe_lc (own := [("_law_k", 5)]) (g := gName 5) rfl sc_L_word.nd (pi_range1 (by rfl) T.b_range (pa_cons (pe_op op_add pe_int (pe_call (ok_L_take T) (hr.mono (by decide)) (by rfl) T.d_L_take.g T.d_L_take.fn.kp T.d_L_take.b .nil passL (pa_cons (pv 0) (pa_cons pe_int pa_nil)))) pa_nil)) (blkOk_by (own := [("_law_k", 5)]) (N := ["_law_purse_here", "_law_way", "_law_small", "_law_sign", "_law_stem", "_law_k"]) (sc := defScope s_L_word) (by decide +kernel)) (fun _ _ _ _ _ => (pg_name (i := 5) sc_L_word.nd rfl (.inl rfl))) (fun _ _ _ _ _ => pts_nil) (fun _ _ _ _ _ => (pe_ix ix_str (pv 2) (pe_call (ok_L_take T) (hr.mono (by decide)) (by rfl) T.d_L_take.g T.d_L_take.fn.kp T.d_L_take.b .nil passL (pa_cons (pv 0) (pa_cons pe_int pa_nil))) (fun _ _ => rfl))))))
      (pss_one (ps_ret (pe_lst (pa_cons (pe_ix ix_list (pe_lst (pa_cons pe_str (pa_cons pe_str pa_nil))) (pe_callTy call_int1 (by rfl) T.b_int (by decide +kernel) (pa_cons (pe_cmpR op_in_seq (pv 4) (pe_call0 (ok_L_words T) (hr.mono (by decide)) (by rfl) T.d_L_words.g T.d_L_words.fn.kp T.d_L_words.b .nil passL) rfl) pa_nil)) (fun _ _ => rfl)) (pa_cons (pv 4) pa_nil))))))
        pss_nil)
      (pss_one (ps_ret (pe_lst (pa_cons pe_str (pa_cons (pe_ix ix_list (pe_lst (pa_cons pe_str (pa_cons pe_str (pa_cons pe_str (pa_cons pe_str (pa_cons pe_str (pa_cons pe_str (pa_cons pe_str (pa_cons pe_str (pa_cons pe_str (pa_cons pe_str (pa_cons pe_str pa_nil)))))))))))) (pe_call (ok_L_take T) (hr.mono (by decide)) (by rfl) T.d_L_take.g T.d_L_take.fn.kp T.d_L_take.b .nil passL (pa_cons (pv 0) (pa_cons pe_int pa_nil))) (fun _ _ => rfl)) pa_nil)))))))))))), ?_⟩
    have ptr : ∀ {H : Hp} {k : Nat}, PuOk H pu k → ∃ xs, H pu = some (.lst xs) := fun ⟨a, b, c, h, _⟩ => ⟨_, h⟩
    have fin : ∀ (H1 : Hp) (so x : Str) (p : Addr) (k : Nat), H1 p = none → But pu H H1 → PuOk H1 pu (n + k) → k ≤ 20 → TokOk so x → x.length ≤ 30 → Q (.ref p) (upd H1 p (.lst [.str so, .str x])) := fun H1 so x p k hp bt hk hk2 ht hx => by
      have hne : p ≠ pu := fun z => by
        obtain ⟨xs, h⟩ := ptr hk
        rw [z, h] at hp
        cases hp
      exact q p _ so x (bt.free hne hp) (bt.new hp) ((hk.same (same_new hp)).mono (by omega)) upd_same ht hx
    refine ⟨_, rfl, pu, 8, n, rfl, by decide, by decide, hpu, by omega, fun way H1 w0 w1 bt1 fr1 hpu1 => ?_⟩
    refine ⟨_, rfl, way, 3, rfl, rfl, _, rfl, ite2 (fun e1 => ?_) (fun e1 => ?_)⟩
    · -- a name or a word of ten
      refine ⟨szS (by simp), fun p1 hp1 => ?_⟩
      refine ⟨_, rfl, pu, 10, n + 1, rfl, by decide, by decide, hpu1.same (same_new hp1), by omega, fun r H2 r0 r1 bt2 fr2 hpu2 => ?_⟩
      have ne1 : p1 ≠ pu := fun z => by
        obtain ⟨xs, h⟩ := ptr hpu1
        rw [z, h] at hp1
        cases hp1
      obtain ⟨x, hx, hat⟩ := pick (L := L1) r0 (by exact r1)
      refine ⟨p1, _, r, _, rfl, rfl, .of (bt2 _ _ ne1 upd_same), hat, ?_⟩
      refine ⟨szS (by simp), fun p2 hp2 => ?_⟩
      refine ⟨_, rfl, rfl, fun p3 H3 hp3 s3 h3 => ?_⟩
      refine ⟨p3, _, rfl, .inl (.of h3), rfl, rfl, .inr ⟨_, rfl, ?_⟩⟩
      rw [show (if false = true then !inV (.str x) (WORDS.map V.str) else inV (.str x) (WORDS.map V.str)) = decide (x ∈ WORDS) from in_strs x WORDS]
      refine ⟨p2, _, _, _, rfl, rfl, .of (s3 _ _ upd_same), bool_ix _ _ _, _, rfl, szS (by simp), fun p hp => ?_⟩
      have ht := tok_nw (l1_ok x hx).1
      have eV : (if decide (x ∈ WORDS) = true then V.str "word" else V.str "name") = V.str (if x ∈ WORDS then "word" else "name") := by
        by_cases e : x ∈ WORDS
        · rw [if_pos e, if_pos (decide_eq_true e)]
        · rw [if_neg e, if_neg (fun z => e (of_decide_eq_true z))]
      rw [eV]
      exact fin H3 _ x p 2 hp ((bt1.new hp1).trans (bt2.trans (But.of ((same_new hp2).trans s3)))) (hpu2.same ((same_new hp2).trans s3)) (by omega) ht (l1_ok x hx).2
    refine ⟨_, rfl, rfl, _, rfl, ite2 (fun e2 => ?_) (fun e2 => ?_)⟩
    · -- a maker
      refine ⟨szS (by simp), fun p1 hp1 => ?_⟩
      refine ⟨_, rfl, pu, 6, n + 1, rfl, by decide, by decide, hpu1.same (same_new hp1), by omega, fun r H2 r0 r1 bt2 fr2 hpu2 => ?_⟩
      have ne1 : p1 ≠ pu := fun z => by
        obtain ⟨xs, h⟩ := ptr hpu1
        rw [z, h] at hp1
        cases hp1
      obtain ⟨x, hx, hat⟩ := pick (L := L2') r0 (by exact r1)
      refine ⟨p1, _, r, _, rfl, rfl, .of (bt2 _ _ ne1 upd_same), hat, szS (by simp), fun p hp => ?_⟩
      exact fin H2 _ x p 2 hp ((bt1.new hp1).trans bt2) hpu2 (by omega) (tok_mk (l2_ok x hx).1) (l2_ok x hx).2
    refine ⟨_, rfl, rfl, _, rfl, ite2 (fun e3 => ?_) (fun e3 => ?_)⟩
    · -- a number
      refine ⟨tl "0", 26, congrArg V.str (S_tl' _).symm, rfl, by decide +kernel, by decide, _, _, rfl, rfl, szS (by decide +kernel), szS (by simp), fun p1 hp1 => ?_⟩
      refine ⟨_, rfl, pu, 6, n + 1, rfl, by decide, by decide, hpu1.same (same_new hp1), by omega, fun r H2 r0 r1 bt2 fr2 hpu2 => ?_⟩
      have ne1 : p1 ≠ pu := fun z => by
        obtain ⟨xs, h⟩ := ptr hpu1
        rw [z, h] at hp1
        cases hp1
      obtain ⟨x, hx, hat⟩ := pick (L := L3) r0 (by exact r1)
      refine ⟨p1, _, r, _, rfl, rfl, .of (bt2 _ _ ne1 upd_same), hat, szS (by simp), fun p hp => ?_⟩
      exact fin H2 _ x p 2 hp ((bt1.new hp1).trans bt2) hpu2 (by omega) (tok_nu (l3_ok x hx).1) (l3_ok x hx).2
    refine ⟨_, rfl, rfl, _, rfl, ite2 (fun e4 => ?_) (fun e4 => ?_)⟩
    · -- a word
      refine ⟨rfl, fun p1 H1' hp1 s1 h1 => ?_⟩
      refine ⟨_, rfl, pu, 9, n + 1, rfl, by decide, by decide, hpu1.same s1, by omega, fun r H2 r0 r1 bt2 fr2 hpu2 => ?_⟩
      have ne1 : p1 ≠ pu := fun z => by
        obtain ⟨xs, h⟩ := ptr hpu1
        rw [z, h] at hp1
        cases hp1
      obtain ⟨x, hx, hat⟩ := pick (L := WORDS) r0 (by exact r1)
      refine ⟨p1, _, r, _, rfl, rfl, .of (bt2 _ _ ne1 h1), hat, _, rfl, szS (by simp), fun p hp => ?_⟩
      exact fin H2 _ x p 2 hp (bt1.trans ((But.of s1).trans bt2)) hpu2 (by omega) (.inr (.inl ⟨rfl, hx⟩)) (words_len x hx)
    refine ⟨_, rfl, rfl, _, rfl, ite2 (fun e5 => ?_) (fun e5 => ?_)⟩
    · -- a stem of letters
      refine ⟨⟨_, rfl⟩, _, rfl, pu, 8, n + 1, rfl, by decide, by decide, hpu1, by omega, fun r H2 r0 r1 bt2 fr2 hpu2 => ?_⟩
      obtain ⟨k, rfl⟩ := Int.eq_ofNat_of_zero_le r0
      refine ⟨_, _, rfl, rfl, 1 + (k : Int), rfl, by omega, by omega, fun D hD => ?_⟩
      have neD : D ≠ pu := fun z => by
        obtain ⟨xs, h⟩ := ptr hpu2
        rw [z, h] at hD
        cases hD
      refine lc_range (lo := 0) (n := (1 + (k : Int)).toNat) (fun i H' => ∃ ys : List Str, H' D = some (.lst (ys.map V.str)) ∧ ys.length = i ∧ (∀ y ∈ ys, ∃ c, tl y = [c] ∧ isSm c = true) ∧ But pu H2 H' ∧ PuOk H' pu (n + 2 + i))
        ⟨[], upd_same, rfl, (fun _ h => by cases h), (But.refl _ _).new hD, hpu2.same (same_new hD)⟩ (fun i H' hi hP => ?_) (fun H' hP => ?_)
      · obtain ⟨ys, hD', hyl, hya, bt', hpu'⟩ := hP
        refine ⟨rfl, _, rfl, _, rfl, pu, 26, n + 2 + i, rfl, by decide, by decide, hpu', by omega, fun r' H3 r0' r1' bt3 fr3 hpu3 => ?_⟩
        obtain ⟨m, rfl⟩ := Int.eq_ofNat_of_zero_le r0'
        have hm : m < 26 := by omega
        have hsl : (tl "abcdefghijklmnopqrstuvwxyz").length = 26 := by decide +kernel
        have hc : (tl "abcdefghijklmnopqrstuvwxyz")[m]? = some (97 + m) := by
          have e : tl "abcdefghijklmnopqrstuvwxyz" = List.range' 97 26 := by decide +kernel
          rw [e, List.getElem?_range' hm]
          simp
        refine ⟨_, _, 97 + m, rfl, rfl, szS (by decide +kernel), atI_nat hc, ys.map V.str, bt3 _ _ neD hD', szL (by rw [List.length_map]; omega), ys ++ [⟨#[97 + m]⟩], ?_, by simp [hyl], fun y hy => ?_, ?_, ?_⟩
        · rw [upd_same, List.map_append]
          rfl
        · rcases List.mem_append.mp hy with hy | hy
          · exact hya y hy
          · have e : y = ⟨#[97 + m]⟩ := by simpa using hy
            rw [e]
            exact ⟨97 + m, rfl, by unfold isSm; rw [decide_eq_true (by omega), decide_eq_true (by omega)]; rfl⟩
        · intro b o hb ho
          rw [upd_ne (ne_of_none ho hD)]
          exact (bt'.trans bt3) b o hb ho
        · have h3 := hpu3
          obtain ⟨a, b, c, g1, g2, g3, g4, g5⟩ := h3
          exact ⟨a, b, c, by rw [upd_ne neD.symm]; exact g1, g2, g3, g4, by omega⟩
      · obtain ⟨ys, hD', hyl, hya, bt', hpu'⟩ := hP
        have hfl : ∀ {ys : List Str}, (∀ y ∈ ys, ∃ c, tl y = [c] ∧ isSm c = true) → ((ys.map tl).flatten.all isSm = true ∧ (ys.map tl).flatten.length = ys.length ∧ (ys.map (·.length)).sum = ys.length) := by
          intro ys
          induction ys with
          | nil => intro _; exact ⟨rfl, rfl, rfl⟩
          | cons y ys ih =>
            intro h
            obtain ⟨c, e, hc⟩ := h y (List.mem_cons_self ..)
            obtain ⟨i1, i2, i3⟩ := ih fun z hz => h z (List.mem_cons_of_mem _ hz)
            refine ⟨?_, ?_, ?_⟩
            · rw [List.map_cons, List.flatten_cons, e, List.all_append, i1]
              simp [hc]
            · rw [List.map_cons, List.flatten_cons, e, List.length_append, i2]
              simp [Nat.add_comm]
            · rw [List.map_cons, List.sum_cons, i3, ← tl_len, e]
              simp [Nat.add_comm]
        obtain ⟨f1, f2, f3⟩ := hfl hya
        have hk : ys.length = k + 1 := by rw [hyl]; omega
        refine ⟨_, D, ys, rfl, rfl, .inl (.of hD'), ?_, ?_⟩
        · rw [f3, hk]
          have : (Str.ofString "").length = 0 := by decide +kernel
          rw [this]
          omega
        · rw [join_one]
          have hsm : smB (S (ys.map tl).flatten) = true := by
            unfold smB
            rw [tl_S, f1, f2, hk, decide_eq_true (by omega), decide_eq_true (by omega)]
            rfl
          have ht := tok_nw hsm
          refine ⟨szS (by simp), fun p2 hp2 => ?_⟩
          refine ⟨_, rfl, rfl, fun p3 H3 hp3 s3 h3 => ?_⟩
          refine ⟨p3, _, rfl, .inl (.of h3), rfl, rfl, .inr ⟨_, rfl, ?_⟩⟩
          rw [show (if false = true then !inV (.str (S (ys.map tl).flatten)) (WORDS.map V.str) else inV (.str (S (ys.map tl).flatten)) (WORDS.map V.str)) = decide (S (ys.map tl).flatten ∈ WORDS) from in_strs _ WORDS]
          refine ⟨p2, _, _, _, rfl, rfl, .of (s3 _ _ upd_same), bool_ix _ _ _, _, rfl, szS (by simp), fun p hp => ?_⟩
          have eV : (if decide (S (ys.map tl).flatten ∈ WORDS) = true then V.str "word" else V.str "name") = V.str (if S (ys.map tl).flatten ∈ WORDS then "word" else "name") := by
            by_cases e : S (ys.map tl).flatten ∈ WORDS
            · rw [if_pos e, if_pos (decide_eq_true e)]
            · rw [if_neg e, if_neg (fun z => e (of_decide_eq_true z))]
          rw [eV]
          refine fin H3 _ _ p (2 + (1 + (k : Int)).toNat) hp (bt1.trans (bt2.trans (bt'.trans (But.of ((same_new hp2).trans s3))))) ((hpu'.mono (by omega)).same ((same_new hp2).trans s3)) (by omega) ht ?_
          rw [← tl_len, tl_S, f2]
          omega
    -- a sign
    refine ⟨szS (by simp), fun p1 hp1 => ?_⟩
    refine ⟨_, rfl, pu, 11, n + 1, rfl, by decide, by decide, hpu1.same (same_new hp1), by omega, fun r H2 r0 r1 bt2 fr2 hpu2 => ?_⟩
    have ne1 : p1 ≠ pu := fun z => by
      obtain ⟨xs, h⟩ := ptr hpu1
      rw [z, h] at hp1
      cases hp1
    obtain ⟨x, hx, hat⟩ := pick (L := SIGNS) r0 (by exact r1)
    refine ⟨p1, _, r, _, rfl, rfl, .of (bt2 _ _ ne1 upd_same), hat, szS (by simp), fun p hp => ?_⟩
    exact fin H2 _ x p 2 hp ((bt1.new hp1).trans bt2) hpu2 (by omega) (.inr (.inr (.inr (.inr ⟨rfl, hx⟩)))) (signs_len x hx)
end
end Sw
set_option Elab.async false
set_option pp.maxSteps 600
set_option pp.deepTerms false
set_option linter.all false
set_option maxRecDepth 100000
set_option maxHeartbeats 4000000
namespace Sw
open PySem PySem.Spec PyProof.Rows L2 SX
/-! ### a drawn row -/
/-- a list [(row, column), sort, word] -/
def TkL (H : Hp) (v : V) (t : Tk) : Prop := ∃ a b, v = .ref a ∧ H a = some (.lst [.ref b, .str t.sort, .str t.word]) ∧ H b = some (.tup [.int (t.row : Int), .int (t.col : Int)])
theorem TkL.same {H H' : Hp} {v : V} {t : Tk} (h : TkL H v t) (e : Same H H') : TkL H' v t := by
  obtain ⟨a, b, h1, h2, h3⟩ := h
  exact ⟨a, b, h1, e _ _ h2, e _ _ h3⟩
/-- an address at which no lexeme's parts stand -/
def NoTk (H : Hp) (f : Addr) : Prop := (∀ b x y, H f ≠ some (.lst [.ref b, .str x, .str y])) ∧ ∀ x y, H f ≠ some (.tup [.int x, .int y])
theorem TkL.but {H H' : Hp} {v : V} {t : Tk} {f : Addr} (h : TkL H v t) (e : But f H H') (hf : NoTk H f) : TkL H' v t := by
  obtain ⟨a, b, h1, h2, h3⟩ := h
  exact ⟨a, b, h1, e _ _ (fun z => hf.1 _ _ _ (z ▸ h2)) h2, e _ _ (fun z => hf.2 _ _ (z ▸ h3)) h3⟩
theorem pl_same {H H' : Hp} {us : List V} {ts : List Tk} (h : Paired (TkL H) us ts) (e : Same H H') : Paired (TkL H') us ts := h.mono fun _ _ q => q.same e
theorem pl_but {H H' : Hp} {us : List V} {ts : List Tk} {f : Addr} (h : Paired (TkL H) us ts) (e : But f H H') (hf : NoTk H f) : Paired (TkL H') us ts := h.mono fun _ _ q => q.but e hf
theorem PuOk.noTk {H : Hp} {pu : Addr} {n : Nat} (h : PuOk H pu n) : NoTk H pu := by
  obtain ⟨a, b, c, h1, _⟩ := h
  refine ⟨fun b x y z => ?_, fun x y z => ?_⟩
  · rw [h1] at z
    cases z
  · rw [h1] at z
    cases z
/-- a list of such objects is none itself -/
theorem noTk_refs {H : Hp} {f : Addr} {us : List V} (h : H f = some (.lst us)) (hu : ∀ v ∈ us, ∃ a, v = .ref a) : NoTk H f := by
  refine ⟨fun b x y z => ?_, fun x y z => ?_⟩
  · rw [h] at z
    have e : us = [.ref b, .str x, .str y] := by injection (Option.some.inj z)
    obtain ⟨a, e2⟩ := hu (.str x) (by rw [e]; simp)
    cases e2
  · rw [h] at z
    cases z
theorem pl_refs {H : Hp} : ∀ {us : List V} {ts : List Tk}, Paired (TkL H) us ts → ∀ v ∈ us, ∃ a, v = .ref a
  | _, _, .nil, v, h => by cases h
  | _, _, .cons ⟨a, b, e, _⟩ t, v, h => by
    rcases List.mem_cons.mp h with rfl | h
    · exact ⟨a, e⟩
    · exact pl_refs t v h
def okOf : Option (Str × Str) → List Nat → Prop
  | none => fun _ => True
  | some (ls, lw) => Sep ls lw
theorem okOf_blank (o : Option (Str × Str)) (r : List Nat) : okOf o (32 :: r) := by
  cases o with
  | none => exact True.intro
  | some p => exact Sep.blank p.1 p.2 r
theorem okOf_nil (o : Option (Str × Str)) : okOf o [] := by
  cases o with
  | none => exact True.intro
  | some p => exact Sep.nil p.1 p.2
theorem okOf_touch {o : Option (Str × Str)} {w : Str} (h : TouchOk o w) (r : List Nat) : okOf o (tl w ++ r) := by
  cases o with
  | none => exact True.intro
  | some p => exact h r
theorem tok_lt {so w : Str} (h : TokOk so w) : ∀ c ∈ tl w, c < 128 := by
  rcases h with ⟨rfl, h1, h2, h3, h4⟩ | ⟨rfl, h1⟩ | ⟨rfl, c, r, e, h1, h2, h3⟩ | ⟨rfl, h1⟩ | ⟨rfl, h1⟩
  · exact all_lt sm_lt h1
  · exact all_lt sm_lt (words_sm w h1).1
  · intro d hd
    rw [e] at hd
    rcases List.mem_cons.mp hd with rfl | hd
    · have := gr_rng h1
      omega
    · exact all_lt sm_lt h2 d hd
  · intro d hd
    rcases h1 with e | ⟨c, r, e, h1, _, h3⟩
    · rw [e] at hd
      rcases List.mem_cons.mp hd with rfl | hd
      · decide
      · cases hd
    · rw [e] at hd
      rcases List.mem_cons.mp hd with rfl | hd
      · exact fi_lt _ h1
      · exact all_lt fi_lt h3 d hd
  · exact signs_lt w h1
theorem tok_sort {so w : Str} (h : TokOk so w) : PyData.strOk so = true ∧ so ≠ "none" := by
  rcases h with ⟨rfl, _⟩ | ⟨rfl, _⟩ | ⟨rfl, _⟩ | ⟨rfl, _⟩ | ⟨rfl, _⟩ <;> exact ⟨by decide +kernel, by decide +kernel⟩
theorem mul_blk (n : Nat) : tl (S (List.replicate n (tl " ")).flatten) = List.replicate n 32 := by
  have e : tl " " = [32] := by decide +kernel
  rw [tl_S, e]
  induction n with
  | zero => rfl
  | succ n ih => rw [List.replicate_succ, List.flatten_cons, ih, List.replicate_succ]; rfl
theorem sp_S : (Str.ofString " ") = S (tl " ") := (S_tl' _).symm
theorem sp_len : (tl " ").length = 1 := by decide +kernel
theorem rep_lt (n : Nat) : ∀ c ∈ List.replicate n 32, c < 128 := fun c h => by
  rw [(List.mem_replicate.mp h).2]
  decide
def L4 : List Str := ["let x", "-", "", "A9 ?"]
theorem l4_ok : ∀ w ∈ L4, (tl w).length ≤ 10 ∧ ∀ c ∈ tl w, c < 128 := by decide +kernel
/-- all that the list comparisons ask of lexemes -/
def TsOk (ts : List Tk) : Prop := ∀ t ∈ ts, PyData.strOk t.sort = true ∧ PyData.strOk t.word = true
section
variable {P : Program} {w : World} {K : PySem.W.Frag} {mg : Str → Option Value} {base : Heap}
def spRow : Sp := fun vs H Q _ => ∃ (pu : Addr) (num steps n : Nat), vs = [.ref pu, .int (num : Int), .int (steps : Int)] ∧ steps ≤ 10 ∧ PuOk H pu n ∧ n ≤ 100000 ∧
  ∀ p fo H' line ts us, H p = none → H fo = none → But pu H H' → PuOk H' pu (n + 1000) → H' p = some (.lst [.str line, .ref fo]) → H' fo = some (.lst us) → Paired (TkL H') us ts → LexR num 0 (tl line) none ts → (tl line).length ≤ 200 → (∀ c ∈ tl line, c < 128) → TsOk ts → us.length ≤ 10 → Q (.ref p) H'
theorem pu_ne {H : Hp} {pu p : Addr} {n : Nat} (h : PuOk H pu n) (hp : H p = none) : p ≠ pu := fun z => by
  obtain ⟨a, b, c, h1, _⟩ := h
  rw [z, h1] at hp
  cases hp
theorem ok_L_row (T : Txt K mg) : FnOk P w K mg base (L2.CX P w) 4 (He.ga K "_law_row") (fdAt K (He.ga K "_law_row")) ["_law_purse_here", "_law_number", "_law_steps"] spRow := by
  refine T.d_L_row.fn.ok sc_L_row (fun vs H Q E h => ?_) (fun cdv A outer s H vs Q E hr h => ?_)
  · obtain ⟨_, _, _, _, rfl, _⟩ := h
    rfl
  · obtain ⟨pu, num, steps, n, rfl, hst, hpu, hn, q⟩ := h
    refine ⟨_, PSs.nox (pss_cons (ps_set (i := 3) sc_L_row.nd rfl (.inl rfl) (pe_op op_mulS pe_str (pe_call (ok_L_take T) (hr.mono (by decide)) (by rfl) T.d_L_take.g T.d_L_take.fn.kp T.d_L_take.b .nil passL (pa_cons (pv 0) (pa_cons pe_int pa_nil)))))
      (pss_cons (ps_set (i := 4) sc_L_row.nd rfl (.inl rfl) (pe_lst pa_nil))
      (pss_cons (ps_set (i := 5) sc_L_row.nd rfl (.inl rfl) pe_non)
      (pss_cons (ps_for PassesOwn.never rfl (pi_range1 (by rfl) T.b_range (pa_cons (pv 2) pa_nil)) (pg_name (i := 6) sc_L_row.nd rfl (.inl rfl))
        (pss_cons (ps_asg (pe_call (ok_L_word T) (hr.mono (by decide)) (by rfl) T.d_L_word.g T.d_L_word.fn.kp T.d_L_word.b .nil passL (pa_cons (pv 0) pa_nil)) (pg_lst rfl (pgs_cons (pg_name (i := 7) sc_L_row.nd rfl (.inl rfl)) (pgs_cons (pg_name (i := 8) sc_L_row.nd rfl (.inl rfl)) pgs_nil))))
      (pss_one (ps_if (pt_cmpR op_lt (pe_callB call_len_str (by rfl) T.b_len PySem.boot_len (pa_cons (pv 3) pa_nil)) pe_int (nomark _))
        (C8.pss_cut (ps_if (pw_or (pt_cmpR op_gt (pe_call (ok_L_take T) (hr.mono (by decide)) (by rfl) T.d_L_take.g T.d_L_take.fn.kp T.d_L_take.b .nil passL (pa_cons (pv 0) (pa_cons pe_int pa_nil))) pe_int (nomark _)) (pw_or1 (pt_not (pt_val (pe_call (ok_L_touches T) (hr.mono (by decide)) (by rfl) T.d_L_touches.g T.d_L_touches.fn.kp T.d_L_touches.b .nil passL (pa_cons (pv 7) (pa_cons (pv 8) (pa_cons (pv 5) pa_nil)))))))).pt
        (pss_one (ps_set (i := 3) sc_L_row.nd rfl (.inl rfl) (pe_op op_add_str (pv 3) (pe_op op_mulS pe_str (pe_op op_add pe_int (pe_call (ok_L_take T) (hr.mono (by decide)) (by rfl) T.d_L_take.g T.d_L_take.fn.kp T.d_L_take.b .nil passL (pa_cons (pv 0) (pa_cons pe_int pa_nil))))))))
        pss_nil)
      (pss_cons (ps_expr (pe_bm PySem.F.plainAttrs_list PySem.F.slot_list_append PySem.F.type_list_append mt_append (pv 4) (pa_cons (pe_lst (pa_cons (pe_tup (pa_cons (pv 1) (pa_cons (pe_op op_add (pe_callB call_len_str (by rfl) T.b_len PySem.boot_len (pa_cons (pv 3) pa_nil)) pe_int) pa_nil))) (pa_cons (pv 7) (pa_cons (pv 8) pa_nil)))) pa_nil)))
      (pss_cons (ps_set (i := 3) sc_L_row.nd rfl (.inl rfl) (pe_op op_add_str (pv 3) (pv 8)))
      (pss_one (ps_set (i := 5) sc_L_row.nd rfl (.inl rfl) (pe_lst (pa_cons (pv 7) (pa_cons (pv 8) pa_nil))))))))
        pss_nil))))
      (pss_cons (ps_set (i := 3) sc_L_row.nd rfl (.inl rfl) (pe_op op_add_str (pv 3) (pe_op op_mulS pe_str (pe_call (ok_L_take T) (hr.mono (by decide)) (by rfl) T.d_L_take.g T.d_L_take.fn.kp T.d_L_take.b .nil passL (pa_cons (pv 0) (pa_cons pe_int pa_nil))))))
      (C8.pss_cut (ps_if (pt_cmpR op_eq (pe_call (ok_L_take T) (hr.mono (by decide)) (by rfl) T.d_L_take.g T.d_L_take.fn.kp T.d_L_take.b .nil passL (pa_cons (pv 0) (pa_cons pe_int pa_nil))) pe_int (nomark _))
        (pss_one (ps_set (i := 3) sc_L_row.nd rfl (.inl rfl) (pe_op op_add_str (pe_op op_add_str (pv 3) pe_str) (pe_ix ix_list (pe_lst (pa_cons pe_str (pa_cons pe_str (pa_cons pe_str (pa_cons pe_str pa_nil))))) (pe_call (ok_L_take T) (hr.mono (by decide)) (by rfl) T.d_L_take.g T.d_L_take.fn.kp T.d_L_take.b .nil passL (pa_cons (pv 0) (pa_cons pe_int pa_nil))) (fun _ _ => rfl)))))
        pss_nil)
      (pss_one (ps_ret (pe_lst (pa_cons (pv 3) (pa_cons (pv 4) pa_nil))))))))))), ?_⟩
    -- blanks ahead
    refine ⟨_, rfl, pu, 9, n, rfl, by decide, by decide, hpu, by omega, fun r H1 r0 r1 bt1 fr1 hpu1 => ?_⟩
    obtain ⟨k, rfl⟩ := Int.eq_ofNat_of_zero_le r0
    refine ⟨tl " ", k, congrArg V.str sp_S, rfl, by rw [sp_len]; omega, by omega, ?_⟩
    refine ⟨szS (by simp), fun fo hfo => ?_⟩
    have nefo := pu_ne hpu1 hfo
    refine ⟨_, rfl, steps, rfl, by omega, by omega, ?_⟩
    refine for_range (lo := 0) (n := (steps : Int).toNat) (fun i σ H' => ∃ (line : Str) (ts : List Tk) (us : List V) (last : Option (Str × Str)) (lv : V) (y6 y7 y8 : Option V),
        σ = [some (.ref pu), some (.int (num : Int)), some (.int (steps : Int)), some (.str line), some (.ref fo), some lv, y6, y7, y8] ∧ But pu H H' ∧ PuOk H' pu (n + 1 + 40 * i) ∧ H' fo = some (.lst us) ∧ Paired (TkL H') us ts ∧
        RowI num (tl line) ts (okOf last) ∧ lastV H' last lv ∧ (∀ ls lw, last = some (ls, lw) → lw.length ≤ 30) ∧ (tl line).length ≤ 100 ∧ (∀ c ∈ tl line, c < 128) ∧ TsOk ts ∧ us.length ≤ i)
      ?_ ?_ ?_
    · refine ⟨_, [], [], none, .non, none, none, none, rfl, bt1.new hfo, hpu1.same (same_new hfo), upd_same, .nil, ?_, rfl, (fun _ _ h => by cases h), ?_, ?_, (fun _ h => by cases h), Nat.zero_le _⟩
      · rw [mul_blk]
        exact RowI.start num k
      · rw [mul_blk, List.length_replicate]
        omega
      · rw [mul_blk]
        exact rep_lt k
    · rintro i σ H' hi ⟨line, ts, us, last, lv, y6, y7, y8, rfl, bt, hp, hf, hpl, hrow, hlv, hlw, hll, hlt, hts, hus⟩
      -- sort, word
      refine ⟨_, rfl, pu, n + 1 + 40 * i, rfl, hp, by omega, fun pw H2 so w hpw bt2 hp2 hw2 htok hwl => ?_⟩
      refine ⟨pw, _, rfl, .of hw2, rfl, _, _, rfl, _, _, rfl, rfl, ?_⟩
      have hpl2 := pl_but hpl bt2 hp.noTk
      have hf2 : H2 fo = some (.lst us) := bt2 _ _ nefo hf
      have hlv2 : lastV H2 last lv := by
        cases last with
        | none => exact hlv
        | some p =>
          obtain ⟨l, e1, e2, e3⟩ := hlv
          refine ⟨l, e1, bt2 _ _ (fun z => ?_) e2, e3⟩
          obtain ⟨a, b, c, h1, _⟩ := hp
          rw [z, h1] at e2
          cases e2
      have hll' : line.length ≤ 100 := by rw [← tl_len]; exact hll
      refine ⟨_, rfl, line, rfl, szS (by omega), _, _, rfl, rfl, _, rfl, ite2 (fun e1 => ?_) (fun e1 => ?_)⟩
      · have e1' := of_decide_eq_true e1
        have hl55 : (tl line).length < 55 := by rw [tl_len]; omega
        -- a blank or none
        refine ⟨fun σ' H' => ∃ (line' : Str) (ok : List Nat → Prop), σ' = [some (.ref pu), some (.int (num : Int)), some (.int (steps : Int)), some (.str line'), some (.ref fo), some lv, some (.int ((0 : Int) + (i : Nat))), some (.str so), some (.str w)] ∧ But pu H H' ∧ PuOk H' pu (n + 1 + 40 * i + 25) ∧ H' fo = some (.lst us) ∧ Paired (TkL H') us ts ∧
            RowI num (tl line') ts ok ∧ (∀ r, ok (tl w ++ r)) ∧ (tl line').length ≤ 58 ∧ (∀ c ∈ tl line', c < 128), ?_, ?_⟩
        · refine ⟨_, rfl, pu, 3, n + 1 + 40 * i + 20, rfl, by decide, by decide, hp2, by omega, fun r3 H3 r30 r31 bt3 fr3 hp3 => ?_⟩
          have hf3 := bt3 _ _ nefo hf2
          have hpl3 := pl_but hpl2 bt3 hp2.noTk
          have hlv3 : lastV H3 last lv := by
            cases last with
            | none => exact hlv2
            | some p =>
              obtain ⟨l, e1, e2, e3⟩ := hlv2
              refine ⟨l, e1, bt3 _ _ (fun z => ?_) e2, e3⟩
              obtain ⟨a, b, c, h1, _⟩ := hp2
              rw [z, h1] at e2
              cases e2
          -- the blanks
          have put : ∀ H4, Same H3 H4 → tAsg (tOp (fun x y H Q => ∃ i j, x = V.str i ∧ y = V.str j ∧ i.length + j.length ≤ sizeLine ∧ Q (.str (i ++ j)) H) (tVar 3) (tOp rMulS (tC (.str " ")) (tOp (rI0 fun i j => V.int (i + j)) (tC (.int 1)) (tCall spTake [] E0 (tCons (tVar 0) (tCons (tC (.int 3)) tNil)))))) (gName 3)
              { nx := fun σ' H' => ∃ (line' : Str) (ok : List Nat → Prop), σ' = [some (.ref pu), some (.int (num : Int)), some (.int (steps : Int)), some (.str line'), some (.ref fo), some lv, some (.int ((0 : Int) + (i : Nat))), some (.str so), some (.str w)] ∧ But pu H H' ∧ PuOk H' pu (n + 1 + 40 * i + 25) ∧ H' fo = some (.lst us) ∧ Paired (TkL H') us ts ∧
                RowI num (tl line') ts ok ∧ (∀ r, ok (tl w ++ r)) ∧ (tl line').length ≤ 58 ∧ (∀ c ∈ tl line', c < 128), rt := Q, bk := fun _ _ => False, ct := fun _ _ => False }
              [some (.ref pu), some (.int (num : Int)), some (.int (steps : Int)), some (.str line), some (.ref fo), some lv, some (.int ((0 : Int) + (i : Nat))), some (.str so), some (.str w)] H4 := fun H4 s4 => by
            refine ⟨_, rfl, _, rfl, pu, 3, n + 1 + 40 * i + 21, rfl, by decide, by decide, hp3.same s4, by omega, fun r5 H5 r50 r51 bt5 fr5 hp5 => ?_⟩
            obtain ⟨m, rfl⟩ := Int.eq_ofNat_of_zero_le r50
            refine ⟨_, _, rfl, rfl, tl " ", m + 1, congrArg V.str sp_S, by show V.int (1 + (m : Int)) = _; rw [show (1 + (m : Int)) = ((m + 1 : Nat) : Int) by omega], by rw [sp_len]; omega, by omega, ?_⟩
            have hml : (S (List.replicate (m + 1) (tl " ")).flatten).length = m + 1 := by rw [← tl_len, mul_blk, List.length_replicate]
            refine ⟨line, _, rfl, rfl, szS (by rw [hml]; omega), _, fun _ => True, rfl, (bt.trans (bt2.trans bt3)).trans ((But.of s4).trans bt5), hp5.mono (by omega), bt5 _ _ nefo (s4 _ _ hf3), pl_but (pl_same hpl3 s4) bt5 (hp3.same s4).noTk, ?_, fun _ => True.intro, ?_, ?_⟩
            · rw [tl_app, mul_blk]
              exact hrow.blanks m (okOf_blank last)
            · rw [tl_app, mul_blk, List.length_append, List.length_replicate]
              omega
            · rw [tl_app, mul_blk]
              intro c hc
              rcases List.mem_append.mp hc with hc | hc
              · exact hlt c hc
              · exact rep_lt _ c hc
          refine ⟨_, _, rfl, rfl, _, rfl, ite2 (fun e3 => iteT (put H3 (Same.refl H3))) (fun e3 => ?_)⟩
          refine ⟨_, rfl, _, rfl, _, rfl, so, w, lv, last, rfl, hlv3, htok, by omega, (fun ls lw e => by have := hlw ls lw e; omega), fun b H4 s4 hb => ?_⟩
          refine ⟨_, rfl, ?_⟩
          cases b with
          | false => exact iteT (put H4 s4)
          | true => exact iteF ⟨line, okOf last, rfl, (bt.trans (bt2.trans bt3)).trans (But.of s4), (hp3.same s4).mono (by omega), s4 _ _ hf3, pl_same hpl3 s4, hrow, okOf_touch (hb rfl), by omega, hlt⟩
        · -- the lexeme
          rintro σ' H3 ⟨line', ok, rfl, bt3, hp3, hf3, hpl3, hrow3, hok3, hl3, hlt3⟩
          have hl3' : line'.length ≤ 58 := by rw [← tl_len]; exact hl3
          refine ⟨_, rfl, .inl ⟨rfl, _, .of hf3⟩, _, rfl, _, rfl, line', rfl, szS (by omega), _, _, rfl, rfl, szS (by simp), fun b hb => ?_⟩
          refine ⟨_, rfl, _, rfl, szS (by simp), fun a ha => ?_⟩
          have sb := same_new (o := HO.tup [V.int (num : Int), V.int ((line'.length : Int) + 1)]) hb
          have sa := same_new (o := HO.lst [V.ref b, V.str so, V.str w]) ha
          have hf5 := sa _ _ (sb _ _ hf3)
          have nba : b ≠ a := fun z => by rw [← z, upd_same] at ha; cases ha
          have nfb : fo ≠ b := ne_of_none hf3 hb
          have nfa : fo ≠ a := ne_of_none (sb _ _ hf3) ha
          have hp5 := hp3.same (sb.trans sa)
          have hpl5 := pl_same hpl3 (sb.trans sa)
          refine ⟨fo, us, .ref a, rfl, rfl, hf5, szL (by omega), ?_⟩
          refine ⟨_, rfl, _, rfl, line', w, rfl, rfl, szS (by omega), ?_⟩
          refine ⟨_, rfl, _, rfl, szS (by simp), fun ll hll2 => ?_⟩
          have hfo5 : NoTk (upd (upd H3 b (.tup [V.int (num : Int), V.int ((line'.length : Int) + 1)])) a (.lst [V.ref b, V.str so, V.str w])) fo := noTk_refs hf5 (pl_refs hpl5)
          have nll : ll ≠ fo := fun z => by rw [z, upd_same] at hll2; cases hll2
          refine ⟨line' ++ w, ts ++ [⟨num, (tl line').length + 1, so, w⟩], us ++ [.ref a], some (so, w), .ref ll, _, _, _, rfl, ?_, ?_, ?_, ?_, ?_, ⟨ll, rfl, upd_same, htok⟩, ?_, ?_, ?_, ?_, ?_⟩
          · -- tracked things stay
            intro x o hx ho
            have h1 := (sb.trans sa) _ _ (bt3 x o hx ho)
            have h2 : x ≠ fo := ne_of_none (bt1 x o hx ho) hfo
            have h3 : upd (upd (upd H3 b (.tup [V.int (num : Int), V.int ((line'.length : Int) + 1)])) a (.lst [V.ref b, V.str so, V.str w])) fo (.lst (us ++ [V.ref a])) x = some o := by rw [upd_ne h2]; exact h1
            exact (same_new hll2) _ _ h3
          · have h1 : PuOk (upd (upd (upd H3 b (.tup [V.int (num : Int), V.int ((line'.length : Int) + 1)])) a (.lst [V.ref b, V.str so, V.str w])) fo (.lst (us ++ [V.ref a]))) pu (n + 1 + 40 * i + 25) := hp5.but (But.upd (But.refl fo _)) nefo.symm
            exact (h1.same (same_new hll2)).mono (by omega)
          · exact (same_new hll2) _ _ upd_same
          · refine pl_same (Paired.snoc (pl_but hpl5 (But.upd (But.refl _ _)) hfo5) ⟨a, b, rfl, ?_, ?_⟩) (same_new hll2)
            · rw [upd_ne nfa.symm, upd_same]
            · rw [upd_ne nfb.symm, upd_ne nba, upd_same, tl_len]
              rfl
          · rw [tl_app]
            exact hrow3.tok htok hok3 (tok_sort htok).2
          · intro ls lw e
            cases e
            exact hwl
          · rw [tl_app, List.length_append, tl_len w]
            omega
          · rw [tl_app]
            intro c hc
            rcases List.mem_append.mp hc with hc | hc
            · exact hlt3 c hc
            · exact tok_lt htok c hc
          · intro t ht
            rcases List.mem_append.mp ht with ht | ht
            · exact hts t ht
            · have e : t = ⟨num, (tl line').length + 1, so, w⟩ := by simpa using ht
              rw [e]
              exact ⟨(tok_sort htok).1, tok_ok htok⟩
          · rw [List.length_append]
            simp
            exact hus
      · exact ⟨line, ts, us, last, lv, _, _, _, rfl, bt.trans bt2, hp2.mono (by omega), hf2, hpl2, hrow, hlv2, hlw, hll, hlt, hts, by omega⟩
    · rintro σ H' ⟨line, ts, us, last, lv, y6, y7, y8, rfl, bt, hp, hf, hpl, hrow, hlv, hlw, hll, hlt, hts, hus⟩
      have hst2 : (steps : Int).toNat = steps := by omega
      rw [hst2] at hp hus
      have hll' : line.length ≤ 100 := by rw [← tl_len]; exact hll
      -- blanks behind
      refine ⟨_, rfl, _, rfl, pu, 3, n + 1 + 40 * steps, rfl, by decide, by decide, hp, by omega, fun r2 H2 r20 r21 bt2 fr2 hp2 => ?_⟩
      obtain ⟨m, rfl⟩ := Int.eq_ofNat_of_zero_le r20
      refine ⟨tl " ", m, congrArg V.str sp_S, rfl, by rw [sp_len]; omega, by omega, ?_⟩
      have hml : (S (List.replicate m (tl " ")).flatten).length = m := by rw [← tl_len, mul_blk, List.length_replicate]
      refine ⟨line, _, rfl, rfl, szS (by rw [hml]; omega), ?_⟩
      have hf2 := bt2 _ _ nefo hf
      have hpl2 := pl_but hpl bt2 hp.noTk
      obtain ⟨ok, hrow2, hok2, hok0⟩ : ∃ ok, RowI num (tl (line ++ S (List.replicate m (tl " ")).flatten)) ts ok ∧ (∀ r, ok (32 :: r)) ∧ ok [] := by
        rw [tl_app, mul_blk]
        cases m with
        | zero => exact ⟨okOf last, by simpa using hrow, okOf_blank last, okOf_nil last⟩
        | succ m => exact ⟨_, hrow.blanks m (okOf_blank last), fun _ => True.intro, True.intro⟩
      have hl2 : (tl (line ++ S (List.replicate m (tl " ")).flatten)).length ≤ 103 := by
        rw [tl_app, mul_blk, List.length_append, List.length_replicate]
        omega
      have hlt2 : ∀ c ∈ tl (line ++ S (List.replicate m (tl " ")).flatten), c < 128 := by
        rw [tl_app, mul_blk]
        intro c hc
        rcases List.mem_append.mp hc with hc | hc
        · exact hlt c hc
        · exact rep_lt _ c hc
      generalize line ++ S (List.replicate m (tl " ")).flatten = line2 at hrow2 hl2 hlt2 ⊢
      -- a remark
      refine ⟨fun σ' H' => ∃ line' : Str, σ'[3]? = some (some (.str line')) ∧ σ'[4]? = some (some (.ref fo)) ∧ But pu H H' ∧ PuOk H' pu (n + 1000) ∧ H' fo = some (.lst us) ∧ Paired (TkL H') us ts ∧ LexR num 0 (tl line') none ts ∧ (tl line').length ≤ 200 ∧ ∀ c ∈ tl line', c < 128, ?_, ?_⟩
      · refine ⟨_, rfl, pu, 4, n + 1 + 40 * steps + 1, rfl, by decide, by decide, hp2, by omega, fun r3 H3 r30 r31 bt3 fr3 hp3 => ?_⟩
        have hf3 := bt3 _ _ nefo hf2
        have hpl3 := pl_but hpl2 bt3 hp2.noTk
        refine ⟨rfl, _, rfl, ite2 (fun e3 => ?_) (fun e3 => ?_)⟩
        · have hl2' : line2.length ≤ 103 := by rw [← tl_len]; exact hl2
          have e4 : (Str.ofString " -- ").length = 4 := by decide +kernel
          refine ⟨_, rfl, line2, _, rfl, rfl, szS (by rw [e4]; omega), szS (by simp), fun p4 hp4 => ?_⟩
          refine ⟨_, rfl, pu, 4, n + 1 + 40 * steps + 2, rfl, by decide, by decide, hp3.same (same_new hp4), by omega, fun r5 H5 r50 r51 bt5 fr5 hp5 => ?_⟩
          obtain ⟨x, hx, hat⟩ := pick (L := L4) r50 (by exact r51)
          obtain ⟨hx1, hx2⟩ := l4_ok x hx
          have hx1' : x.length ≤ 10 := by rw [← tl_len]; exact hx1
          have ne4 := pu_ne hp3 hp4
          have hlb : (line2 ++ (Str.ofString " -- ")).length ≤ 107 := by
            rw [← tl_len, tl_app, List.length_append, tl_len (Str.ofString " -- "), e4]
            omega
          refine ⟨p4, _, _, _, rfl, rfl, .of (bt5 _ _ ne4 upd_same), hat, _, x, rfl, rfl, szS (by omega), ?_⟩
          have tl4 : tl " -- " = [32, 45, 45, 32] := by decide +kernel
          refine ⟨_, rfl, rfl, (bt.trans (bt2.trans bt3)).trans ((But.of (same_new hp4)).trans bt5), hp5.mono (by omega), bt5 _ _ nefo ((same_new hp4) _ _ hf3), pl_but (pl_same hpl3 (same_new hp4)) bt5 (hp3.same (same_new hp4)).noTk, ?_, ?_, ?_⟩
          · rw [tl_app, tl_app, tl4, List.append_assoc]
            exact hrow2.remark hok2 _
          · rw [tl_app, List.length_append, tl_len (line2 ++ _)]
            omega
          · rw [tl_app, tl_app, tl4]
            intro c hc
            rcases List.mem_append.mp hc with hc | hc
            · rcases List.mem_append.mp hc with hc | hc
              · exact hlt2 c hc
              · have h4 : ∀ c ∈ [32, 45, 45, 32], c < 128 := by decide
                exact h4 c hc
            · exact hx2 c hc
        · exact ⟨line2, rfl, rfl, bt.trans (bt2.trans bt3), hp3.mono (by omega), hf3, hpl3, hrow2.done hok0, by omega, hlt2⟩
      · rintro σ' H5 ⟨line', h3, h4, bt5, hp5, hf5, hpl5, hlex, hl5, hlt5⟩
        refine ⟨_, h3, _, h4, szS (by simp), fun p hpn => ?_⟩
        have hpp : p ≠ pu := pu_ne hp5 hpn
        refine q p fo _ line' ts us (bt5.free hpp hpn) (bt1.free nefo hfo) (bt5.new hpn) (hp5.same (same_new hpn)) upd_same ((same_new hpn) _ _ hf5) (pl_same hpl5 (same_new hpn)) hlex hl5 hlt5 hts (by omega)
end
theorem LexT.snoc : ∀ {n : Nat} {rows : List Str} {ts t : List Tk} {r : Str}, LexT n rows ts → LexR (n + rows.length) 0 (tl r) none t → LexT n (rows ++ [r]) (ts ++ t)
  | n, [], _, t, r, .nil, h => by
    have e := LexT.cons (n := n) (r := r) (rs := []) h .nil
    rw [List.append_nil] at e
    exact e
  | n, x :: rows, _, t, r, .cons (t1 := t1) (t2 := t2) h1 h2, h => by
    rw [List.append_assoc]
    refine .cons h1 (LexT.snoc h2 ?_)
    rw [List.length_cons] at h
    rw [show n + 1 + rows.length = n + (rows.length + 1) by omega]
    exact h
/-- what is asked of rows that are handed on -/
def RowsOk (rows : List Str) : Prop := ∀ r ∈ rows, (tl r).length ≤ 200 ∧ ∀ c ∈ tl r, c < 128
section
variable {P : Program} {w : World} {K : PySem.W.Frag} {mg : Str → Option Value} {base : Heap}
def spRows : Sp := fun vs H Q _ => ∃ (pu : Addr) (steps n : Nat), vs = [.ref pu, .int (steps : Int)] ∧ steps ≤ 8 ∧ PuOk H pu n ∧ n ≤ 1000 ∧
  ∀ p la fo H' rows ts us, H p = none → H la = none → H fo = none → But pu H H' → PuOk H' pu (n + 9000) → rows.length = steps → H' p = some (.lst [.ref la, .ref fo]) → H' la = some (.lst (rows.map V.str)) → H' fo = some (.lst us) → Paired (TkL H') us ts → LexT 1 rows ts → rows.length ≤ 8 → RowsOk rows → TsOk ts → us.length ≤ 100 → Q (.ref p) H'
theorem ok_L_rows (T : Txt K mg) : FnOk P w K mg base (L2.CX P w) 5 (He.ga K "_law_rows") (fdAt K (He.ga K "_law_rows")) ["_law_purse_here", "_law_steps"] spRows := by
  refine T.d_L_rows.fn.ok sc_L_rows (fun vs H Q E h => ?_) (fun cdv A outer s H vs Q E hr h => ?_)
  · obtain ⟨_, _, _, rfl, _⟩ := h
    rfl
  · obtain ⟨pu, steps, n, rfl, hst, hpu, hn, q⟩ := h
    refine ⟨_, PSs.nox (pss_cons (ps_set (i := 2) sc_L_rows.nd rfl (.inl rfl) (pe_lst pa_nil))
      (pss_cons (ps_set (i := 3) sc_L_rows.nd rfl (.inl rfl) (pe_lst pa_nil))
      (pss_cons (ps_for PassesOwn.never rfl (pi_range2 (by rfl) T.b_range (pa_cons pe_int (pa_cons (pe_op op_add (pv 1) pe_int) pa_nil))) (pg_name (i := 4) sc_L_rows.nd rfl (.inl rfl))
        (pss_cons (ps_asg (pe_call (ok_L_row T) (hr.mono (by decide)) (by rfl) T.d_L_row.g T.d_L_row.fn.kp T.d_L_row.b .nil passL (pa_cons (pv 0) (pa_cons (pv 4) (pa_cons (pe_call (ok_L_take T) (hr.mono (by decide)) (by rfl) T.d_L_take.g T.d_L_take.fn.kp T.d_L_take.b .nil passL (pa_cons (pv 0) (pa_cons pe_int pa_nil))) pa_nil)))) (pg_lst rfl (pgs_cons (pg_name (i := 5) sc_L_rows.nd rfl (.inl rfl)) (pgs_cons (pg_name (i := 6) sc_L_rows.nd rfl (.inl rfl)) pgs_nil))))
      (pss_cons (ps_expr (pe_bm PySem.F.plainAttrs_list PySem.F.slot_list_append PySem.F.type_list_append mt_append (pv 2) (pa_cons (pv 5) pa_nil)))
      (pss_one (ps_set (i := 3) sc_L_rows.nd rfl (.inl rfl) (pe_op op_cat (pv 3) (pv 6)))))))
      (pss_one (ps_ret (pe_lst (pa_cons (pv 2) (pa_cons (pv 3) pa_nil)))))))), ?_⟩
    refine ⟨szS (by simp), fun la hla => ?_⟩
    refine ⟨szS (by simp), fun f0 hf0 => ?_⟩
    have nela := pu_ne hpu hla
    have hf0' : H f0 = none := (same_new hla).free hf0
    refine ⟨_, rfl, _, _, rfl, rfl, 1, (steps : Int) + 1, rfl, by omega, ?_⟩
    refine for_range (lo := 1) (n := ((steps : Int) + 1 - 1).toNat) (fun i σ H' => ∃ (rows : List Str) (ts : List Tk) (us : List V) (fo : Addr) (y4 y5 y6 : Option V),
        σ = [some (.ref pu), some (.int (steps : Int)), some (.ref la), some (.ref fo), y4, y5, y6] ∧ H fo = none ∧ fo ≠ la ∧ But pu H H' ∧ PuOk H' pu (n + 1001 * i) ∧ H' la = some (.lst (rows.map V.str)) ∧ H' fo = some (.lst us) ∧ Paired (TkL H') us ts ∧ LexT 1 rows ts ∧ rows.length = i ∧ RowsOk rows ∧ TsOk ts ∧ us.length ≤ 10 * i)
      ?_ ?_ ?_
    · have s0 := (same_new (o := HO.lst []) hla).trans (same_new (o := HO.lst []) hf0)
      exact ⟨[], [], [], f0, none, none, none, rfl, hf0', (fun z => by rw [z, upd_same] at hf0; cases hf0), But.of s0, hpu.same s0, (same_new hf0) _ _ upd_same, upd_same, .nil, .nil, rfl, (fun _ h => by cases h), (fun _ h => by cases h), Nat.zero_le _⟩
    · rintro i σ H' hi ⟨rows, ts, us, fo, y4, y5, y6, rfl, hfo, hfl, bt, hp, hla', hf, hpl, hlex, hrl, hro, hts, hul⟩
      have nefo : fo ≠ pu := pu_ne hpu hfo
      refine ⟨_, rfl, _, rfl, _, rfl, pu, 7, n + 1001 * i, rfl, by decide, by decide, hp, by omega, fun r H2 r0 r1 bt2 fr2 hp2 => ?_⟩
      obtain ⟨k, rfl⟩ := Int.eq_ofNat_of_zero_le r0
      refine ⟨pu, i + 1, k, n + 1001 * i + 1, by show [V.ref pu, V.int (1 + (i : Int)), V.int (k : Int)] = _; rw [show (1 + (i : Int)) = ((i + 1 : Nat) : Int) by omega], by omega, hp2, by omega, ?_⟩
      intro pr f1 H3 line t1 u1 hpr hf1 bt3 hp3 hpr3 hf13 hpl1 hlex1 hll hlt1 hts1 hul1
      refine ⟨pr, _, rfl, .of hpr3, rfl, _, _, rfl, _, _, rfl, rfl, ?_⟩
      have hla3 : H3 la = some (.lst (rows.map V.str)) := bt3 _ _ nela (bt2 _ _ nela hla')
      have hfo3 : H3 fo = some (.lst us) := bt3 _ _ nefo (bt2 _ _ nefo hf)
      have hplo := pl_but (pl_but hpl bt2 hp.noTk) bt3 hp2.noTk
      have hstr : NoTk H3 la := by
        refine ⟨fun b x y z => ?_, fun x y z => ?_⟩
        · rw [hla3] at z
          have e : rows.map V.str = [.ref b, .str x, .str y] := by injection (Option.some.inj z)
          cases rows with
          | nil => cases e
          | cons a b => cases e
        · rw [hla3] at z
          cases z
      have bla := But.upd (o := HO.lst (rows.map V.str ++ [V.str line])) (But.refl la H3)
      have nf1la : f1 ≠ la := fun z => by
        have := bt2 _ _ nela hla'
        rw [← z, hf1] at this
        cases this
      refine ⟨_, rfl, .inl ⟨rfl, _, .of hla3⟩, _, rfl, la, rows.map V.str, .str line, rfl, rfl, hla3, szL (by rw [List.length_map]; omega), ?_⟩
      have hfoL := bla _ _ hfl hfo3
      have hf1L := bla _ _ nf1la hf13
      refine ⟨_, rfl, _, rfl, fo, f1, us, u1, rfl, rfl, hfoL, hf1L, szS (by omega), fun f2 hf2 => ?_⟩
      have s2 := same_new (o := HO.lst (us ++ u1)) hf2
      have btH : But pu H (upd H3 la (.lst (rows.map V.str ++ [V.str line]))) := fun b o hb ho => by
        rw [upd_ne (ne_of_none ho hla)]
        exact bt3 b o hb (bt2 b o hb (bt b o hb ho))
      have hpL : PuOk (upd H3 la (.lst (rows.map V.str ++ [V.str line]))) pu (n + 1001 * i + 1 + 1000) := hp3.but bla nela.symm
      have nf2 : f2 ≠ pu := pu_ne hpL hf2
      refine ⟨rows ++ [line], ts ++ t1, us ++ u1, f2, _, _, _, rfl, btH.free nf2 hf2, (fun z => by rw [z, upd_same] at hf2; cases hf2), btH.new hf2, (hpL.same s2).mono (by omega), ?_, upd_same, ?_, ?_, by rw [List.length_append, hrl]; rfl, ?_, ?_, by rw [List.length_append]; omega⟩
      · have h1 := s2 la _ upd_same
        rw [h1, List.map_append]
        rfl
      · exact pl_same (pt_app (pl_but hplo bla hstr) (pl_but hpl1 bla hstr)) s2
      · refine hlex.snoc ?_
        rw [hrl, show 1 + i = i + 1 by omega]
        exact hlex1
      · intro r hr
        rcases List.mem_append.mp hr with hr | hr
        · exact hro r hr
        · have e : r = line := by simpa using hr
          rw [e]
          exact ⟨hll, hlt1⟩
      · intro t ht
        rcases List.mem_append.mp ht with ht | ht
        · exact hts t ht
        · exact hts1 t ht
    · rintro σ H' ⟨rows, ts, us, fo, y4, y5, y6, rfl, hfo, hfl, bt, hp, hla', hf, hpl, hlex, hrl, hro, hts, hul⟩
      refine ⟨_, rfl, _, rfl, szS (by simp), fun p hpn => ?_⟩
      have s2 := same_new (o := HO.lst [V.ref la, V.ref fo]) hpn
      refine q p la fo _ rows ts us (bt.free (pu_ne hp hpn) hpn) hla hfo (bt.new hpn) ((hp.same s2).mono (by omega)) (by omega) upd_same (s2 _ _ hla') (s2 _ _ hf) (pl_same hpl s2) hlex (by omega) hro hts (by omega)
end
end Sw
set_option Elab.async false
set_option pp.maxSteps 600
set_option pp.deepTerms false
set_option linter.all false
set_option maxRecDepth 100000
set_option maxHeartbeats 4000000
namespace Sw
open PySem PySem.Spec PyProof.Rows L2 SX
theorem same_but {H H1 H2 : Hp} {pu : Addr} (a : Same H H1) (n : H pu = none) (b : But pu H1 H2) : Same H H2 := fun x o h => b x o (ne_of_none h n) (a x o h)
theorem units64 {A : Around} {k : Nat} (hr : Room k A) : A.units + 64 < cLine := hr.units
/-! ### lexemes as data -/
def tkD (t : Tk) : PyData := .tuple [.tuple [.int (t.row : Int), .int (t.col : Int)], .str t.sort, .str t.word]
section
variable {P : Program} {w : World} {K : PySem.W.Frag} {mg : Str → Option Value} {base : Heap}
theorem dp_tk {H : Hp} {v : V} {t : Tk} (h : TkT H v t) : Dp K H v (tkD t) := by
  obtain ⟨a, b, rfl, h2, h3⟩ := h
  exact .tup (.of h2) (.cons (.tup (.of h3) (.cons (.int _) (.cons (.int _) .nil))) (.cons (.str _) (.cons (.str _) .nil)))
theorem dp_tks {H : Hp} : ∀ {us : List V} {ts : List Tk}, Paired (TkT H) us ts → DpAll K H us (ts.map tkD)
  | _, _, .nil => .nil
  | _, _, .cons h t => .cons (dp_tk h) (dp_tks t)
theorem lay_tks : ∀ {ts : List Tk}, TsOk ts → PyData.canLayAll0 (ts.map tkD) = true
  | [], _ => rfl
  | t :: ts, h => by
    have h1 := h t (List.mem_cons_self ..)
    have h2 := lay_tks (ts := ts) fun x hx => h x (List.mem_cons_of_mem _ hx)
    simp [PyData.canLayAll0, tkD, PyData.canLay0, h1.1, h1.2, h2]
theorem dep_tks : ∀ (ts : List Tk), PyData.depthAll (ts.map tkD) ≤ 3
  | [] => by simp [PyData.depthAll]
  | t :: ts => by
    have h := dep_tks ts
    have h1 : (tkD t).depth ≤ 3 := by simp [tkD, PyData.depth, PyData.depthAll]
    simp only [List.map_cons, PyData.depthAll]
    omega
theorem shp_tks {ts : List Tk} (h : TsOk ts) : SeqAt.shaped (.list (ts.map tkD)) = true := by
  have h1 := dep_tks ts
  have h2 : PyData.depth (.list (ts.map tkD)) ≤ 64 := by
    simp only [PyData.depth]
    omega
  show (PyData.canLay0 (.list (ts.map tkD)) && decide (PyData.depth (.list (ts.map tkD)) ≤ 64)) = true
  rw [Bool.and_eq_true]
  exact ⟨by simp only [PyData.canLay0]; exact lay_tks h, decide_eq_true h2⟩
theorem dp_strs {H : Hp} : ∀ (rows : List Str), DpAll K H (rows.map V.str) (rows.map PyData.str)
  | [] => .nil
  | r :: rows => .cons (.str r) (dp_strs rows)
theorem lay_strs : ∀ {rows : List Str}, RowsOk rows → PyData.canLayAll0 (rows.map PyData.str) = true
  | [], _ => rfl
  | r :: rows, h => by
    have h1 : PyData.strOk r = true := strOk_of (h r (List.mem_cons_self ..)).2
    have h2 := lay_strs (rows := rows) fun x hx => h x (List.mem_cons_of_mem _ hx)
    simp [PyData.canLayAll0, PyData.canLay0, h1, h2]
theorem dep_strs : ∀ (rows : List Str), PyData.depthAll (rows.map PyData.str) ≤ 1
  | [] => by simp [PyData.depthAll]
  | r :: rows => by
    have h := dep_strs rows
    have h1 : (PyData.str r).depth ≤ 1 := by simp [PyData.depth]
    simp only [List.map_cons, PyData.depthAll]
    omega
theorem shp_strs {rows : List Str} (h : RowsOk rows) : SeqAt.shaped (.list (rows.map PyData.str)) = true := by
  have h1 := dep_strs rows
  have h2 : PyData.depth (.list (rows.map PyData.str)) ≤ 64 := by
    simp only [PyData.depth]
    omega
  show (PyData.canLay0 (.list (rows.map PyData.str)) && decide (PyData.depth (.list (rows.map PyData.str)) ≤ 64)) = true
  rw [Bool.and_eq_true]
  exact ⟨by simp only [PyData.canLay0]; exact lay_strs h, decide_eq_true h2⟩
theorem eqv_self {d : PyData} (h : SeqAt.shaped d = true) : PyData.eqv d d = true := SeqAt.eqv_refl d (SeqAt.canLay_of_shaped h)
end
end Sw
set_option Elab.async false
set_option pp.maxSteps 600
set_option pp.deepTerms false
set_option linter.all false
set_option maxRecDepth 100000
set_option maxHeartbeats 4000000
namespace Sw
open PySem PySem.Spec PyProof.Rows L2 SX
/-! ### the law's own reading of lexemes -/
theorem one_at {row : Str} {j c : Nat} (h : (tl row)[j]? = some c) : cutS row (some (j : Int)) (some ((j : Int) + 1)) = S [c] := by
  obtain ⟨hj, _⟩ := List.getElem?_eq_some_iff.mp h
  have e := cut_to row j (j + 1) (by omega) (by omega)
  rw [drop_cons h, show j + 1 - j = 1 by omega] at e
  exact e
theorem one_end {row : Str} {j : Nat} (h : j = (tl row).length) : cutS row (some (j : Int)) (some ((j : Int) + 1)) = S [] := by
  have e := cut_to row j (j + 1) (by omega) (by omega)
  rw [h, List.drop_length, List.take_nil] at e
  rw [h]
  exact e
theorem dg1 {c : Nat} (h : c < 128) : Txt.isdigit (S [c]) = isFi c := by
  rw [t_digit (by simpa using h)]
  simp
theorem an1 {c : Nat} (h : c < 128) : Txt.isalnum (S [c]) = isAl c := by
  rw [t_alnum (by simpa using h)]
  simp
theorem ap1 {c : Nat} (h : c < 128) : Txt.isalpha (S [c]) = isAp c := by
  rw [t_alpha (by simpa using h)]
  simp
theorem dg0 : Txt.isdigit (S []) = false := by decide +kernel
theorem an0 : Txt.isalnum (S []) = false := by decide +kernel
theorem in_two (s : List Nat) : decide (S (s.take 2) ∈ ([("->" : Str), "=="] : List Str)) = TwoS s := by
  rw [Bool.eq_iff_iff, decide_eq_true_iff, TwoS, Bool.or_eq_true]
  have e1 : tl "->" = [45, 62] := by decide +kernel
  have e2 : tl "==" = [61, 61] := by decide +kernel
  have q1 : ∀ w : Str, S (s.take 2) = w ↔ s.take 2 = tl w := fun w => ⟨fun h => by rw [← h, tl_S], fun h => by rw [h, S_tl']⟩
  rw [List.mem_cons, List.mem_singleton, q1, q1, e1, e2]
  match s with
  | [] => simp [isP]
  | [a] => simp [isP]
  | a :: b :: r =>
    have t : List.take 2 (a :: b :: r) = [a, b] := rfl
    rw [t]
    show _ ↔ (decide (45 = a) && (decide (62 = b) && true)) = true ∨ (decide (61 = a) && (decide (61 = b) && true)) = true
    simp only [Bool.and_true, Bool.and_eq_true, decide_eq_true_eq, List.cons.injEq, and_true]
    constructor <;> (rintro (⟨rfl, rfl⟩ | ⟨rfl, rfl⟩) <;> simp)
section
variable {P : Program} {w : World} {K : PySem.W.Frag} {mg : Str → Option Value} {base : Heap}
def spEnd : Sp := fun vs H Q _ => ∃ (row : Str) (i : Nat), vs = [.str row, .int (i : Int)] ∧ i < (tl row).length ∧ (tl row).length ≤ 10000 ∧ (∀ c ∈ tl row, c < 128) ∧ ∀ H', Same H H' → Q (.int ((i + (lexOne ((tl row).drop i)).2 : Nat) : Int)) H'
theorem ok_L_end (T : Txt K mg) : FnOk P w K mg base (L2.CX P w) 1 (He.ga K "_law_end") (fdAt K (He.ga K "_law_end")) ["_law_line", "_law_at_here"] spEnd := by
  refine T.d_L_end.fn.ok sc_L_end (fun vs H Q E h => ?_) (fun cdv A outer s H vs Q E hr h => ?_)
  · obtain ⟨_, _, rfl, _⟩ := h
    rfl
  · obtain ⟨row, i, rfl, hi, hz, hlt, q⟩ := h
    refine ⟨_, PSs.nox (pss_cons (ps_set (i := 2) sc_L_end.nd rfl (.inl rfl) (pe_ix ix_str (pv 0) (pv 1) (fun _ _ => rfl)))
      (pss_cons (ps_set (i := 3) sc_L_end.nd rfl (.inl rfl) (pe_op op_add (pv 1) pe_int))
      (pss_cons (ps_if (pt_val (pe_bm0 PySem.F.plainAttrs_str PySem.F.slot_str_isdigit PySem.F.type_str_isdigit mt_isdigit (pv 2)))
        (pss_one (ps_while PassesOwn.never (pw_and (pt_cmpR op_ne (pv 2) pe_str (nomark _)) (pw_and1 (pt_val (pe_bm0 PySem.F.plainAttrs_str PySem.F.slot_str_isdigit PySem.F.type_str_isdigit mt_isdigit (pe_slice sl_str (pv 0) (po_some (pv 3)) (po_some (pe_op op_add (pv 3) pe_int))))))).pt
        (pss_one (ps_set (i := 3) sc_L_end.nd rfl (.inl rfl) (pe_op op_add (pv 3) pe_int)))))
        (pss_one (ps_if (pt_val (pe_bm0 PySem.F.plainAttrs_str PySem.F.slot_str_isalpha PySem.F.type_str_isalpha mt_isalpha (pv 2)))
        (pss_one (ps_while PassesOwn.never (pw_and (pt_val (pe_bm0 PySem.F.plainAttrs_str PySem.F.slot_str_islower PySem.F.type_str_islower mt_islower (pe_slice sl_str (pv 0) (po_some (pv 3)) (po_some (pe_op op_add (pv 3) pe_int))))) (pw_and1 (pt_cmpR op_lt (pv 3) (pe_op op_add (pv 1) pe_int) (nomark _)))).pt
        (pss_one (ps_set (i := 3) sc_L_end.nd rfl (.inl rfl) (pe_op op_add (pv 3) pe_int)))))
        (pss_one (ps_if (pt_cmpR op_in_seq (pe_slice sl_str (pv 0) (po_some (pv 1)) (po_some (pe_op op_add (pv 1) pe_int))) (pe_lst (pa_cons pe_str (pa_cons pe_str pa_nil))) rfl)
        (pss_one (ps_set (i := 3) sc_L_end.nd rfl (.inl rfl) (pe_op op_add (pv 1) pe_int)))
        (pss_one (ps_if (pt_cmpR op_notIn_sign (pv 2) pe_str rfl)
        (pss_one (ps_set (i := 3) sc_L_end.nd rfl (.inl rfl) (pv 1)))
        pss_nil)))))))
      (pss_one (ps_ret (pv 3)))))), ?_⟩
    have hrl : row.length = (tl row).length := (tl_len row).symm
    have hsz : row.length ≤ sizeLine := by rw [hrl]; exact szS (by omega)
    obtain ⟨c, hc, hc2⟩ := at_some hi
    have hd := drop_cons hc
    have hc3 : c < 128 := hlt c (List.mem_of_getElem? hc)
    have hln : ((tl row).drop (i + 1)).length = (tl row).length - (i + 1) := List.length_drop
    have q' : ∀ (m : Int) H', Same H H' → m = ((i + (lexOne (c :: (tl row).drop (i + 1))).2 : Nat) : Int) → Q (.int m) H' := fun m H' h1 h2 => by
      rw [h2, ← hd]
      exact q H' h1
    refine ⟨_, rfl, _, rfl, row, _, c, rfl, rfl, hsz, hc2, _, rfl, _, _, rfl, rfl, _, rfl, rfl, _, rfl, rfl, True.intro, _, rfl, ?_⟩
    rw [dg1 hc3]
    refine ite2 (fun e1 => ?_) (fun e1 => ?_)
    · -- figures
      have hone := lexOne_fi (r := (tl row).drop (i + 1)) e1
      refine ⟨fun mm σ H' => ∃ k : Nat, σ = [some (.str row), some (.int (i : Int)), some (.str (S [c])), some (.int ((i + 1 + k : Nat) : Int))] ∧ H' = H ∧ (c = 48 → k = 0) ∧ i + 1 + k ≤ (tl row).length ∧ (∀ j d, j < k → ((tl row).drop (i + 1))[j]? = some d → isFi d = true) ∧ mm = (tl row).length - (i + 1 + k),
        ⟨_, 0, rfl, rfl, (fun _ => rfl), by omega, fun j d hj => by omega, rfl⟩, ?_⟩
      rintro mm σ H' ⟨k, rfl, rfl, h48, hik, ha, rfl⟩
      refine ⟨_, rfl, rfl, _, rfl, ?_⟩
      by_cases hc0 : c = 48
      · rw [show (!decide (V.str (S [c]) = V.str "0")) = false by rw [hc0]; decide +kernel]
        refine iteF ⟨_, rfl, q' _ _ (Same.refl _) ?_⟩
        rw [hone, if_pos hc0, h48 hc0]
        rfl
      · rw [show (!decide (V.str (S [c]) = V.str "0")) = true by
          rw [decide_eq_false (fun z => hc0 ?_)]
          · rfl
          · have z1 := congrArg tl (V.str.inj z)
            rw [tl_S, show tl "0" = [48] by decide +kernel] at z1
            exact (List.cons.inj z1).1]
        have fin : (k = ((tl row).drop (i + 1)).length ∨ ∃ d, ((tl row).drop (i + 1))[k]? = some d ∧ isFi d = false) → Q (.int ((i + 1 + k : Nat) : Int)) H' := fun h => by
          refine q' _ _ (Same.refl _) ?_
          rw [hone, if_neg hc0, runLen_is (by omega) ha (by omega) (.inr h)]
          show ((i + 1 + k : Nat) : Int) = ((i + (k + 1) : Nat) : Int)
          omega
        refine iteT ⟨_, rfl, _, rfl, _, rfl, _, rfl, _, _, rfl, rfl, _, rfl, row, rfl, hsz, rfl, _, rfl, rfl, True.intro, _, rfl, ?_⟩
        by_cases hlt2 : i + 1 + k < (tl row).length
        · obtain ⟨d, hd1, _⟩ := at_some hlt2
          have hd3 : ((tl row).drop (i + 1))[k]? = some d := by rw [List.getElem?_drop]; exact hd1
          rw [one_at hd1, dg1 (hlt d (List.mem_of_getElem? hd1))]
          refine ite2 (fun e2 => ?_) (fun e2 => ?_)
          · refine ⟨fun σ' H'' => σ' = [some (.str row), some (.int (i : Int)), some (.str (S [c])), some (.int ((i + 1 + (k + 1) : Nat) : Int))] ∧ H'' = H', fun σ' H'' hN => ?_, ⟨_, rfl, _, _, rfl, rfl, rfl, rfl⟩⟩
            obtain ⟨rfl, rfl⟩ := hN
            refine ⟨_, ?_, k + 1, rfl, rfl, (fun z => absurd z hc0), by omega, fun j d' hj hd' => ?_, rfl⟩
            · omega
            · by_cases hjk : j = k
              · subst hjk
                rw [hd3] at hd'
                rw [← Option.some.inj hd']
                exact e2
              · exact ha j d' (by omega) hd'
          · exact ⟨_, rfl, fin (.inr ⟨d, hd3, by simpa using e2⟩)⟩
        · rw [one_end (by omega), dg0]
          exact iteF ⟨_, rfl, fin (.inl (by omega))⟩
    · refine ⟨_, rfl, rfl, _, rfl, rfl, True.intro, _, rfl, ?_⟩
      rw [ap1 hc3]
      refine ite2 (fun e2 => ?_) (fun e2 => ?_)
      · -- letters
        obtain ⟨hone, _⟩ := lexOne_ap (r := (tl row).drop (i + 1)) e2
        refine ⟨fun mm σ H' => ∃ k : Nat, σ = [some (.str row), some (.int (i : Int)), some (.str (S [c])), some (.int ((i + 1 + k : Nat) : Int))] ∧ H' = H ∧ k ≤ 7 ∧ i + 1 + k ≤ (tl row).length ∧ (∀ j d, j < k → ((tl row).drop (i + 1))[j]? = some d → isSm d = true) ∧ mm = (tl row).length - (i + 1 + k),
          ⟨_, 0, rfl, rfl, (by omega), by omega, fun j d hj => by omega, rfl⟩, ?_⟩
        rintro mm σ H' ⟨k, rfl, rfl, h7, hik, ha, rfl⟩
        have fin : (k = 7 ∨ k = ((tl row).drop (i + 1)).length ∨ ∃ d, ((tl row).drop (i + 1))[k]? = some d ∧ isSm d = false) → Q (.int ((i + 1 + k : Nat) : Int)) H' := fun h => by
          refine q' _ _ (Same.refl _) ?_
          rw [hone, runLen_is (by omega) ha (by omega) h]
          show ((i + 1 + k : Nat) : Int) = ((i + (k + 1) : Nat) : Int)
          omega
        refine ⟨_, rfl, _, rfl, _, rfl, _, rfl, _, _, rfl, rfl, _, rfl, row, rfl, hsz, rfl, _, rfl, rfl, True.intro, _, rfl, ?_⟩
        by_cases hlt2 : i + 1 + k < (tl row).length
        · obtain ⟨d, hd1, _⟩ := at_some hlt2
          have hd3 : ((tl row).drop (i + 1))[k]? = some d := by rw [List.getElem?_drop]; exact hd1
          rw [one_at hd1, u_lo d (hlt d (List.mem_of_getElem? hd1))]
          refine ite2 (fun e3 => ?_) (fun e3 => ?_)
          · refine ⟨_, rfl, _, rfl, _, _, rfl, rfl, _, _, rfl, rfl, _, rfl, ite2 (fun e4 => ?_) (fun e4 => ?_)⟩
            · have e5 := of_decide_eq_true e4
              refine ⟨fun σ' H'' => σ' = [some (.str row), some (.int (i : Int)), some (.str (S [c])), some (.int ((i + 1 + (k + 1) : Nat) : Int))] ∧ H'' = H', fun σ' H'' hN => ?_, ⟨_, rfl, _, _, rfl, rfl, rfl, rfl⟩⟩
              obtain ⟨rfl, rfl⟩ := hN
              refine ⟨_, ?_, k + 1, rfl, rfl, by omega, by omega, fun j d' hj hd' => ?_, rfl⟩
              · omega
              · by_cases hjk : j = k
                · subst hjk
                  rw [hd3] at hd'
                  rw [← Option.some.inj hd']
                  exact e3
                · exact ha j d' (by omega) hd'
            · have e5 : ¬ ((i + 1 + k : Nat) : Int) < (i : Int) + 8 := fun z => e4 (decide_eq_true z)
              exact ⟨_, rfl, fin (.inl (by omega))⟩
          · exact ⟨_, rfl, fin (.inr (.inr ⟨d, hd3, by simpa using e3⟩))⟩
        · rw [one_end (by omega), t_lower0]
          exact iteF ⟨_, rfl, fin (.inr (.inl (by omega)))⟩
      · -- signs
        have f1 : isFi c = false := by simpa using e1
        have f2 : isAp c = false := by simpa using e2
        refine ⟨_, rfl, _, rfl, _, rfl, _, rfl, _, _, rfl, rfl, _, rfl, row, rfl, hsz, szS (by simp), fun pl hpl => ?_⟩
        have sm := same_new (o := HO.lst [V.str "->", V.str "=="]) hpl
        refine ⟨_, _, rfl, .inl (.of upd_same), rfl, rfl, _, rfl, ?_⟩
        have et : inV (V.str (cutS row (some (i : Int)) (some ((i : Int) + 2)))) [V.str "->", V.str "=="] = TwoS (c :: (tl row).drop (i + 1)) := by
          have z1 := cut_to row i (i + 2) (by omega) (by omega)
          rw [show (cutS row (some (i : Int)) (some ((i : Int) + 2))) = _ from z1, show i + 2 - i = 2 by omega, hd]
          exact (in_strs _ ["->", "=="]).trans (in_two _)
        have two : ∀ b, (if false then !b else b) = b := fun b => rfl
        rw [show (if false = true then !inV (V.str (cutS row (some (i : Int)) (some ((i : Int) + 2)))) [V.str "->", V.str "=="] else inV (V.str (cutS row (some (i : Int)) (some ((i : Int) + 2)))) [V.str "->", V.str "=="]) = TwoS (c :: (tl row).drop (i + 1)) from et]
        rcases lexOne_sg (r := (tl row).drop (i + 1)) f1 f2 with ⟨z1, z2, z3, z4⟩ | ⟨z1, z2, z3, z4⟩
        · rw [z3]
          refine iteF ⟨_, rfl, c, _, rfl, rfl, _, rfl, ?_⟩
          rw [show (!decide (c ∈ _)) = true by rw [show (Str.ofString "=|()+-*<_").cps.toList = sg1 from sg1_eq, decide_eq_false z4]; rfl]
          refine iteT ⟨_, rfl, _, rfl, q' _ _ sm ?_⟩
          rw [z2]
          rfl
        · cases ht : TwoS (c :: (tl row).drop (i + 1)) with
          | true =>
            rw [ht] at z3
            refine iteT ⟨_, rfl, _, _, rfl, rfl, _, rfl, q' _ _ sm ?_⟩
            rw [z3]
            rfl
          | false =>
            rw [ht] at z3
            refine iteF ⟨_, rfl, c, _, rfl, rfl, _, rfl, ?_⟩
            rw [show (!decide (c ∈ _)) = false by rw [show (Str.ofString "=|()+-*<_").cps.toList = sg1 from sg1_eq, decide_eq_true z2]; rfl]
            refine iteF ⟨_, rfl, q' _ _ sm ?_⟩
            rw [z3]
            rfl
end
end Sw
set_option Elab.async false
set_option pp.maxSteps 600
set_option pp.deepTerms false
set_option linter.all false
set_option maxRecDepth 100000
set_option maxHeartbeats 4000000
namespace Sw
open PySem PySem.Spec PyProof.Rows L2 SX
theorem none_zero {c : Nat} {r : List Nat} {n : Nat} (h : lexOne (c :: r) = (("none" : Str), n)) : n = 0 := by
  by_cases hf : isFi c = true
  · rw [lexOne_fi hf] at h
    exact absurd (Prod.mk.inj h).1 (show ("number" : Str) ≠ ("none" : Str) by decide +kernel)
  · by_cases ha : isAp c = true
    · have := (lexOne_ap (r := r) ha).2
      rw [h] at this
      exact absurd rfl this
    · rcases lexOne_sg (r := r) (by simpa using hf) (by simpa using ha) with ⟨_, q, _⟩ | ⟨q, _⟩
      · rw [h] at q
        exact q
      · rw [h] at q
        exact absurd q (show ("none" : Str) ≠ ("sign" : Str) by decide +kernel)
theorem last_at {l : List Nat} {i n d : Nat} (h1 : 1 ≤ n) (h2 : l[i + n - 1]? = some d) : ((l.drop i).take n).getLast? = some d := by
  obtain ⟨hi, _⟩ := List.getElem?_eq_some_iff.mp h2
  rw [List.getLast?_eq_getElem?]
  have e : ((l.drop i).take n).length = n := by rw [List.length_take, List.length_drop]; omega
  rw [e, List.getElem?_take, if_pos (by omega), List.getElem?_drop, show i + (n - 1) = i + n - 1 by omega]
  exact h2
theorem cls_of {c : Nat} : (isGr c = true → isFi c = false) ∧ (isSm c = true → isFi c = false ∧ isGr c = false) := by
  unfold isGr isFi isSm
  simp only [Bool.and_eq_true, decide_eq_true_eq, Bool.and_eq_false_iff, decide_eq_false_iff_not]
  omega
theorem sm_apl {l : List Nat} (h : l.all isSm = true) : l.all isAp = true := by
  rw [List.all_eq_true] at h ⊢
  intro x hx
  unfold isAp
  rw [h x hx]
  rfl
section
variable {P : Program} {w : World} {K : PySem.W.Frag} {mg : Str → Option Value} {base : Heap}
def spSort : Sp := fun vs H Q _ => ∃ (so : Str) (c n : Nat) (r : List Nat), vs = [.str (S ((c :: r).take n))] ∧ lexOne (c :: r) = (so, n) ∧ so ≠ "none" ∧ n ≤ 10000 ∧ (∀ d ∈ (c :: r), d < 128) ∧ ∀ H', Same H H' → Q (.str so) H'
theorem ok_L_sort (T : Txt K mg) : FnOk P w K mg base (L2.CX P w) 1 (He.ga K "_law_sort") (fdAt K (He.ga K "_law_sort")) ["_law_said"] spSort := by
  refine T.d_L_sort.fn.ok sc_L_sort (fun vs H Q E h => ?_) (fun cdv A outer s H vs Q E hr h => ?_)
  · obtain ⟨_, _, _, _, rfl, _⟩ := h
    rfl
  · obtain ⟨so, c, n, r, rfl, h1, h2, hn, hlt, q⟩ := h
    refine ⟨_, PSs.nox (pss_cons (ps_if (pt_val (pe_bm0 PySem.F.plainAttrs_str PySem.F.slot_str_isdigit PySem.F.type_str_isdigit mt_isdigit (pv 0)))
        (pss_one (ps_ret pe_str))
        pss_nil)
      (pss_cons (ps_if (pt_val (pe_bm0 PySem.F.plainAttrs_str PySem.F.slot_str_isupper PySem.F.type_str_isupper mt_isupper (pe_ix ix_str (pv 0) pe_int (fun _ _ => rfl))))
        (pss_one (ps_ret pe_str))
        pss_nil)
      (pss_cons (ps_if (pt_val (pe_bm0 PySem.F.plainAttrs_str PySem.F.slot_str_isalpha PySem.F.type_str_isalpha mt_isalpha (pv 0)))
        (pss_one (ps_ret (pe_ix ix_list (pe_lst (pa_cons pe_str (pa_cons pe_str pa_nil))) (pe_callTy call_int1 (by rfl) T.b_int (by decide +kernel) (pa_cons (pe_cmpR op_in_seq (pv 0) (pe_lst (pa_cons pe_str (pa_cons pe_str (pa_cons pe_str (pa_cons pe_str (pa_cons pe_str (pa_cons pe_str (pa_cons pe_str (pa_cons pe_str (pa_cons pe_str pa_nil)))))))))) rfl) pa_nil)) (fun _ _ => rfl))))
        pss_nil)
      (pss_one (ps_ret pe_str))))), ?_⟩
    have hlt2 : ∀ d ∈ (c :: r).take n, d < 128 := fun d hd => hlt d (List.mem_of_mem_take hd)
    have hsz : (S ((c :: r).take n)).length ≤ sizeLine := by
      rw [S_len]
      have := List.length_take_le n (c :: r)
      exact szS (by omega)
    have hn1 := lexOne_pos h1 (by simp) h2
    have hat : atI (tl (S ((c :: r).take n))) (0 : Int) = some c := by
      obtain ⟨m, rfl⟩ : ∃ m, n = m + 1 := ⟨n - 1, by omega⟩
      exact atI_nat (xs := tl (S ((c :: r).take (m + 1)))) (j := 0) (by rw [tl_S]; rfl)
    refine ⟨_, rfl, rfl, _, rfl, rfl, True.intro, _, rfl, ?_⟩
    rcases tok_shape h1 h2 with ⟨rfl, l, e2, h4⟩ | ⟨rfl, l, e2, h4, h5⟩ | ⟨e1, l, e2, h4⟩ | ⟨rfl, h4⟩
    · rw [show Txt.isdigit (S ((c :: r).take n)) = true by rw [t_digit hlt2, e2, h4]; rfl]
      exact iteT (q H (Same.refl H))
    · rw [show Txt.isdigit (S ((c :: r).take n)) = false by rw [t_digit hlt2, e2, List.all_cons, cls_of.1 h4]; simp]
      refine iteF ⟨_, rfl, _, _, c, rfl, rfl, hsz, hat, rfl, _, rfl, rfl, True.intro, _, rfl, ?_⟩
      rw [show Txt.isupper (S [c]) = isGr c from u_up c (hlt c (by simp)), h4]
      exact iteT (q H (Same.refl H))
    · have h5 : isSm c = true := by rw [List.all_cons] at h4; exact (Bool.and_eq_true_iff.mp h4).1
      rw [show Txt.isdigit (S ((c :: r).take n)) = false by rw [t_digit hlt2, e2, List.all_cons, (cls_of.2 h5).1]; simp]
      refine iteF ⟨_, rfl, _, _, c, rfl, rfl, hsz, hat, rfl, _, rfl, rfl, True.intro, _, rfl, ?_⟩
      rw [show Txt.isupper (S [c]) = isGr c from u_up c (hlt c (by simp)), (cls_of.2 h5).2]
      refine iteF ⟨_, rfl, rfl, _, rfl, rfl, True.intro, _, rfl, ?_⟩
      rw [show Txt.isalpha (S ((c :: r).take n)) = true by rw [t_alpha hlt2, e2, sm_apl h4]; rfl]
      refine iteT ⟨szS (by simp), fun p1 hp1 => ⟨_, rfl, szS (by simp), fun p2 hp2 => ⟨_, _, rfl, .inl (.of upd_same), rfl, rfl, ?_⟩⟩⟩
      have n12 : p1 ≠ p2 := fun z => by rw [← z, upd_same] at hp2; cases hp2
      have hp1' : upd (upd H p1 (.lst [.str "name", .str "word"])) p2 (.lst (WORDS.map V.str)) p1 = some (.lst [.str "name", .str "word"]) := by rw [upd_ne n12, upd_same]
      refine .inr ⟨_, rfl, ?_⟩
      have hw : inV (.str (S ((c :: r).take n))) (WORDS.map V.str) = decide (S ((c :: r).take n) ∈ WORDS) := in_strs _ _
      have sm2 : Same H (upd (upd H p1 (.lst [.str "name", .str "word"])) p2 (.lst (WORDS.map V.str))) := (same_new hp1).trans (same_new hp2)
      have hb : (if false = true then !inV (V.str (S ((c :: r).take n))) [V.str "data", V.str "let", V.str "in", V.str "if", V.str "then", V.str "else", V.str "case", V.str "of", V.str "fun"] else inV (V.str (S ((c :: r).take n))) [V.str "data", V.str "let", V.str "in", V.str "if", V.str "then", V.str "else", V.str "case", V.str "of", V.str "fun"]) = decide (S ((c :: r).take n) ∈ WORDS) := hw
      rw [hb]
      by_cases hm : S ((c :: r).take n) ∈ WORDS
      · rw [if_pos hm] at e1
        subst e1
        rw [decide_eq_true hm]
        exact ⟨_, _, _, _, rfl, rfl, .of hp1', rfl, q _ sm2⟩
      · rw [if_neg hm] at e1
        subst e1
        rw [decide_eq_false hm]
        exact ⟨_, _, _, _, rfl, rfl, .of hp1', rfl, q _ sm2⟩
    · have hh : ∀ g ∈ SIGNS, Txt.isdigit g = false ∧ Txt.isalpha g = false ∧ (tl g).all (fun d => !isGr d) = true := by decide +kernel
      obtain ⟨g1, g2, g3⟩ := hh _ h4
      have g4 : isGr c = false := by
        rw [tl_S] at g3
        obtain ⟨m, rfl⟩ : ∃ m, n = m + 1 := ⟨n - 1, by omega⟩
        rw [List.take_succ_cons, List.all_cons] at g3
        simpa using (Bool.and_eq_true_iff.mp g3).1
      rw [g1]
      refine iteF ⟨_, rfl, _, _, c, rfl, rfl, hsz, hat, rfl, _, rfl, rfl, True.intro, _, rfl, ?_⟩
      rw [show Txt.isupper (S [c]) = isGr c from u_up c (hlt c (by simp)), g4]
      refine iteF ⟨_, rfl, rfl, _, rfl, rfl, True.intro, _, rfl, ?_⟩
      rw [g2]
      exact iteF (q H (Same.refl H))
/-- what the law's own reading hands back -/
def Due (H : Hp) (v : V) (e : Option (Nat × Nat)) (ts : List Tk) : Prop := match e with
  | none => ∃ p fo us, v = .ref p ∧ H p = some (.lst [.non, .ref fo]) ∧ H fo = some (.lst us) ∧ Paired (TkT H) us ts
  | some q => ∃ p b, v = .ref p ∧ H p = some (.lst [.ref b, .non]) ∧ H b = some (.tup [.int (q.1 : Int), .int (q.2 : Int)])
def spOwn (K : PySem.W.Frag) : Sp := fun vs H Q _ => ∃ (a : Addr) (rows : List Str) (e : Option (Nat × Nat)) (ts : List Tk), vs = [.ref a] ∧ SqL K H a (rows.map V.str) ∧ rows.length ≤ 200 ∧ (∀ r ∈ rows, (tl r).length ≤ 300) ∧ (∀ r ∈ rows, ∀ c ∈ tl r, c < 128) ∧ LexE 1 rows e ts ∧
  ∀ v H', Same H H' → Due H' v e ts → Q v H'
theorem ok_L_own (T : Txt K mg) : FnOk P w K mg base (L2.CX P w) 2 (He.ga K "_law_own") (fdAt K (He.ga K "_law_own")) ["_law_lines"] (spOwn K) := by
  refine T.d_L_own.fn.ok sc_L_own (fun vs H Q E h => ?_) (fun cdv A outer s H vs Q E hr h => ?_)
  · obtain ⟨_, _, _, _, rfl, _⟩ := h
    rfl
  · obtain ⟨a, rows, err, ts, rfl, hS, hn, hz, hasc, hL, q⟩ := h
    refine ⟨_, PSs.nox (pss_cons (ps_set (i := 1) sc_L_own.nd rfl (.inl rfl) (pe_lst pa_nil))
      (pss_cons (ps_for PassesOwn.never rfl (pi_enum (by rfl) T.b_enumerate (pa_cons (pv 0) pa_nil)) (pg_tup rfl (pgs_cons (pg_name (i := 2) sc_L_own.nd rfl (.inl rfl)) (pgs_cons (pg_name (i := 3) sc_L_own.nd rfl (.inl rfl)) pgs_nil)))
        (pss_cons (ps_set (i := 4) sc_L_own.nd rfl (.inl rfl) pe_int)
      (pss_one (ps_while PassesOwn.never (pw_and (pt_cmpR op_lt (pv 4) (pe_callB call_len_str (by rfl) T.b_len PySem.boot_len (pa_cons (pv 3) pa_nil)) (nomark _)) (pw_and1 (pt_not (pt_val (pe_bm PySem.F.plainAttrs_str PySem.F.slot_str_startswith PySem.F.type_str_startswith mt_startswith3 (pv 3) (pa_cons pe_str (pa_cons (pv 4) pa_nil))))))).pt
        (pss_one (ps_if (pt_cmpR op_eq (pe_ix ix_str (pv 3) (pv 4) (fun _ _ => rfl)) pe_str (nomark _))
        (pss_one (ps_set (i := 4) sc_L_own.nd rfl (.inl rfl) (pe_op op_add (pv 4) pe_int)))
        (pss_cons (ps_set (i := 5) sc_L_own.nd rfl (.inl rfl) (pe_call (ok_L_end T) (hr.mono (by decide)) (by rfl) T.d_L_end.g T.d_L_end.fn.kp T.d_L_end.b .nil passL (pa_cons (pv 3) (pa_cons (pv 4) pa_nil))))
      (pss_cons (ps_if (pt_cmpR op_eq (pv 5) (pv 4) (nomark _))
        (pss_one (ps_ret (pe_lst (pa_cons (pe_tup (pa_cons (pe_op op_add (pv 2) pe_int) (pa_cons (pe_op op_add (pv 4) pe_int) pa_nil))) (pa_cons pe_non pa_nil)))))
        pss_nil)
      (C8.pss_cut (ps_if (pw_and (pt_val (pe_bm0 PySem.F.plainAttrs_str PySem.F.slot_str_isalnum PySem.F.type_str_isalnum mt_isalnum (pe_ix ix_str (pv 3) (pe_op op_sub (pv 5) pe_int) (fun _ _ => rfl)))) (pw_and1 (pt_val (pe_bm0 PySem.F.plainAttrs_str PySem.F.slot_str_isalnum PySem.F.type_str_isalnum mt_isalnum (pe_slice sl_str (pv 3) (po_some (pv 5)) (po_some (pe_op op_add (pv 5) pe_int))))))).pt
        (pss_one (ps_ret (pe_lst (pa_cons (pe_tup (pa_cons (pe_op op_add (pv 2) pe_int) (pa_cons (pe_op op_add (pv 5) pe_int) pa_nil))) (pa_cons pe_non pa_nil)))))
        pss_nil)
      (pss_cons (ps_expr (pe_bm PySem.F.plainAttrs_list PySem.F.slot_list_append PySem.F.type_list_append mt_append (pv 1) (pa_cons (pe_tup (pa_cons (pe_tup (pa_cons (pe_op op_add (pv 2) pe_int) (pa_cons (pe_op op_add (pv 4) pe_int) pa_nil))) (pa_cons (pe_call (ok_L_sort T) (hr.mono (by decide)) (by rfl) T.d_L_sort.g T.d_L_sort.fn.kp T.d_L_sort.b .nil passL (pa_cons (pe_slice sl_str (pv 3) (po_some (pv 4)) (po_some (pv 5))) pa_nil)) (pa_cons (pe_slice sl_str (pv 3) (po_some (pv 4)) (po_some (pv 5))) pa_nil)))) pa_nil)))
      (pss_one (ps_set (i := 4) sc_L_own.nd rfl (.inl rfl) (pv 5)))))))))))))
      (pss_one (ps_ret (pe_lst (pa_cons pe_non (pa_cons (pv 1) pa_nil))))))), ?_⟩
    refine ⟨szS (by simp), fun fo hfo => ?_⟩
    refine ⟨_, rfl, a, _, rfl, (same_new hfo).seq hS, for_it (walk_enum (xs := rows.map V.str)) (fun i σ H' => ∃ (y2 y3 y4 y5 : Option V) (us : List V) (t1 t2 : List Tk), σ = [some (.ref a), some (.ref fo), y2, y3, y4, y5] ∧ Same H H' ∧ H' fo = some (.lst us) ∧ Paired (TkT H') us t1 ∧ LexE (i + 1) (rows.drop i) err t2 ∧ (err = none → ts = t1 ++ t2) ∧ us.length ≤ 300 * i)
      ⟨none, none, none, none, [], [], ts, rfl, same_new hfo, upd_same, .nil, hL, fun _ => rfl, by simp⟩ (fun i σ H' _ ⟨_, _, _, _, _, _, _, _, sm, _⟩ => sm.seq hS) (fun i x σ H1 H2 hi hP hY => ?_) (fun σ H' hP => ?_)⟩
    · obtain ⟨y2, y3, y4, y5, us, t1, t2, rfl, sm, hf, hp, hl, hts, hu⟩ := hP
      obtain ⟨T0, x1, x2, rfl, hT0, rfl, ex1, ex2⟩ := hY
      rw [List.length_map] at hi
      have hg : rows[i]? = some rows[i] := List.getElem?_eq_getElem hi
      have ex2' : x2 = .str rows[i] := by
        dsimp only at ex2
        rw [List.getElem?_map, hg] at ex2
        exact (Option.some.inj ex2).symm
      have ex1' : x1 = .int (i : Int) := (Option.some.inj ex1).symm
      subst ex1' ex2'
      refine ⟨T0, _, rfl, .of upd_same, rfl, _, _, rfl, _, _, rfl, rfl, ?_⟩
      have sm1 := same_new (o := HO.tup [.int (i : Int), .str rows[i]]) hT0
      have hf1 := sm1 _ _ hf
      rw [List.drop_eq_getElem_cons hi] at hl
      have hpz := hz _ (List.getElem_mem hi)
      have hpa := hasc _ (List.getElem_mem hi)
      generalize rows[i] = row at *
      obtain ⟨er, u1, hrow, hcase⟩ : ∃ er u1, LexR (i + 1) 0 (tl row) er u1 ∧ ((er = none ∧ ∃ u2, LexE (i + 1 + 1) (rows.drop (i + 1)) err u2 ∧ (err = none → t2 = u1 ++ u2)) ∨ (∃ q, er = some q ∧ err = some q)) := by
        cases hl with
        | cons hl1 hl2 => exact ⟨_, _, hl1, .inl ⟨rfl, _, hl2, fun _ => rfl⟩⟩
        | bad hl1 => exact ⟨_, _, hl1, .inr ⟨_, rfl, rfl⟩⟩
      have hrl : row.length = (tl row).length := (tl_len row).symm
      have hsz : row.length ≤ sizeLine := by rw [hrl]; exact szS (by omega)
      -- refusal
      have bad : ∀ (c1 : Int) (q0 : Nat × Nat) (b p : Addr) (H3 : Hp), er = some q0 → c1 = (q0.2 : Int) → q0.1 = i + 1 → Same H H3 → H3 b = none → upd H3 b (.tup [V.int ((i : Int) + 1), V.int c1]) p = none → Q (.ref p) (upd (upd H3 b (.tup [V.int ((i : Int) + 1), V.int c1])) p (.lst [V.ref b, V.non])) := fun c1 q0 b p H3 e1 e2 e3 s3 hb hp => by
        rcases hcase with ⟨z, _⟩ | ⟨q1, z1, z2⟩
        · rw [e1] at z
          cases z
        · rw [e1] at z1
          cases z1
          have nbp : b ≠ p := fun z => by rw [← z, upd_same] at hp; cases hp
          refine q _ _ (s3.trans ((same_new hb).trans (same_new hp))) ?_
          rw [z2]
          refine ⟨p, b, rfl, upd_same, ?_⟩
          rw [upd_ne nbp, upd_same, e2, e3]
          rfl
      refine ⟨fun m σ H' => ∃ (j : Nat) (y5 : Option V) (us : List V) (w1 w2 : List Tk), σ = [some (.ref a), some (.ref fo), some (.int (i : Int)), some (.str row), some (.int (j : Int)), y5] ∧ Same H H' ∧ H' fo = some (.lst us) ∧ Paired (TkT H') us w1 ∧ LexR (i + 1) j ((tl row).drop j) er w2 ∧ (er = none → t1 ++ u1 = w1 ++ w2) ∧ j ≤ (tl row).length ∧ us.length ≤ 300 * i + j ∧ m = (tl row).length - j,
        ⟨_, 0, _, us, t1, u1, rfl, sm.trans sm1, hf1, pt_same hp sm1, hrow, fun _ => rfl, by omega, by omega, rfl⟩, ?_⟩
      rintro m σ H' ⟨j, y5, us, w1, w2, rfl, sm, hf, hp, hl, hw, hj, hu, rfl⟩
      -- the row's end
      have fin : er = none → w2 = [] → ∃ (z2 z3 z4 z5 : Option V) (us : List V) (t1 t2 : List Tk), [some (V.ref a), some (.ref fo), some (.int (i : Int)), some (.str row), some (.int (j : Int)), y5] = [some (.ref a), some (.ref fo), z2, z3, z4, z5] ∧ Same H H' ∧ H' fo = some (.lst us) ∧ Paired (TkT H') us t1 ∧ LexE (i + 1 + 1) (rows.drop (i + 1)) err t2 ∧ (err = none → ts = t1 ++ t2) ∧ us.length ≤ 300 * (i + 1) := fun e1 e2 => by
        rcases hcase with ⟨_, u2, h3, h4⟩ | ⟨q1, z1, z2⟩
        · have h5 := hw e1
          rw [e2, List.append_nil] at h5
          exact ⟨_, _, _, _, us, w1, u2, rfl, sm, hf, hp, h3, fun z => by rw [hts z, h4 z, ← List.append_assoc, h5], by omega⟩
        · rw [e1] at z1
          cases z1
      refine ⟨_, rfl, _, rfl, row, rfl, hsz, _, _, rfl, rfl, _, rfl, ite2 (fun e => ?_) (fun e => ?_)⟩
      · have e1 := of_decide_eq_true e
        have hlt : j < (tl row).length := by rw [hrl] at e1; omega
        refine ⟨_, rfl, rfl, _, rfl, row, _, _, rfl, rfl, ?_⟩
        rw [starts3 row "--" j (by omega), dash_tl]
        obtain ⟨c, hc, hc2⟩ := at_some hlt
        have hd := drop_cons hc
        refine ⟨_, rfl, ?_⟩
        rw [hd] at hl ⊢
        cases hdash : isP [45, 45] (c :: (tl row).drop (j + 1)) with
        | true =>
          refine iteF ?_
          have et2 : er = none ∧ w2 = [] := by
            cases hl with
            | fin => exact ⟨rfl, rfl⟩
            | blank h => simp [isP] at hdash
            | tok h1 h2 h3 => rw [hdash] at h3; cases h3
            | none h1 h2 h3 => rw [hdash] at h3; cases h3
            | glued h1 h2 h3 => rw [hdash] at h3; cases h3
          exact fin et2.1 et2.2
        | false =>
          refine iteT ?_
          refine ⟨fun σ' H'' => ∃ (j' : Nat) (y5 : Option V) (us : List V) (w1' w2' : List Tk), j < j' ∧ σ' = [some (.ref a), some (.ref fo), some (.int (i : Int)), some (.str row), some (.int (j' : Int)), y5] ∧ Same H H'' ∧ H'' fo = some (.lst us) ∧ Paired (TkT H'') us w1' ∧ LexR (i + 1) j' ((tl row).drop j') er w2' ∧ (er = none → t1 ++ u1 = w1' ++ w2') ∧ j' ≤ (tl row).length ∧ us.length ≤ 300 * i + j',
            fun σ' H'' hN => ?_, ?_⟩
          · obtain ⟨j', y5, us, w1', w2', hlt', h1, h2, h3, h4, h5, h6, h7, h8⟩ := hN
            exact ⟨(tl row).length - j', by omega, j', y5, us, w1', w2', h1, h2, h3, h4, h5, h6, h7, h8, rfl⟩
          · refine ⟨_, rfl, _, rfl, row, _, c, rfl, rfl, hsz, hc2, rfl, _, rfl, ?_⟩
            rw [blank_is]
            rcases lex_inv hl hdash with ⟨rfl, hl2⟩ | ⟨hne, so, n, h1, hcs⟩
            · refine iteT ⟨_, rfl, _, _, rfl, rfl, j + 1, y5, us, w1, w2, by omega, rfl, sm, hf, hp, hl2, hw, by omega, by omega⟩
            · rw [decide_eq_false hne]
              have hlen : (c :: (tl row).drop (j + 1)).length = (tl row).length - j := by rw [← hd, List.length_drop]
              refine iteF ⟨_, rfl, _, rfl, row, j, rfl, hlt, by omega, hpa, fun H1 sm1 => ?_⟩
              rw [show (lexOne ((tl row).drop j)).2 = n by rw [hd, h1]]
              have hf1 : H1 fo = some (.lst us) := sm1 _ _ hf
              refine ⟨_, rfl, _, rfl, rfl, _, rfl, ?_⟩
              rcases hcs with ⟨hno, herr, _⟩ | ⟨h2, h4, hrest⟩
              · subst hno
                have n0 := none_zero h1
                subst n0
                rw [show decide (V.int ((j + 0 : Nat) : Int) = V.int (j : Int)) = true from decide_eq_true rfl]
                exact iteT ⟨_, rfl, _, _, rfl, rfl, _, rfl, _, _, rfl, rfl, szS (by simp), fun b hb => ⟨szS (by simp), fun p hp => bad _ _ b p H1 herr (by simp) (by simp) (sm.trans sm1) hb hp⟩⟩
              · have hn1 : 1 ≤ n := lexOne_pos h1 (by simp) h2
                rw [decide_eq_false (fun z => by have z1 := V.int.inj z; omega)]
                refine iteF ?_
                have hn2 : j + n ≤ (tl row).length := by omega
                obtain ⟨d0, hd0, hd02⟩ := at_some (row := row) (i := j + n - 1) (by omega)
                have hl0 := last_at (l := tl row) (i := j) hn1 hd0
                rw [hd] at hl0
                have htl := tok_last h1 h2 hl0
                have hsub : (((j + n : Nat) : Int) - 1) = ((j + n - 1 : Nat) : Int) := by omega
                have hdd : (c :: (tl row).drop (j + 1)).drop n = (tl row).drop (j + n) := by rw [← hd, List.drop_drop]
                refine ⟨fun σ' H'' => σ' = [some (.ref a), some (.ref fo), some (.int (i : Int)), some (.str row), some (.int (j : Int)), some (.int ((j + n : Nat) : Int))] ∧ H'' = H1 ∧ ∃ vs, LexR (i + 1) (j + n) ((c :: (tl row).drop (j + 1)).drop n) er vs ∧ w2 = ⟨i + 1, j + 1, so, S ((c :: (tl row).drop (j + 1)).take n)⟩ :: vs, ?_, ?_⟩
                · refine ⟨_, rfl, _, rfl, _, _, rfl, rfl, row, _, d0, rfl, rfl, hsz, by rw [hsub]; exact hd02, rfl, _, rfl, rfl, True.intro, _, rfl, ?_⟩
                  rw [show Txt.isalnum (S [d0]) = isAl d0 from an1 (hpa d0 (List.mem_of_getElem? hd0))]
                  cases hal : isAl d0 with
                  | false =>
                    refine iteF ?_
                    rcases hrest with ⟨hz2, _⟩ | ⟨r1, r2, r3⟩
                    · exact absurd (htl.mpr hz2) (by rw [hal]; decide)
                    · exact ⟨rfl, rfl, r3⟩
                  | true =>
                    refine iteT ⟨_, rfl, _, rfl, _, rfl, _, rfl, _, _, rfl, rfl, _, rfl, row, rfl, hsz, rfl, _, rfl, rfl, True.intro, _, rfl, ?_⟩
                    by_cases hlt2 : j + n < (tl row).length
                    · obtain ⟨d, hd1, _⟩ := at_some hlt2
                      have hhead : ((c :: (tl row).drop (j + 1)).drop n).head? = some d := by rw [hdd, drop_cons hd1]; rfl
                      rw [one_at hd1, an1 (hpa d (List.mem_of_getElem? hd1))]
                      rcases hrest with ⟨_, ⟨d', hd3, hd4⟩, herr, _⟩ | ⟨r1, r2, r3⟩
                      · rw [hhead] at hd3
                        cases hd3
                        rw [hd4]
                        exact iteT ⟨_, rfl, _, _, rfl, rfl, _, rfl, _, _, rfl, rfl, szS (by simp), fun b hb => ⟨szS (by simp), fun p hp => bad _ _ b p H1 herr (by simp) (by simp) (sm.trans sm1) hb hp⟩⟩
                      · rw [r2 (htl.mp hal) d hhead]
                        exact iteF ⟨rfl, rfl, r3⟩
                    · rw [one_end (by omega), an0]
                      refine iteF ?_
                      rcases hrest with ⟨_, ⟨d', hd3, hd4⟩, herr, _⟩ | ⟨r1, r2, r3⟩
                      · rw [hdd, List.drop_eq_nil_of_le (by omega)] at hd3
                        cases hd3
                      · exact ⟨rfl, rfl, r3⟩
                · rintro σ' H'' ⟨rfl, rfl, vs, h6, rfl⟩
                  have ecut : cutS row (some (j : Int)) (some ((j + n : Nat) : Int)) = S ((c :: (tl row).drop (j + 1)).take n) := by rw [cut_at row j (j + n) (by omega) (by omega), hd, show j + n - j = n by omega]
                  refine ⟨_, rfl, .inl ⟨rfl, _, .of hf1⟩, _, rfl, _, _, rfl, rfl, _, rfl, _, _, rfl, rfl, szS (by simp), fun b hb => ?_⟩
                  have smb := same_new (o := HO.tup [V.int ((i : Int) + 1), V.int ((j : Int) + 1)]) hb
                  refine ⟨_, rfl, _, rfl, _, rfl, _, rfl, _, rfl, row, rfl, hsz, so, c, n, (tl row).drop (j + 1), (by rw [ecut] <;> rfl), h1, h2, by omega, fun d hd5 => hpa d (List.mem_of_mem_drop (by rw [hd]; exact hd5)), fun H3 sm3 => ?_⟩
                  refine ⟨_, rfl, _, rfl, _, rfl, _, rfl, _, rfl, row, rfl, hsz, szS (by simp), fun t ht => ?_⟩
                  have smt := same_new (o := HO.tup [V.ref b, V.str so, V.str (cutS row (some (j : Int)) (some ((j + n : Nat) : Int)))]) ht
                  have hf3 := smt _ _ (sm3 _ _ (smb _ _ hf1))
                  have hb3 := sm3 _ _ (upd_same (H := H'') (a := b) (o := HO.tup [V.int ((i : Int) + 1), V.int ((j : Int) + 1)]))
                  have nft : fo ≠ t := ne_of_none (sm3 _ _ (smb _ _ hf1)) ht
                  have nfb : fo ≠ b := ne_of_none hf1 hb
                  have nbt : b ≠ t := ne_of_none hb3 ht
                  refine ⟨fo, us, .ref t, rfl, rfl, hf3, szL (by omega), _, rfl, j + n, _, us ++ [.ref t], w1 ++ [⟨i + 1, j + 1, so, S ((c :: (tl row).drop (j + 1)).take n)⟩], vs, by omega, rfl, same_mut (sm.trans (sm1.trans (smb.trans (sm3.trans smt)))) hfo, upd_same, ?_, ?_, fun z => by rw [hw z]; simp, by omega, by rw [List.length_append]; simp; omega⟩
                  · refine Paired.snoc (pt_but (pt_same hp (sm1.trans (smb.trans (sm3.trans smt)))) (But.upd (But.refl _ _)) hf3) ⟨t, b, rfl, ?_, ?_⟩
                    · rw [upd_ne nft.symm, upd_same, ecut]
                    · rw [upd_ne nfb.symm, upd_ne nbt, hb3]
                      rfl
                  · rw [hdd] at h6
                    exact h6
      · have e1 : ¬ (j : Int) < (row.length : Int) := fun z => e (decide_eq_true z)
        have ej : j = (tl row).length := by rw [hrl] at e1; omega
        refine iteF ?_
        have et2 : er = none ∧ w2 = [] := by
          rw [ej, List.drop_length] at hl
          cases hl with
          | fin => exact ⟨rfl, rfl⟩
          | tok h1 => exact absurd rfl h1
          | none h1 => exact absurd rfl h1
          | glued h1 => exact absurd rfl h1
        exact fin et2.1 et2.2
    · obtain ⟨y2, y3, y4, y5, us, t1, t2, rfl, sm, hf, hp, hl, hts, hu⟩ := hP
      rw [List.length_map, List.drop_length] at hl
      cases hl
      have hts2 := hts rfl
      rw [List.append_nil] at hts2
      subst hts2
      refine ⟨_, rfl, szS (by simp), fun p hp2 => q _ _ (sm.trans (same_new hp2)) ⟨p, fo, us, rfl, upd_same, (same_new hp2) _ _ hf, pt_same hp (same_new hp2)⟩⟩
end
end Sw
set_option Elab.async false
set_option pp.maxSteps 600
set_option pp.deepTerms false
set_option linter.all false
set_option maxRecDepth 100000
set_option maxHeartbeats 4000000
namespace Sw
open PySem PySem.Spec PyProof.Rows L2 SX
/-! ### what the program's readers say -/
theorem takes_none {X : Cx} : Takes X (fun _ _ _ _ => False) := fun _ _ ⟨_, _, _, _, _, _, _, _, _, _, _, _, _, _, _, _, w⟩ => w.elim
theorem putF_skip {g f : Str} {x v : V} {r : List (Str × V)} (h : g ≠ f) : putF f v ((g, x) :: r) = (g, x) :: putF f v r := if_neg h
section
variable {P : Program} {w : World} {K : PySem.W.Frag} {mg : Str → Option Value} {base : Heap}
def spLayInit (K : PySem.W.Frag) : Sp := fun vs H Q _ => ∃ (x dx : Addr), vs = [.ref x] ∧ H x = some (.ins (He.ga K "Laying") dx []) ∧
  ∀ t p l H', H t = none → H p = none → H l = none → t ≠ p → t ≠ l → p ≠ l → But x H H' → H' x = some (.ins (He.ga K "Laying") dx [(("told" : Str), V.ref t), ("pile", .ref p), ("lets", .ref l), ("opener", .str "text"), ("line", .int 0)]) → H' t = some (.lst []) → H' p = some (.lst []) → H' l = some (.lst []) → Q .non H'
theorem ok_Laying_init (T : Txt K mg) : FnOk P w K mg base (L2.CX P w) 1 (He.ma K (He.ga K "Laying") "__init__") (fdAt K (He.ma K (He.ga K "Laying") "__init__")) ["self"] (spLayInit K) := by
  refine T.d_Laying_init.fn.ok sc_Laying_init (fun vs H Q E h => ?_) (fun cdv A outer s H vs Q E hr h => ?_)
  · obtain ⟨_, _, rfl, _⟩ := h
    rfl
  · obtain ⟨x, dx, rfl, hx, q⟩ := h
    refine ⟨_, PSs.nox (pss_cons (ps_fld (pv 0) (pe_lst pa_nil) rfl)
      (pss_cons (ps_fld (pv 0) (pe_lst pa_nil) rfl)
      (pss_cons (ps_fld (pv 0) (pe_lst pa_nil) rfl)
      (pss_cons (ps_fld (pv 0) pe_str rfl)
      (pss_one (ps_fld (pv 0) pe_int rfl)))))), ?_⟩
    have C := T.cl_Laying
    have A1 := T.na_Laying
    have n1 : ("told" : Str) ≠ "pile" := by decide +kernel
    have n2 : ("told" : Str) ≠ "lets" := by decide +kernel
    have n3 : ("told" : Str) ≠ "opener" := by decide +kernel
    have n4 : ("told" : Str) ≠ "line" := by decide +kernel
    have n5 : ("pile" : Str) ≠ "lets" := by decide +kernel
    have n6 : ("pile" : Str) ≠ "opener" := by decide +kernel
    have n7 : ("pile" : Str) ≠ "line" := by decide +kernel
    have n8 : ("lets" : Str) ≠ "opener" := by decide +kernel
    have n9 : ("lets" : Str) ≠ "line" := by decide +kernel
    have n10 : ("opener" : Str) ≠ "line" := by decide +kernel
    refine ⟨szS (by simp), fun t ht => ⟨_, rfl, x, _, dx, [], rfl, (same_new ht) _ _ hx, C, A1 _ (by simp), by simp, ?_⟩⟩
    have xt : x ≠ t := ne_of_none hx ht
    refine ⟨szS (by simp), fun p hp => ⟨_, rfl, x, _, dx, _, rfl, (same_new hp) _ _ upd_same, C, A1 _ (by simp), (show 1 < 1000 by decide), ?_⟩⟩
    have xp : x ≠ p := fun z => by rw [← z, upd_same] at hp; cases hp
    have tp : t ≠ p := fun z => by rw [← z, upd_ne xt.symm, upd_same] at hp; cases hp
    have hp0 : H p = none := by rw [upd_ne xp.symm, upd_ne tp.symm] at hp; exact hp
    refine ⟨szS (by simp), fun l hl => ⟨_, rfl, x, _, dx, _, rfl, (same_new hl) _ _ upd_same, C, A1 _ (by simp), by rw [show putF "pile" (V.ref p) (putF "told" (V.ref t) []) = [(("told" : Str), V.ref t), ("pile", .ref p)] from putF_skip n1]; exact (show 2 < 1000 by decide), ?_⟩⟩
    rw [show putF "pile" (V.ref p) (putF "told" (V.ref t) []) = [(("told" : Str), V.ref t), ("pile", .ref p)] from putF_skip n1] at hl ⊢
    have xl : x ≠ l := fun z => by rw [← z, upd_same] at hl; cases hl
    have pl : p ≠ l := fun z => by rw [← z, upd_ne xp.symm, upd_same] at hl; cases hl
    have tl' : t ≠ l := fun z => by rw [← z, upd_ne xt.symm, upd_ne tp, upd_ne xt.symm, upd_same] at hl; cases hl
    have hl0 : H l = none := by rw [upd_ne xl.symm, upd_ne pl.symm, upd_ne xl.symm, upd_ne tl'.symm] at hl; exact hl
    have e3 : putF "lets" (V.ref l) [(("told" : Str), V.ref t), ("pile", .ref p)] = [(("told" : Str), V.ref t), ("pile", .ref p), ("lets", .ref l)] := by rw [putF_skip n2, putF_skip n5]; rfl
    have e4 : putF "opener" (V.str "text") [(("told" : Str), V.ref t), ("pile", .ref p), ("lets", .ref l)] = [(("told" : Str), V.ref t), ("pile", .ref p), ("lets", .ref l), ("opener", .str "text")] := by rw [putF_skip n3, putF_skip n6, putF_skip n8]; rfl
    have e5 : putF "line" (V.int 0) [(("told" : Str), V.ref t), ("pile", .ref p), ("lets", .ref l), ("opener", .str "text")] = [(("told" : Str), V.ref t), ("pile", .ref p), ("lets", .ref l), ("opener", .str "text"), ("line", .int 0)] := by rw [putF_skip n4, putF_skip n7, putF_skip n9, putF_skip n10]; rfl
    rw [e3]
    refine ⟨_, rfl, x, _, dx, _, rfl, upd_same, C, A1 _ (by simp), (show 3 < 1000 by decide), ?_⟩
    rw [e4]
    refine ⟨_, rfl, x, _, dx, _, rfl, upd_same, C, A1 _ (by simp), (show 4 < 1000 by decide), ?_⟩
    rw [e5]
    refine q t p l _ ht hp0 hl0 tp tl' pl ?_ upd_same ?_ ?_ ?_
    · intro b o hb ho
      have b1 : b ≠ t := ne_of_none ho ht
      have b2 : b ≠ p := ne_of_none ho hp0
      have b3 : b ≠ l := ne_of_none ho hl0
      rw [upd_ne hb, upd_ne hb, upd_ne hb, upd_ne b3, upd_ne hb, upd_ne b2, upd_ne hb, upd_ne b1]
      exact ho
    · rw [upd_ne xt.symm, upd_ne xt.symm, upd_ne xt.symm, upd_ne tl', upd_ne xt.symm, upd_ne tp, upd_ne xt.symm, upd_same]
    · rw [upd_ne xp.symm, upd_ne xp.symm, upd_ne xp.symm, upd_ne pl, upd_ne xp.symm, upd_same]
    · rw [upd_ne xl.symm, upd_ne xl.symm, upd_ne xl.symm, upd_same]
def spLaidE (K : PySem.W.Frag) : Sp := fun vs H Q E => ∃ (a : Addr) (rows : List Str) (q : Nat × Nat) (ts : List Tk), vs = [.ref a] ∧ SqL K H a (rows.map V.str) ∧ rows.length ≤ 200 ∧ (∀ r ∈ rows, (tl r).length ≤ 300) ∧ LexE 1 rows (some q) ts ∧
  ∀ d H', H d = none → Same H H' → PlaceAt H' d q → E (.ref (He.ga K "NoSign")) (some d) H'
theorem ok_laid (T : Txt K mg) : FnOk P w K mg base (L2.CX P w) 5 (He.ga K "laid") (fdAt K (He.ga K "laid")) ["text"] (spLaidE K) := by
  refine T.d_laid.fn.ok sc_laid (fun vs H Q E h => ?_) (fun cdv A outer s H vs Q E hr h => ?_)
  · obtain ⟨_, _, _, _, rfl, _⟩ := h
    rfl
  · obtain ⟨a, rows, q0, ts, rfl, hS, hn, hz, hL, qe⟩ := h
    refine ⟨_, (pss_cons (ps_set (i := 1) sc_laid.nd rfl (.inl rfl) (pe_make0 T.mk_Laying (ok_Laying_init T) (hr.mono (by decide)) (by rfl) T.g_Laying T.d_Laying_init.b .nil passL))
      (pss_cons (ps_set (i := 2) sc_laid.nd rfl (.inl rfl) (pe_call (ok_lexemes T) (hr.mono (by decide)) (by rfl) T.d_lexemes.g T.d_lexemes.fn.kp T.d_lexemes.b .nil (passes_call (takes_of rfl rfl rfl rfl) (fun _ _ _ _ h => h)) (pa_cons (pv 0) pa_nil)))
      pss_never)), ?_⟩
    intro x dx hx hdx ne
    have s1 : Same H (upd (upd H dx (.own x)) x (.ins (He.ga K "Laying") dx [])) := (same_new hdx).trans (same_new (by rw [upd_ne ne.symm]; exact hx))
    refine ⟨x, dx, rfl, upd_same, fun t p l H' ht hp hl _ _ _ bt hx' ht' hp' hl' => ⟨rfl, ?_⟩⟩
    have s2 : Same H H' := fun b o ho => bt b o (ne_of_none ho hx) (s1 b o ho)
    exact ⟨_, rfl, a, rows, some q0, ts, rfl, s2.seq hS, hn, hz, hL, (fun z => by cases z), fun q' z d H2 hd sm2 hx2 => by
      cases z
      exact qe d H2 (s2.free hd) (s2.trans sm2) hx2⟩
def spTold (K : PySem.W.Frag) : Sp := fun vs H Q _ => ∃ (way : Nat) (a : Addr) (rows : List Str) (e : Option (Nat × Nat)) (ts : List Tk), vs = [.int (way : Int), .ref a] ∧ SqL K H a (rows.map V.str) ∧ rows.length ≤ 200 ∧ (∀ r ∈ rows, (tl r).length ≤ 300) ∧ LexE 1 rows e ts ∧ (way ≠ 0 → e ≠ none) ∧
  ∀ v H', Same H H' → Due H' v e ts → Q v H'
theorem ok_L_told (T : Txt K mg) : FnOk P w K mg base (L2.CX P w) 6 (He.ga K "_law_told") (fdAt K (He.ga K "_law_told")) ["_law_way", "_law_lines"] (spTold K) := by
  refine T.d_L_told.fn.ok sc_L_told (fun vs H Q E h => ?_) (fun cdv A outer s H vs Q E hr h => ?_)
  · obtain ⟨_, _, _, _, _, rfl, _⟩ := h
    rfl
  · obtain ⟨way, a, rows, err, ts, rfl, hS, hn, hz, hL, hw, q⟩ := h
    refine ⟨_, PSs.nox (pss_cons (ps_set (i := 2) sc_L_told.nd rfl (.inl rfl) pe_non)
      (pss_cons (ps_set (i := 3) sc_L_told.nd rfl (.inl rfl) pe_non)
      (pss_cons (ps_try_keep (i := 4) rfl rfl sc_L_told.nd rfl rfl ⟨by rfl, by decide, .inl T.g_SlumberError⟩ takes_none (fun W pn xe tkw ownw => (pss_one (ps_if (pt_cmpR op_eq (pv 0) pe_int (nomark _))
        (pss_one (ps_set (i := 3) sc_L_told.nd rfl (.inl rfl) (pe_callS (E := WE W) (ok_lexemes T) (hr.mono (by decide)) (by rfl) T.d_lexemes.g T.d_lexemes.fn.kp T.d_lexemes.b (fun σ => passAt tkw σ) (pa_cons (pv 1) pa_nil))))
        (pss_one (ps_set (i := 3) sc_L_told.nd rfl (.inl rfl) (pe_callN0S (E := WE W) (ok_laid T) (hr.mono (by decide)) (by rfl) T.d_laid.g T.d_laid.fn.kp T.k_laid (fun σ => passAt tkw σ) (pk_cons (pv 1) pk_nil))))))) (fun a pn => (pss_one (ps_set (i := 2) sc_L_told.nd rfl (.inl rfl) (pv 4)))))
      (pss_cons (ps_if (pt_cmpR op_isN (pv 2) pe_non (nomark _))
        (pss_one (ps_ret (pe_lst (pa_cons pe_non (pa_cons (pv 3) pa_nil)))))
        pss_nil)
      (pss_cons (ps_if (pw_or (pt_not (pt_val (pe_callB call_isV (by rfl) T.b_isinstance (by decide +kernel) (pa_cons (pv 2) (pa_cons (pe_g (v := .ref (He.ga K "NoSign")) ⟨_, T.x_NoSign.g, rfl⟩) pa_nil))))) (pw_or1 (pt_not (pt_val (pe_callB call_isV (by rfl) T.b_isinstance (by decide +kernel) (pa_cons (pv 2) (pa_cons (pe_bltn (v := .ty "ValueError") (by rfl) T.b_ValueError (by decide +kernel) rfl) pa_nil))))))).pt
        (pss_one (ps_ret (pe_lst (pa_cons pe_str (pa_cons pe_non pa_nil)))))
        pss_nil)
      (pss_one (ps_ret (pe_lst (pa_cons (pe_xv (C := He.ga K "NoSign") T.x_NoSign.xf T.f_NoSign (pv 2)) (pa_cons pe_non pa_nil)))))))))), ?_⟩
    have good : ∀ (p : Addr) (H1 : Hp) (us : List V) (y4 : Option V), err = none → Same H H1 → H1 p = some (.lst us) → Paired (TkT H1) us ts → ∀ pp, H1 pp = none → Q (.ref pp) (upd H1 pp (.lst [.non, .ref p])) := fun p H1 us y4 e1 sm h1 h2 pp hpp => by
      refine q _ _ (sm.trans (same_new hpp)) ?_
      rw [e1]
      exact ⟨pp, p, us, rfl, upd_same, (same_new hpp) _ _ h1, pt_same h2 (same_new hpp)⟩
    have isx : ∀ {D : Ends}, True := fun {_} => trivial
    refine ⟨_, rfl, rfl, _, rfl, ite2 (fun e0 => ?_) (fun e0 => ?_)⟩
    · refine ⟨_, rfl, a, rows, err, ts, rfl, hS, hn, hz, hL, (fun e1 p H1 us hp sm hp1 hpp hl => ?_), (fun q0 e1 d H1 hd sm pl => ?_)⟩
      · refine ⟨_, rfl, rfl, _, rfl, iteT ⟨_, rfl, szS (by simp), fun pp hpp2 => good p H1 us none e1 sm hp1 hpp pp hpp2⟩⟩
      · obtain ⟨pa, hx1, hx2⟩ := pl
        refine ⟨true, T.m_NoSign, (fun _ x hx => ?_), fun z => by cases z⟩
        have sx := same_new (o := exV x (.ref (He.ga K "NoSign")) (some d)) hx
        have hx3 := sx _ _ hx1
        have hx4 := sx _ _ hx2
        refine ⟨_, rfl, _, rfl, rfl, _, rfl, iteF ?_⟩
        refine ⟨_, rfl, x, _, some d, _, _, true, rfl, upd_same, (fun dd z => by cases z; exact ⟨_, hx3⟩), T.x_NoSign.ec, (fun u r => r), T.k_NoSign, _, rfl, iteF ?_⟩
        refine ⟨_, rfl, x, _, some d, _, _, true, rfl, upd_same, (fun dd z => by cases z; exact ⟨_, hx3⟩), T.x_NoSign.ec, (fun u r => r), T.k_ValueError, _, rfl, iteF ?_⟩
        refine ⟨_, rfl, x, d, _, _, rfl, upd_same, hx3, rfl, szS (by simp), fun pp hpp => ?_⟩
        refine q _ _ (sm.trans (sx.trans (same_new hpp))) ?_
        rw [e1]
        exact ⟨pp, pa, rfl, upd_same, (same_new hpp) _ _ hx4⟩
    · have w0 : way ≠ 0 := fun z => e0 (by rw [z]; rfl)
      cases err with
      | none => exact absurd rfl (hw w0)
      | some q0 =>
        refine ⟨_, rfl, rfl, a, rows, q0, ts, rfl, hS, hn, hz, hL, fun d H1 hd sm pl => ?_⟩
        obtain ⟨pa, hx1, hx2⟩ := pl
        refine ⟨true, T.m_NoSign, (fun _ x hx => ?_), fun z => by cases z⟩
        have sx := same_new (o := exV x (.ref (He.ga K "NoSign")) (some d)) hx
        have hx3 := sx _ _ hx1
        have hx4 := sx _ _ hx2
        refine ⟨_, rfl, _, rfl, rfl, _, rfl, iteF ?_⟩
        refine ⟨_, rfl, x, _, some d, _, _, true, rfl, upd_same, (fun dd z => by cases z; exact ⟨_, hx3⟩), T.x_NoSign.ec, (fun u r => r), T.k_NoSign, _, rfl, iteF ?_⟩
        refine ⟨_, rfl, x, _, some d, _, _, true, rfl, upd_same, (fun dd z => by cases z; exact ⟨_, hx3⟩), T.x_NoSign.ec, (fun u r => r), T.k_ValueError, _, rfl, iteF ?_⟩
        refine ⟨_, rfl, x, d, _, _, rfl, upd_same, hx3, rfl, szS (by simp), fun pp hpp => ?_⟩
        refine q _ _ (sm.trans (sx.trans (same_new hpp))) ?_
        exact ⟨pp, pa, rfl, upd_same, (same_new hpp) _ _ hx4⟩
end
end Sw
set_option Elab.async false
set_option pp.maxSteps 600
set_option pp.deepTerms false
set_option linter.all false
set_option maxRecDepth 100000
set_option maxHeartbeats 4000000
namespace Sw
open PySem PySem.Spec PyProof.Rows L2 SX
theorem max_of : ∀ (ns : List Int), 0 < ns.length → ∃ m, m ∈ ns ∧ ∀ y ∈ ns, y ≤ m
  | [], h => by cases h
  | [a], _ => ⟨a, by simp, by simp⟩
  | a :: b :: r, _ => by
    obtain ⟨m, h1, h2⟩ := max_of (b :: r) (by simp)
    by_cases h : a ≤ m
    · refine ⟨m, List.mem_cons_of_mem _ h1, fun y hy => ?_⟩
      rcases List.mem_cons.mp hy with rfl | hy
      · exact h
      · exact h2 y hy
    · refine ⟨a, by simp, fun y hy => ?_⟩
      rcases List.mem_cons.mp hy with rfl | hy
      · exact Int.le_refl _
      · have := h2 y hy
        omega
theorem part_le (x y : Str) : ∀ part ∈ Txt.split x y, part.length ≤ x.length := by
  intro part hp
  unfold Txt.split at hp
  split at hp
  · rw [List.mem_singleton.mp hp]
    exact Nat.le_refl _
  · split at hp
    · rw [List.mem_singleton.mp hp]
      exact Nat.le_refl _
    · unfold Builtin.Str.partsBetween at hp
      obtain ⟨⟨i, j⟩, _, rfl⟩ := List.mem_map.mp hp
      show (x.cps.extract i j).size ≤ x.cps.size
      rw [Array.size_extract]
      omega
section
variable {P : Program} {w : World} {K : PySem.W.Frag} {mg : Str → Option Value} {base : Heap}
/-- any answer -/
def spBeyond (K : PySem.W.Frag) : Sp := fun vs H Q _ => ∃ (a : Addr) (rows : List Str), vs = [.ref a] ∧ SqL K H a (rows.map V.str) ∧ (∀ r ∈ rows, (tl r).length ≤ 300) ∧ ∀ b H', Same H H' → Q (.bl b) H'
theorem ok_L_beyond (T : Txt K mg) : FnOk P w K mg base (L2.CX P w) 1 (He.ga K "_law_beyond") (fdAt K (He.ga K "_law_beyond")) ["_law_lines"] (spBeyond K) := by
  refine T.d_L_beyond.fn.ok sc_L_beyond (fun vs H Q E h => ?_) (fun cdv A outer s H vs Q E hr h => ?_)
  · obtain ⟨_, _, rfl, _⟩ := h
    rfl
  · obtain ⟨a, rows, rfl, hS, hz, q⟩ := h
    refine ⟨_, PSs.nox (pss_cons (ps_for PassesOwn.never rfl (pi_list (pv 0)) (pg_name (i := 1) sc_L_beyond.nd rfl (.inl rfl))
        (pss_cons (ps_set (i := 2) sc_L_beyond.nd rfl (.inl rfl) (pe_split (pe_join pe_str (pe_lc (own := [("_law_sign", 3)]) (g := gName 3) rfl sc_L_beyond.nd (pi_str (pv 1)) (blkOk_by (own := [("_law_sign", 3)]) (N := ["_law_lines", "_law_line", "_law_digits", "_law_sign", "_law_part"]) (sc := defScope s_L_beyond) (by decide +kernel)) (fun _ _ _ _ _ => (pg_name (i := 3) sc_L_beyond.nd rfl (.inl rfl))) (fun _ _ _ _ _ => pts_nil) (fun _ _ _ _ _ => (pe_ix (r := rIxL K) ix_list (pe_lst (pa_cons pe_str (pa_cons (pv 3) pa_nil))) (pe_callTy call_int1 (by rfl) T.b_int (by decide +kernel) (pa_cons (pe_m0 PySem.F.slot_str_isdigit PySem.F.type_str_isdigit mt_isdigit (pv 3)) pa_nil)) (fun _ _ => rfl))))) pe_str))
      (pss_one (ps_if (pw_or (pt_cmpR op_gt (pe_callB call_len_str (by rfl) T.b_len PySem.boot_len (pa_cons (pv 1) pa_nil)) pe_int (nomark _)) (pw_or1 (pt_cmpR op_gt (pe_callB (cr_max rfl) (by rfl) T.b_max (by decide +kernel) (pa_cons (pe_lc (own := [("_law_part", 4)]) (g := gName 4) rfl sc_L_beyond.nd (pi_list (pv 2)) (blkOk_by (own := [("_law_part", 4)]) (N := ["_law_lines", "_law_line", "_law_digits", "_law_sign", "_law_part"]) (sc := defScope s_L_beyond) (by decide +kernel)) (fun _ _ _ _ _ => (pg_name (i := 4) sc_L_beyond.nd rfl (.inl rfl))) (fun _ _ _ _ _ => pts_nil) (fun _ _ _ _ _ => (pe_callB call_len_str (by rfl) T.b_len PySem.boot_len (pa_cons (pv 4) pa_nil)))) pa_nil)) pe_int (nomark _)))).pt
        (pss_one (ps_ret pe_bl))
        pss_nil))))
      (pss_one (ps_ret pe_bl))), ?_⟩
    refine ⟨_, rfl, a, rfl, ⟨_, hS⟩, ?_⟩
    refine for_list (K := K) (a := a) (xs := rows.map V.str) (fun i σ H' => ∃ y1 y2 y3 y4 : Option V, σ = [some (.ref a), y1, y2, y3, y4] ∧ Same H H')
      ⟨none, none, none, none, rfl, Same.refl _⟩ (fun i σ H' _ ⟨_, _, _, _, _, sm⟩ => sm.seq hS) ?_ ?_
    · rintro i x σ H1 hx ⟨y1, y2, y3, y4, rfl, sm⟩
      obtain ⟨row, hrow, rfl⟩ := List.mem_map.mp (List.mem_of_getElem? hx)
      have hlen := hz row hrow
      have hrl : row.length = (tl row).length := (tl_len row).symm
      -- the figures
      refine ⟨⟨_, rfl⟩, _, rfl, row, rfl, fun D hD => ?_⟩
      refine lc_it (walk_str (z := row)) (fun i H' => ∃ ys : List Str, H' D = some (.lst (ys.map V.str)) ∧ Same H1 H' ∧ ys.length = i ∧ ∀ y ∈ ys, y.length = 1)
        ⟨[], upd_same, same_new hD, rfl, fun _ h => by cases h⟩ (fun _ _ _ _ => True.intro) ?_ ?_
      · rintro j x H2 H3 hj ⟨ys, hD2, s2, hyl, hy1⟩ ⟨rfl, c, hc, rfl⟩
        refine ⟨rfl, _, rfl, szS (by simp), fun p hp => ?_⟩
        have s3 := same_new (o := HO.lst [V.str " ", V.str (S [c])]) hp
        refine ⟨_, rfl, ⟨_, rfl⟩, _, rfl, rfl, True.intro, .inr ⟨_, rfl, ?_⟩⟩
        have hj' : j < (tl row).length := by rw [← hrl]; exact hj
        have fin : ∀ y : Str, y.length = 1 → ∃ acc, upd H3 p (.lst [V.str " ", V.str (S [c])]) D = some (.lst acc) ∧ acc.length < sizeLine ∧ ∃ ys : List Str, upd (upd H3 p (.lst [V.str " ", V.str (S [c])])) D (.lst (acc ++ [V.str y])) D = some (.lst (ys.map V.str)) ∧ Same H1 (upd (upd H3 p (.lst [V.str " ", V.str (S [c])])) D (.lst (acc ++ [V.str y]))) ∧ ys.length = j + 1 ∧ ∀ y ∈ ys, y.length = 1 := fun y hy => by
          refine ⟨ys.map V.str, s3 _ _ hD2, szL (by rw [List.length_map]; omega), ys ++ [y], ?_, same_mut (s2.trans s3) hD, by rw [List.length_append, hyl]; rfl, fun z hz => ?_⟩
          · rw [upd_same, List.map_append]
            rfl
          · rcases List.mem_append.mp hz with hz | hz
            · exact hy1 z hz
            · have e : z = y := by simpa using hz
              rw [e]
              exact hy
        cases Txt.isdigit (S [c]) with
        | true => exact ⟨p, _, _, _, rfl, rfl, .of upd_same, rfl, fin _ rfl⟩
        | false => exact ⟨p, _, _, _, rfl, rfl, .of upd_same, rfl, fin _ (by decide +kernel)⟩
      · rintro H2 ⟨ys, hD2, s2, hyl, hy1⟩
        have hyl2 : ys.length = (tl row).length := hyl
        have hsum : ∀ l : List Str, (∀ y ∈ l, y.length = 1) → (l.map (·.length)).sum = l.length := fun l => by
          induction l with
          | nil => intro _; rfl
          | cons y l ih => intro h; rw [List.map_cons, List.sum_cons, ih fun z hz => h z (List.mem_cons_of_mem _ hz), h y (List.mem_cons_self ..), List.length_cons]; omega
        have hjl : (Txt.join "" ys).length ≤ 300 := by
          have h1 := StrLaws.join_length_le "" ys
          rw [hsum ys hy1, show ("" : Str).length = 0 by decide +kernel] at h1
          have h2 : (Txt.join "" ys) = Str.join "" ys := StrLaws.glued_eq_join "" ys
          rw [h2]
          omega
        refine ⟨_, D, ys, rfl, rfl, .inl (.of hD2), by rw [hsum ys hy1, show ("" : Str).length = 0 by decide +kernel]; omega, ?_⟩
        refine ⟨⟨_, rfl⟩, _, _, rfl, rfl, by decide +kernel, Nat.le_trans (show _ ≤ 302 by omega) (by decide), fun ps hps => ?_⟩
        have s3 := same_new (o := HO.lst ((Txt.split (Txt.join "" ys) " ").map V.str)) hps
        have hpos := split_pos (Txt.join "" ys) " "
        have hle := split_le (Txt.join "" ys) " "
        have hpsz : ∀ part ∈ Txt.split (Txt.join "" ys) " ", part.length ≤ sizeLine := fun part hp => by
          have := part_le _ _ part hp
          exact szS (by omega)
        generalize Txt.split (Txt.join "" ys) " " = parts at s3 hpos hle hpsz ⊢
        have hps3 : upd H2 ps (.lst (parts.map V.str)) ps = some (.lst (parts.map V.str)) := upd_same
        generalize upd H2 ps (.lst (parts.map V.str)) = H3 at s3 hps3 ⊢
        have sH : Same H H3 := sm.trans (s2.trans s3)
        refine ⟨_, rfl, row, rfl, szS (by omega), _, _, rfl, rfl, _, rfl, ite2 (fun _ => iteT (q _ _ sH)) (fun _ => ?_)⟩
        refine ⟨_, rfl, ps, rfl, ⟨_, .of hps3⟩, fun D2 hD2 => ?_⟩
        refine lc_list (K := K) (a := ps) (xs := parts.map V.str) (fun i H' => ∃ ns : List Int, H' D2 = some (.lst (ns.map V.int)) ∧ Same H3 H' ∧ ns.length = i)
          ⟨[], upd_same, same_new hD2, rfl⟩ (fun i H' _ ⟨_, _, s4, _⟩ => .of (s4 _ _ hps3)) ?_ ?_
        · rintro j x H4 hx ⟨ns, hD4, s4, hnl⟩
          obtain ⟨part, hpart, rfl⟩ := List.mem_map.mp (List.mem_of_getElem? hx)
          have hj : j < parts.length := by
            have := (List.getElem?_eq_some_iff.mp hx).1
            rw [List.length_map] at this
            exact this
          have hpl : part.length ≤ sizeLine := hpsz part hpart
          refine ⟨rfl, _, rfl, part, rfl, hpl, ns.map V.int, hD4, szL (by rw [List.length_map]; omega), ns ++ [(part.length : Int)], ?_, same_mut s4 hD2, by rw [List.length_append, hnl]; rfl⟩
          rw [upd_same, List.map_append]
          rfl
        · rintro H4 ⟨ns, hD4, s4, hnl⟩
          rw [List.length_map] at hnl
          refine ⟨D2, ns, rfl, .of hD4, by omega, fun m _ _ => ?_⟩
          refine ⟨_, _, rfl, rfl, _, rfl, ite2 (fun _ => q _ _ (sH.trans s4)) (fun _ => ⟨_, _, _, _, rfl, sH.trans s4⟩)⟩
    · rintro σ H' ⟨y1, y2, y3, y4, rfl, sm⟩
      exact q _ _ sm
end
end Sw
set_option Elab.async false
set_option pp.maxSteps 600
set_option pp.deepTerms false
set_option linter.all false
set_option maxRecDepth 100000
set_option maxHeartbeats 4000000
namespace Sw
open PySem PySem.Spec PyProof.Rows L2 SX
/-! ### rows, bent -/
theorem cut_ahead (z : Str) (i : Nat) : cutS z none (some (i : Int)) = S ((tl z).take i) := by
  unfold cutS
  have e2 := HT.sIx_nat z.length z.length i
  rw [e2, HT.sIx_none, ← tl_len z]
  show S (((tl z).drop 0).take (min i (tl z).length - 0)) = _
  rw [List.drop_zero, Nat.sub_zero]
  by_cases h : i ≤ (tl z).length
  · rw [Nat.min_eq_left h]
  · rw [Nat.min_eq_right (by omega), List.take_of_length_le (Nat.le_refl _), List.take_of_length_le (by omega)]
theorem cut_behind (z : Str) (i : Nat) : cutS z (some (i : Int)) none = S ((tl z).drop i) := by
  unfold cutS
  have e1 := HT.sIx_nat z.length 0 i
  rw [e1, HT.sIx_none, ← tl_len z]
  show S (((tl z).drop (min i (tl z).length)).take ((tl z).length - min i (tl z).length)) = _
  by_cases h : i ≤ (tl z).length
  · rw [Nat.min_eq_left h, List.take_of_length_le (by rw [List.length_drop]; exact Nat.le_refl _)]
  · rw [Nat.min_eq_right (by omega), List.drop_length, List.take_nil, List.drop_eq_nil_of_le (by omega)]
theorem S_app (a b : List Nat) : S a ++ S b = S (a ++ b) := by
  rw [← S_tl' (S a ++ S b), tl_app, tl_S, tl_S]
/-- rows of at most n ASCII signs -/
def RowsN (n : Nat) (rows : List Str) : Prop := ∀ r ∈ rows, (tl r).length ≤ n ∧ ∀ c ∈ tl r, c < 128
def BENDS : List Nat := tl "!>?,.[]{}AzB09 &:@~x1="
theorem bends_ok : BENDS.length = 22 ∧ ∀ c ∈ BENDS, c < 128 := by decide +kernel
theorem strOk_sort {c : Nat} {r : List Nat} {so : Str} {n : Nat} (h : lexOne (c :: r) = (so, n)) (hn : so ≠ "none") : PyData.strOk so = true := by
  rcases tok_shape h hn with ⟨rfl, _⟩ | ⟨rfl, _⟩ | ⟨rfl, _⟩ | ⟨rfl, _⟩
  · decide +kernel
  · decide +kernel
  · split <;> decide +kernel
  · decide +kernel
theorem lexR_ok {num i : Nat} {s : List Nat} {e : Option (Nat × Nat)} {ts : List Tk} (h : LexR num i s e ts) (hs : ∀ c ∈ s, c < 128) : TsOk ts := by
  induction h with
  | fin _ => intro t ht; cases ht
  | blank _ ih => exact ih fun c hc => hs c (List.mem_cons_of_mem _ hc)
  | @tok i s e ts so n h1 h2 h3 h4 h5 h6 h7 h8 h9 ih =>
    intro t ht
    rcases List.mem_cons.mp ht with rfl | ht
    · refine ⟨?_, strOk_of fun c hc => ?_⟩
      · cases s with
        | nil => exact absurd rfl h1
        | cons c r => exact strOk_sort h4 h5
      · rw [tl_S] at hc
        exact hs c (List.mem_of_mem_take hc)
    · exact ih (fun c hc => hs c (List.mem_of_mem_drop hc)) t ht
  | none _ _ _ _ => intro t ht; cases ht
  | glued _ _ _ _ _ _ _ _ _ => intro t ht; cases ht
theorem lexE_ok : ∀ {n : Nat} {rows : List Str} {e : Option (Nat × Nat)} {ts : List Tk}, LexE n rows e ts → (∀ r ∈ rows, ∀ c ∈ tl r, c < 128) → TsOk ts
  | _, _, _, _, .nil, _ => fun t ht => by cases ht
  | _, _, _, _, .cons h1 h2, h => fun t ht => by
    rcases List.mem_append.mp ht with ht | ht
    · exact lexR_ok h1 (h _ (List.mem_cons_self ..)) t ht
    · exact lexE_ok h2 (fun r hr => h r (List.mem_cons_of_mem _ hr)) t ht
  | _, _, _, _, .bad _, _ => fun t ht => by cases ht
/-! ### what is due, as data -/
def DueD (e : Option (Nat × Nat)) (ts : List Tk) : PyData := match e with
  | none => .list [.none, .list (ts.map tkD)]
  | some q => .list [.tuple [.int (q.1 : Int), .int (q.2 : Int)], .none]
theorem shp_due {e : Option (Nat × Nat)} {ts : List Tk} (h : TsOk ts) : SeqAt.shaped (DueD e ts) = true := by
  cases e with
  | none =>
    have h1 := dep_tks ts
    have h2 := lay_tks h
    show (PyData.canLay0 (.list [.none, .list (ts.map tkD)]) && decide (PyData.depth (.list [.none, .list (ts.map tkD)]) ≤ 64)) = true
    rw [Bool.and_eq_true, decide_eq_true_iff]
    refine ⟨by simp [PyData.canLay0, PyData.canLayAll0, h2], ?_⟩
    simp only [PyData.depth, PyData.depthAll]
    omega
  | some q => 
    show (PyData.canLay0 (.list [.tuple [.int (q.1 : Int), .int (q.2 : Int)], .none]) && decide (PyData.depth (.list [.tuple [.int (q.1 : Int), .int (q.2 : Int)], .none]) ≤ 64)) = true
    rw [Bool.and_eq_true, decide_eq_true_iff]
    refine ⟨by simp [PyData.canLay0, PyData.canLayAll0], ?_⟩
    simp only [PyData.depth, PyData.depthAll]
    omega
theorem shp_rows {n : Nat} {rows : List Str} (h : RowsN n rows) : SeqAt.shaped (.list (rows.map PyData.str)) = true := by
  have h1 := dep_strs rows
  have h2 : PyData.depth (.list (rows.map PyData.str)) ≤ 64 := by
    simp only [PyData.depth]
    omega
  have h3 : ∀ {rows : List Str}, RowsN n rows → PyData.canLayAll0 (rows.map PyData.str) = true := fun {rows} => by
    induction rows with
    | nil => intro _; rfl
    | cons r rows ih =>
      intro h
      have h1 : PyData.strOk r = true := strOk_of (h r (List.mem_cons_self ..)).2
      have h2 := ih fun x hx => h x (List.mem_cons_of_mem _ hx)
      simp [PyData.canLayAll0, PyData.canLay0, h1, h2]
  show (PyData.canLay0 (.list (rows.map PyData.str)) && decide (PyData.depth (.list (rows.map PyData.str)) ≤ 64)) = true
  rw [Bool.and_eq_true]
  exact ⟨by simp only [PyData.canLay0]; exact h3 h, decide_eq_true h2⟩
section
variable {P : Program} {w : World} {K : PySem.W.Frag} {mg : Str → Option Value} {base : Heap}
theorem dp_due {H : Hp} {v : V} {e : Option (Nat × Nat)} {ts : List Tk} (h : Due H v e ts) : Dp K H v (DueD e ts) := by
  cases e with
  | none =>
    obtain ⟨p, fo, us, rfl, h1, h2, h3⟩ := h
    exact .lst (.of h1) (.cons .non (.cons (.lst (.of h2) (dp_tks h3)) .nil))
  | some q =>
    obtain ⟨p, b, rfl, h1, h2⟩ := h
    exact .lst (.of h1) (.cons (.tup (.of h2) (.cons (.int _) (.cons (.int _) .nil))) (.cons .non .nil))
theorem Due.same {H H' : Hp} {v : V} {e : Option (Nat × Nat)} {ts : List Tk} (h : Due H v e ts) (s : Same H H') : Due H' v e ts := by
  cases e with
  | none =>
    obtain ⟨p, fo, us, rfl, h1, h2, h3⟩ := h
    exact ⟨p, fo, us, rfl, s _ _ h1, s _ _ h2, pt_same h3 s⟩
  | some q =>
    obtain ⟨p, b, rfl, h1, h2⟩ := h
    exact ⟨p, b, rfl, s _ _ h1, s _ _ h2⟩
def spBent : Sp := fun vs H Q _ => ∃ (pu : Addr) (line : Str) (n : Nat), vs = [.ref pu, .str line] ∧ PuOk H pu n ∧ n ≤ 100000 ∧ (tl line).length ≤ 290 ∧ (∀ c ∈ tl line, c < 128) ∧
  ∀ H' line', But pu H H' → PuOk H' pu (n + 3) → (tl line').length ≤ (tl line).length + 1 → (∀ c ∈ tl line', c < 128) → Q (.str line') H'
theorem ok_L_bent (T : Txt K mg) : FnOk P w K mg base (L2.CX P w) 3 (He.ga K "_law_bent") (fdAt K (He.ga K "_law_bent")) ["_law_purse_here", "_law_line"] spBent := by
  refine T.d_L_bent.fn.ok sc_L_bent (fun vs H Q E h => ?_) (fun cdv A outer s H vs Q E hr h => ?_)
  · obtain ⟨_, _, _, rfl, _⟩ := h
    rfl
  · obtain ⟨pu, line, n, rfl, hp, hn, hl, hc, q⟩ := h
    refine ⟨_, PSs.nox (pss_cons (ps_set (i := 2) sc_L_bent.nd rfl (.inl rfl) (pe_call (ok_L_take T) (hr.mono (by decide)) (by rfl) T.d_L_take.g T.d_L_take.fn.kp T.d_L_take.b .nil passL (pa_cons (pv 0) (pa_cons (pe_op op_add (pe_callB call_len_str (by rfl) T.b_len PySem.boot_len (pa_cons (pv 1) pa_nil)) pe_int) pa_nil))))
      (pss_cons (ps_set (i := 3) sc_L_bent.nd rfl (.inl rfl) (pe_ix ix_str pe_str (pe_call (ok_L_take T) (hr.mono (by decide)) (by rfl) T.d_L_take.g T.d_L_take.fn.kp T.d_L_take.b .nil passL (pa_cons (pv 0) (pa_cons pe_int pa_nil))) (fun _ _ => rfl)))
      (pss_cons (ps_set (i := 4) sc_L_bent.nd rfl (.inl rfl) (pe_call (ok_L_take T) (hr.mono (by decide)) (by rfl) T.d_L_take.g T.d_L_take.fn.kp T.d_L_take.b .nil passL (pa_cons (pv 0) (pa_cons pe_int pa_nil))))
      (pss_cons (ps_if (pt_cmpR op_eq (pv 4) pe_int (nomark _))
        (pss_one (ps_ret (pe_op op_add_str (pe_slice sl_str (pv 1) po_none (po_some (pv 2))) (pe_slice sl_str (pv 1) (po_some (pe_op op_add (pv 2) pe_int)) po_none))))
        pss_nil)
      (pss_cons (ps_if (pt_cmpR op_eq (pv 4) pe_int (nomark _))
        (pss_one (ps_ret (pe_op op_add_str (pe_op op_add_str (pe_slice sl_str (pv 1) po_none (po_some (pv 2))) (pv 3)) (pe_slice sl_str (pv 1) (po_some (pv 2)) po_none))))
        pss_nil)
      (pss_one (ps_ret (pe_op op_add_str (pe_op op_add_str (pe_slice sl_str (pv 1) po_none (po_some (pv 2))) (pv 3)) (pe_slice sl_str (pv 1) (po_some (pe_op op_add (pv 2) pe_int)) po_none))))))))), ?_⟩
    have hrl : line.length = (tl line).length := (tl_len line).symm
    have hsz : line.length ≤ sizeLine := by rw [hrl]; exact szS (by omega)
    refine ⟨_, rfl, _, rfl, line, rfl, hsz, _, _, rfl, rfl, pu, (line.length : Int) + 1, n, rfl, by omega, by omega, hp, by omega, fun r1 H1 r10 r11 bt1 fr1 hp1 => ?_⟩
    obtain ⟨at1, rfl⟩ := Int.eq_ofNat_of_zero_le r10
    have hat : at1 ≤ (tl line).length := by omega
    refine ⟨_, rfl, pu, 22, n + 1, rfl, by decide, by decide, hp1, by omega, fun r2 H2 r20 r21 bt2 fr2 hp2 => ?_⟩
    obtain ⟨i2, rfl⟩ := Int.eq_ofNat_of_zero_le r20
    have hi2 : i2 < BENDS.length := by rw [bends_ok.1]; omega
    obtain ⟨c, hc1⟩ : ∃ c, BENDS[i2]? = some c := ⟨_, List.getElem?_eq_getElem hi2⟩
    have hc2 : c < 128 := bends_ok.2 c (List.mem_of_getElem? hc1)
    refine ⟨_, _, c, rfl, rfl, szS (by decide), atI_nat hc1, ?_⟩
    refine ⟨_, rfl, pu, 3, n + 1 + 1, rfl, by decide, by decide, hp2, by omega, fun r3 H3 r30 r31 bt3 fr3 hp3 => ?_⟩
    have bt := bt1.trans (bt2.trans bt3)
    have fin : ∀ (l1 l2 : List Nat) (m : Str), m = S l1 ++ S l2 → l1.length + l2.length ≤ (tl line).length + 1 → (∀ d ∈ l1, d < 128) → (∀ d ∈ l2, d < 128) → Q (.str m) H3 := fun l1 l2 m e h1 h2 h3 => by
      subst e
      refine q H3 _ bt (hp3.mono (by omega)) ?_ ?_
      · rw [tl_app, tl_S, tl_S, List.length_append]
        exact h1
      · rw [tl_app, tl_S, tl_S]
        intro d hd
        rcases List.mem_append.mp hd with hd | hd
        · exact h2 d hd
        · exact h3 d hd
    have ht : ((tl line).take at1).length = at1 := by rw [List.length_take]; omega
    have hm1 : ∀ d ∈ (tl line).take at1, d < 128 := fun d hd => hc d (List.mem_of_mem_take hd)
    have hm2 : ∀ k, ∀ d ∈ (tl line).drop k, d < 128 := fun k d hd => hc d (List.mem_of_mem_drop hd)
    have hcat : S ((tl line).take at1) ++ S [c] = S ((tl line).take at1 ++ [c]) := S_app _ _
    have e1 := cut_ahead line at1
    have e2 := cut_behind line at1
    have e3 : cutS line (some ((at1 : Int) + 1)) none = S ((tl line).drop (at1 + 1)) := cut_behind line (at1 + 1)
    have hl1 : ∀ k, ((tl line).drop k).length = (tl line).length - k := fun k => List.length_drop
    refine ⟨_, rfl, rfl, _, rfl, ite2 (fun _ => ?_) (fun _ => ?_)⟩
    · refine ⟨_, rfl, _, rfl, _, rfl, line, rfl, hsz, _, rfl, _, rfl, _, _, rfl, rfl, _, rfl, line, rfl, hsz, _, _, rfl, rfl, ?_, fin _ _ _ (by rw [e1, e3]) ?_ hm1 (hm2 _)⟩
      · rw [e1, e3, S_len, S_len, ht, hl1]
        exact szS (by omega)
      · rw [ht, hl1]
        omega
    · refine ⟨_, rfl, rfl, _, rfl, ite2 (fun _ => ?_) (fun _ => ?_)⟩
      · refine ⟨_, rfl, _, rfl, _, rfl, line, rfl, hsz, _, rfl, _, _, rfl, rfl, ?_, _, rfl, _, rfl, _, rfl, line, rfl, hsz, _, _, rfl, rfl, ?_, fin ((tl line).take at1 ++ [c]) _ _ (by rw [e1, e2, ← hcat]) ?_ ?_ (hm2 _)⟩
        · rw [e1, S_len, ht]
          exact szS (by show at1 + 1 ≤ _; omega)
        · rw [e1, e2, show (S ((tl line).take at1) ++ (⟨#[c]⟩ : Str)) = _ from hcat, S_len, S_len, List.length_append, ht, hl1]
          exact szS (by show at1 + 1 + ((tl line).length - at1) ≤ _; omega)
        · rw [List.length_append, ht, hl1]
          show at1 + 1 + ((tl line).length - at1) ≤ _
          omega
        · intro d hd
          rcases List.mem_append.mp hd with hd | hd
          · exact hm1 d hd
          · rw [List.mem_singleton.mp hd]
            exact hc2
      · refine ⟨_, rfl, _, rfl, _, rfl, line, rfl, hsz, _, rfl, _, _, rfl, rfl, ?_, _, rfl, _, rfl, _, _, rfl, rfl, _, rfl, line, rfl, hsz, _, _, rfl, rfl, ?_, fin ((tl line).take at1 ++ [c]) _ _ (by rw [e1, e3, ← hcat]) ?_ ?_ (hm2 _)⟩
        · rw [e1, S_len, ht]
          exact szS (by show at1 + 1 ≤ _; omega)
        · rw [e1, e3, show (S ((tl line).take at1) ++ (⟨#[c]⟩ : Str)) = _ from hcat, S_len, S_len, List.length_append, ht, hl1]
          exact szS (by show at1 + 1 + ((tl line).length - (at1 + 1)) ≤ _; omega)
        · rw [List.length_append, ht, hl1]
          show at1 + 1 + ((tl line).length - (at1 + 1)) ≤ _
          omega
        · intro d hd
          rcases List.mem_append.mp hd with hd | hd
          · exact hm1 d hd
          · rw [List.mem_singleton.mp hd]
            exact hc2
def spRight (K : PySem.W.Frag) : Sp := fun vs H Q _ => ∃ (a : Addr) (rows : List Str), vs = [.ref a] ∧ SqL K H a (rows.map V.str) ∧ rows.length ≤ 200 ∧ RowsN 300 rows ∧ ∀ H', Same H H' → Q (.bl true) H'
theorem ok_L_right (T : Txt K mg) : FnOk P w K mg base (L2.CX P w) 7 (He.ga K "_law_right") (fdAt K (He.ga K "_law_right")) ["_law_lines"] (spRight K) := by
  refine T.d_L_right.fn.ok sc_L_right (fun vs H Q E h => ?_) (fun cdv A outer s H vs Q E hr h => ?_)
  · obtain ⟨_, _, rfl, _⟩ := h
    rfl
  · obtain ⟨a, rows, rfl, hS, hn, hro, q⟩ := h
    refine ⟨_, PSs.nox (pss_cons (ps_if (pt_val (pe_call (ok_L_beyond T) (hr.mono (by decide)) (by rfl) T.d_L_beyond.g T.d_L_beyond.fn.kp T.d_L_beyond.b .nil passL (pa_cons (pv 0) pa_nil)))
        (pss_one (ps_ret pe_bl))
        pss_nil)
      (pss_cons (ps_set (i := 1) sc_L_right.nd rfl (.inl rfl) (pe_callTy call_list_of (by rfl) T.b_list (by decide +kernel) (pa_cons (pv 0) pa_nil)))
      (pss_cons (ps_set (i := 2) sc_L_right.nd rfl (.inl rfl) (pe_call (ok_L_own T) (hr.mono (by decide)) (by rfl) T.d_L_own.g T.d_L_own.fn.kp T.d_L_own.b .nil passL (pa_cons (pv 0) pa_nil)))
      (pss_cons (ps_if (pw_or (pt_cmpR (op_neD (units64 hr)) (pe_call (ok_L_told T) (hr.mono (by decide)) (by rfl) T.d_L_told.g T.d_L_told.fn.kp T.d_L_told.b .nil passL (pa_cons pe_int (pa_cons (pv 0) pa_nil))) (pv 2) (nomark _)) (pw_or1 (pt_cmpR (op_neD (units64 hr)) (pv 0) (pv 1) (nomark _)))).pt
        (pss_one (ps_ret pe_bl))
        pss_nil)
      (pss_one (ps_ret (pe_or (pe_cmpR op_isN (pe_ix ix_list (pv 2) pe_int (fun _ _ => rfl)) pe_non (nomark _)) (pe_one (pe_cmpR (op_eqD (units64 hr)) (pe_call (ok_L_told T) (hr.mono (by decide)) (by rfl) T.d_L_told.g T.d_L_told.fn.kp T.d_L_told.b .nil passL (pa_cons pe_int (pa_cons (pv 0) pa_nil))) (pv 2) (nomark _)))))))))), ?_⟩
    obtain ⟨e, ts, hL⟩ := lexE_some rows 1
    have hl3 : ∀ r ∈ rows, (tl r).length ≤ 300 := fun r hr => (hro r hr).1
    have hasc : ∀ r ∈ rows, ∀ c ∈ tl r, c < 128 := fun r hr => (hro r hr).2
    have hts := lexE_ok hL hasc
    have sd := shp_due (e := e) hts
    have sr := shp_rows hro
    refine ⟨_, rfl, a, rows, rfl, hS, hl3, fun b H1 s1 => ⟨_, rfl, ite2 (fun _ => q _ s1) (fun _ => ?_)⟩⟩
    refine ⟨_, rfl, a, _, rfl, .inl (s1.seq hS), fun hd hhd => ?_⟩
    have s2 := s1.trans (same_new (o := HO.lst (rows.map V.str)) hhd)
    have hhd2 : upd H1 hd (.lst (rows.map V.str)) hd = some (.lst (rows.map V.str)) := upd_same
    generalize upd H1 hd (.lst (rows.map V.str)) = H2 at s2 hhd2 ⊢
    refine ⟨_, rfl, a, rows, e, ts, rfl, s2.seq hS, hn, hl3, hasc, hL, fun vd H3 s3 hdue => ?_⟩
    refine ⟨_, rfl, 0, a, rows, e, ts, rfl, (s2.trans s3).seq hS, hn, hl3, hL, (fun z => absurd rfl z), fun vt H4 s4 htold => ?_⟩
    have hdue4 := hdue.same s4
    refine ⟨_, rfl, _, _, dp_due htold, dp_due hdue4, sd, sd, _, rfl, ?_⟩
    rw [eqv_self sd]
    refine iteF ⟨_, rfl, _, rfl, _, _, .lst ((s2.trans (s3.trans s4)).seq hS) (dp_strs rows), .lst (.of ((s3.trans s4) _ _ hhd2)) (dp_strs rows), sr, sr, _, rfl, ?_⟩
    rw [eqv_self sr]
    refine iteF ?_
    have s04 : Same H H4 := s2.trans (s3.trans s4)
    cases e with
    | none =>
      obtain ⟨p, fo, us, rfl, h1, h2, h3⟩ := hdue4
      exact ⟨_, rfl, p, _, 0, _, rfl, rfl, .of h1, rfl, rfl, _, rfl, iteT (q _ s04)⟩
    | some q0 =>
      obtain ⟨p, b, rfl, h1, h2⟩ := _root_.id hdue4
      refine ⟨_, rfl, p, _, 0, _, rfl, rfl, .of h1, rfl, rfl, _, rfl, iteF ?_⟩
      refine ⟨_, rfl, 1, a, rows, some q0, ts, rfl, s04.seq hS, hn, hl3, hL, (fun _ z => by cases z), fun vt H5 s5 htold5 => ?_⟩
      refine ⟨_, rfl, _, _, dp_due htold5, dp_due (hdue4.same s5), sd, sd, ?_⟩
      rw [eqv_self sd]
      exact q _ (s04.trans s5)
end
end Sw
set_option Elab.async false
set_option pp.maxSteps 600
set_option pp.deepTerms false
set_option linter.all false
set_option maxRecDepth 100000
set_option maxHeartbeats 4000000
namespace Sw
open PySem PySem.Spec PyProof.Rows L2 SX
def SOME : List Str := ["01", "0a", "x1", "aB", "AB", "Aa1", "abcdefghi", "Abcdefghi", "1x", "x >", "a . b", "<--x", "- -> -->"]
theorem some_ok : ∀ r ∈ SOME, (tl r).length ≤ 20 ∧ ∀ c ∈ tl r, c < 128 := by decide +kernel
theorem fx_ok : (tl "f x = 1").length ≤ 20 ∧ ∀ c ∈ tl "f x = 1", c < 128 := by decide +kernel
theorem bb_ok : tl "  " = [32, 32] := by decide +kernel
theorem ixN_nat {n k : Nat} (h : k < n) : ixN n (k : Int) = some k := by
  unfold ixN
  rw [if_pos (by omega), if_pos (by omega)]; simp
section
variable {P : Program} {w : World} {K : PySem.W.Frag} {mg : Str → Option Value} {base : Heap}
def spLaw (K : PySem.W.Frag) : Sp := fun vs H Q _ => ∃ (a : Addr) (ns : List Int), vs = [.ref a] ∧ SqL K H a (ns.map V.int) ∧ ns.length ≤ 63 ∧ ∀ H', Q (.bl true) H'
theorem ok_law (T : Txt K mg) : FnOk P w K mg base (L2.CX P w) 8 (He.ga K "law") (fdAt K (He.ga K "law")) ["_law_script"] (spLaw K) := by
  refine T.d_law.fn.ok sc_law (fun vs H Q E h => ?_) (fun cdv A outer s H vs Q E hr h => ?_)
  · obtain ⟨_, _, rfl, _⟩ := h
    rfl
  · obtain ⟨a, ns, rfl, hS, hlen, q⟩ := h
    refine ⟨_, PSs.nox (pss_cons (ps_for PassesOwn.never rfl (pi_list (pe_op op_cat (pe_slice sl_list (pv 0) po_none (po_some pe_int)) (pe_lst (pa_cons (pe_call (ok_L_at T) (hr.mono (by decide)) (by rfl) T.d_L_at.g T.d_L_at.fn.kp T.d_L_at.b .nil passL (pa_cons (pv 0) (pa_cons pe_int pa_nil))) pa_nil)))) (pg_name (i := 1) sc_law.nd rfl (.inl rfl))
        (pss_cons (ps_set (i := 2) sc_law.nd rfl (.inl rfl) (pe_call (ok_L_purse T) (hr.mono (by decide)) (by rfl) T.d_L_purse.g T.d_L_purse.fn.kp T.d_L_purse.b .nil passL (pa_cons (pv 1) (pa_cons pe_int pa_nil))))
      (pss_cons (ps_asg (pe_call (ok_L_rows T) (hr.mono (by decide)) (by rfl) T.d_L_rows.g T.d_L_rows.fn.kp T.d_L_rows.b .nil passL (pa_cons (pv 2) (pa_cons (pe_op op_add pe_int (pe_call (ok_L_take T) (hr.mono (by decide)) (by rfl) T.d_L_take.g T.d_L_take.fn.kp T.d_L_take.b .nil passL (pa_cons (pv 2) (pa_cons pe_int pa_nil)))) pa_nil))) (pg_lst rfl (pgs_cons (pg_name (i := 3) sc_law.nd rfl (.inl rfl)) (pgs_cons (pg_name (i := 4) sc_law.nd rfl (.inl rfl)) pgs_nil))))
      (pss_cons (ps_for PassesOwn.never rfl (pi_range1 (by rfl) T.b_range (pa_cons (pe_op op_add pe_int (pe_call (ok_L_take T) (hr.mono (by decide)) (by rfl) T.d_L_take.g T.d_L_take.fn.kp T.d_L_take.b .nil passL (pa_cons (pv 2) (pa_cons pe_int pa_nil)))) pa_nil)) (pg_name (i := 5) sc_law.nd rfl (.inl rfl))
        (pss_cons (ps_set (i := 6) sc_law.nd rfl (.inl rfl) (pe_call (ok_L_take T) (hr.mono (by decide)) (by rfl) T.d_L_take.g T.d_L_take.fn.kp T.d_L_take.b .nil passL (pa_cons (pv 2) (pa_cons (pe_callB call_len_seq (by rfl) T.b_len PySem.boot_len (pa_cons (pv 3) pa_nil)) pa_nil))))
      (pss_one (ps_asg (pe_call (ok_L_bent T) (hr.mono (by decide)) (by rfl) T.d_L_bent.g T.d_L_bent.fn.kp T.d_L_bent.b .nil passL (pa_cons (pv 2) (pa_cons (pe_ix ix_list (pv 3) (pv 6) (fun _ _ => rfl)) pa_nil))) (pg_sub (pv 3) (pv 6) set_list)))))
      (pss_one (ps_if (pt_not (pt_val (pe_call (ok_L_right T) (hr.mono (by decide)) (by rfl) T.d_L_right.g T.d_L_right.fn.kp T.d_L_right.b .nil passL (pa_cons (pv 3) pa_nil))))
        (pss_one (ps_ret pe_bl))
        pss_nil))))))
      (pss_cons (ps_set (i := 7) sc_law.nd rfl (.inl rfl) (pe_lst (pa_cons pe_str (pa_cons pe_str (pa_cons pe_str (pa_cons pe_str (pa_cons pe_str (pa_cons pe_str (pa_cons pe_str (pa_cons pe_str (pa_cons pe_str (pa_cons pe_str pa_nil))))))))))))
      (pss_cons (ps_for PassesOwn.never rfl (pi_list (pe_op op_cat (pv 7) (pe_lst (pa_cons pe_str (pa_cons pe_str (pa_cons pe_str pa_nil)))))) (pg_name (i := 8) sc_law.nd rfl (.inl rfl))
        (pss_one (ps_if (pw_or (pt_not (pt_val (pe_call (ok_L_right T) (hr.mono (by decide)) (by rfl) T.d_L_right.g T.d_L_right.fn.kp T.d_L_right.b .nil passL (pa_cons (pe_lst (pa_cons (pv 8) pa_nil)) pa_nil)))) (pw_or1 (pt_not (pt_val (pe_call (ok_L_right T) (hr.mono (by decide)) (by rfl) T.d_L_right.g T.d_L_right.fn.kp T.d_L_right.b .nil passL (pa_cons (pe_lst (pa_cons pe_str (pa_cons (pe_op op_add_str pe_str (pv 8)) pa_nil))) pa_nil)))))).pt
        (pss_one (ps_ret pe_bl))
        pss_nil)))
      (pss_one (ps_ret pe_bl))))), ?_⟩
    -- the cells
    refine ⟨_, rfl, 5, rfl, a, _, rfl, hS, fun p1 hp1 => ?_⟩
    refine ⟨_, rfl, a, ns, 2, rfl, (same_new hp1).seq hS, fun r => ?_⟩
    refine ⟨szS (by simp), fun p2 hp2 => ?_⟩
    have hcut : (cutV (ns.map V.int) none (some 5)).length ≤ 63 := Nat.le_trans (cutV_length _ _ _) (by rw [List.length_map]; exact hlen)
    refine ⟨p1, p2, _, _, rfl, rfl, (same_new hp2) _ _ upd_same, upd_same, szS (by simp; omega), fun p3 hp3 => ?_⟩
    have hint : ∀ v ∈ cutV (ns.map V.int) none (some 5) ++ [V.int r], ∃ i : Int, v = .int i := by
      intro v hv
      rcases List.mem_append.mp hv with hv | hv
      · have h1 : v ∈ ns.map V.int := List.mem_of_mem_drop (List.mem_of_mem_take hv)
        obtain ⟨i, _, e⟩ := List.mem_map.mp h1
        exact ⟨i, e.symm⟩
      · exact ⟨r, by simpa using hv⟩
    refine ⟨p3, rfl, ⟨_, .of upd_same⟩, ?_⟩
    generalize cutV (ns.map V.int) none (some 5) ++ [V.int r] = cells at hint ⊢
    have hc0 : (upd (upd (upd H p1 (.lst (cutV (ns.map V.int) none (some 5)))) p2 (.lst [V.int r])) p3 (.lst cells)) p3 = some (.lst cells) := upd_same
    generalize upd (upd (upd H p1 (.lst (cutV (ns.map V.int) none (some 5)))) p2 (.lst [V.int r])) p3 (.lst cells) = H0 at hc0 ⊢
    refine for_list (K := K) (a := p3) (xs := cells) (fun i σ H' => ∃ y1 y2 y3 y4 y5 y6 y7 y8 : Option V, σ = [some (.ref a), y1, y2, y3, y4, y5, y6, y7, y8] ∧ Same H0 H')
      ⟨none, none, none, none, none, none, none, none, rfl, Same.refl _⟩ (fun i σ H' _ ⟨_, _, _, _, _, _, _, _, _, sm⟩ => .of (sm _ _ hc0)) ?_ ?_
    · rintro i x σ H' hx ⟨y1, y2, y3, y4, y5, y6, y7, y8, rfl, sm⟩
      obtain ⟨c, rfl⟩ := hint x (List.mem_of_getElem? hx)
      -- a purse
      refine ⟨_, rfl, c, 2, rfl, by decide, by decide, fun pu H1 hpu0 s1 hpu => ?_⟩
      -- lines
      refine ⟨_, rfl, _, rfl, pu, 5, 0, rfl, by decide, by decide, hpu, by omega, fun r5 H2 r50 r51 bt2 fr2 hp2 => ?_⟩
      obtain ⟨k, rfl⟩ := Int.eq_ofNat_of_zero_le r50
      refine ⟨_, _, rfl, rfl, pu, k + 1, 1, by show [V.ref pu, V.int (1 + (k : Int))] = _; rw [show (1 + (k : Int)) = ((k + 1 : Nat) : Int) by omega], by omega, hp2, by omega, ?_⟩
      intro p la fo H3 rows ts us hp hla hfo bt3 hpu3 hrk hp3 hla3 hfo3 hpl hlex hrl hro hts hul
      have s3 : Same H' H3 := same_but s1 hpu0 (bt2.trans bt3)
      have nla : H' la = none := by
        have h2 : H2 la = none := hla
        have n1 : la ≠ pu := pu_ne hp2 h2
        exact s1.free (bt2.free n1 h2)
      have nlp : la ≠ pu := pu_ne hp2 hla
      refine ⟨p, _, rfl, .of hp3, rfl, _, _, rfl, _, _, rfl, rfl, ?_⟩
      -- turns
      refine ⟨_, rfl, pu, 3, 1 + 9000, rfl, by decide, by decide, hpu3, by omega, fun r3 H4 r30 r31 bt4 fr4 hp4 => ?_⟩
      obtain ⟨tn, rfl⟩ := Int.eq_ofNat_of_zero_le r30
      refine ⟨_, _, rfl, rfl, ((1 + tn : Nat) : Int), by show [V.int (1 + (tn : Int))] = _; rw [show (1 + (tn : Int)) = ((1 + tn : Nat) : Int) by omega], by omega, by omega, ?_⟩
      have s4 : Same H' H4 := same_but s3 hpu0 bt4
      have hla4 : H4 la = some (.lst (rows.map V.str)) := bt4 _ _ nlp hla3
      refine for_range (lo := 0) (n := ((1 + tn : Nat) : Int).toNat) (fun j σ H'' => ∃ (rows' : List Str) (y5 y6 : Option V), σ = [some (.ref a), some (.int c), some (.ref pu), some (.ref la), some (.ref fo), y5, y6, y7, y8] ∧ Same H' H'' ∧ PuOk H'' pu (9002 + 4 * j) ∧ H'' la = some (.lst (rows'.map V.str)) ∧ rows'.length = rows.length ∧ RowsN (200 + j) rows')
        ⟨rows, y5, y6, rfl, s4, hp4, hla4, rfl, hro⟩ ?_ ?_
      · rintro j σ H5 hj ⟨rows', z5, z6, rfl, s5, hp5, hla5, hrl5, hro5⟩
        have hr1 : 1 ≤ rows'.length := by omega
        refine ⟨_, rfl, _, rfl, la, _, rfl, .inl (.of hla5), pu, _, _, rfl, by rw [List.length_map]; omega, by rw [List.length_map]; omega, hp5, by omega, fun r6 H6 r60 r61 bt6 fr6 hp6 => ?_⟩
        rw [List.length_map] at r61
        obtain ⟨at1, rfl⟩ := Int.eq_ofNat_of_zero_le r60
        have hat : at1 < rows'.length := by omega
        have hla6 : H6 la = some (.lst (rows'.map V.str)) := bt6 _ _ nlp hla5
        have hget : (rows'.map V.str)[at1]? = some (.str rows'[at1]) := by rw [List.getElem?_map, List.getElem?_eq_getElem hat]; rfl
        have hrow := hro5 _ (List.getElem_mem hat)
        refine ⟨_, rfl, _, rfl, _, rfl, la, _, _, _, rfl, rfl, .of hla6, atI_nat hget, pu, rows'[at1], _, rfl, hp6, by omega, by omega, hrow.2, fun H7 line' bt7 hp7 hl7 hc7 => ?_⟩
        have hla7 : H7 la = some (.lst (rows'.map V.str)) := bt7 _ _ nlp hla6
        refine ⟨_, rfl, _, rfl, la, _, _, at1, rfl, rfl, hla7, ixN_nat (by rw [List.length_map]; exact hat), ?_⟩
        have hset : (rows'.map V.str).set at1 (.str line') = (rows'.set at1 line').map V.str := by rw [List.map_set]
        rw [hset]
        refine ⟨rows'.set at1 line', _, _, rfl, same_mut (same_but s5 hpu0 (bt6.trans bt7)) nla, ?_, upd_same, by rw [List.length_set]; exact hrl5, ?_⟩
        · exact (hp7.but (But.upd (But.refl la _)) nlp.symm).mono (by omega)
        · intro r hr
          rcases List.mem_or_eq_of_mem_set hr with hr | rfl
          · exact ⟨Nat.le_trans (hro5 r hr).1 (by omega), (hro5 r hr).2⟩
          · exact ⟨by omega, hc7⟩
      · rintro σ H5 ⟨rows', z5, z6, rfl, s5, hp5, hla5, hrl5, hro5⟩
        refine ⟨_, rfl, la, rows', rfl, .of hla5, by omega, fun r hr => ⟨Nat.le_trans (hro5 r hr).1 (by omega), (hro5 r hr).2⟩, fun H6 s6 => ⟨_, rfl, iteF ⟨_, _, _, _, _, _, _, _, rfl, sm.trans (s5.trans s6)⟩⟩⟩
    · rintro σ H' ⟨y1, y2, y3, y4, y5, y6, y7, y8, rfl, sm⟩
      refine ⟨szS (by simp), fun ps hps => ⟨_, rfl, szS (by simp), fun p2 hp2 => ?_⟩⟩
      refine ⟨ps, p2, _, _, rfl, rfl, (same_new hp2) _ _ upd_same, upd_same, szS (by simp), fun p3 hp3 => ⟨p3, rfl, ⟨_, .of upd_same⟩, ?_⟩⟩
      have hall : ∀ {H9 : Hp}, upd H9 p3 (.lst (SOME.map V.str)) p3 = some (.lst (SOME.map V.str)) := upd_same
      refine for_list (K := K) (a := p3) (xs := SOME.map V.str) (fun i σ H' => ∃ z8 : Option V, σ = [some (.ref a), y1, y2, y3, y4, y5, y6, some (.ref ps), z8] ∧ H' p3 = some (.lst (SOME.map V.str)))
        ⟨y8, rfl, upd_same⟩ (fun i σ H' _ ⟨_, _, h⟩ => .of h) ?_ ?_
      · rintro i x σ H1 hx ⟨z8, rfl, h1⟩
        obtain ⟨r, hr0, rfl⟩ := List.mem_map.mp (List.mem_of_getElem? hx)
        obtain ⟨hr1, hr2⟩ := some_ok r hr0
        have hrl : r.length = (tl r).length := (tl_len r).symm
        refine ⟨_, rfl, szS (by simp), fun pa hpa => ⟨pa, [r], rfl, .of upd_same, by simp, (fun x hx => by rw [List.mem_singleton.mp hx]; exact ⟨by omega, hr2⟩), fun H2 s2 => ⟨_, rfl, iteF ?_⟩⟩⟩
        refine ⟨_, rfl, _, _, rfl, rfl, szS (by rw [hrl, show ("  " : Str).length = 2 by decide +kernel]; omega), szS (by simp), fun pb hpb => ⟨pb, ["f x = 1", "  " ++ r], rfl, .of upd_same, by simp, ?_, fun H3 s3 => ⟨_, rfl, iteF ⟨_, rfl, ((same_new hpa).trans (s2.trans ((same_new hpb).trans s3))) _ _ h1⟩⟩⟩⟩
        intro x hx
        rcases List.mem_cons.mp hx with rfl | hx
        · exact ⟨Nat.le_trans fx_ok.1 (by decide), fx_ok.2⟩
        · rw [List.mem_singleton.mp hx, tl_app, bb_ok]
          refine ⟨by rw [List.length_append]; show 2 + _ ≤ 300; omega, fun c hc => ?_⟩
          rcases List.mem_append.mp hc with hc | hc
          · simp at hc
            omega
          · exact hr2 c hc
      · rintro σ H1 ⟨z8, rfl, h1⟩
        exact q H1
end
end Sw
set_option Elab.async false
set_option linter.all false
set_option maxRecDepth 100000
set_option maxHeartbeats 0
namespace Sw
open PySem PySem.Spec PyProof.Rows L2 SX
def h_L_mixed : He.DefD := ⟨("_law_mixed", none), "_law_mixed", "_law_mixed", defArgs s_L_mixed, defBody s_L_mixed, defScope s_L_mixed, [], []⟩
def h_L_purse : He.DefD := ⟨("_law_purse", none), "_law_purse", "_law_purse", defArgs s_L_purse, defBody s_L_purse, defScope s_L_purse, [], []⟩
def h_L_take : He.DefD := ⟨("_law_take", none), "_law_take", "_law_take", defArgs s_L_take, defBody s_L_take, defScope s_L_take, [], []⟩
def h_L_at : He.DefD := ⟨("_law_at", none), "_law_at", "_law_at", defArgs s_L_at, defBody s_L_at, defScope s_L_at, [], []⟩
def h_L_word : He.DefD := ⟨("_law_word", none), "_law_word", "_law_word", defArgs s_L_word, defBody s_L_word, defScope s_L_word, [], []⟩
def h_L_words : He.DefD := ⟨("_law_words", none), "_law_words", "_law_words", defArgs s_L_words, defBody s_L_words, defScope s_L_words, [], []⟩
def h_L_touches : He.DefD := ⟨("_law_touches", none), "_law_touches", "_law_touches", defArgs s_L_touches, defBody s_L_touches, defScope s_L_touches, [], []⟩
def h_L_grow : He.DefD := ⟨("_law_grow", none), "_law_grow", "_law_grow", defArgs s_L_grow, defBody s_L_grow, defScope s_L_grow, [], []⟩
def h_L_row : He.DefD := ⟨("_law_row", none), "_law_row", "_law_row", defArgs s_L_row, defBody s_L_row, defScope s_L_row, [], []⟩
def h_L_rows : He.DefD := ⟨("_law_rows", none), "_law_rows", "_law_rows", defArgs s_L_rows, defBody s_L_rows, defScope s_L_rows, [], []⟩
def h_L_own : He.DefD := ⟨("_law_own", none), "_law_own", "_law_own", defArgs s_L_own, defBody s_L_own, defScope s_L_own, [], []⟩
def h_L_end : He.DefD := ⟨("_law_end", none), "_law_end", "_law_end", defArgs s_L_end, defBody s_L_end, defScope s_L_end, [], []⟩
def h_L_sort : He.DefD := ⟨("_law_sort", none), "_law_sort", "_law_sort", defArgs s_L_sort, defBody s_L_sort, defScope s_L_sort, [], []⟩
def h_L_bent : He.DefD := ⟨("_law_bent", none), "_law_bent", "_law_bent", defArgs s_L_bent, defBody s_L_bent, defScope s_L_bent, [], []⟩
def h_L_told : He.DefD := ⟨("_law_told", none), "_law_told", "_law_told", defArgs s_L_told, defBody s_L_told, defScope s_L_told, [], []⟩
def h_L_beyond : He.DefD := ⟨("_law_beyond", none), "_law_beyond", "_law_beyond", defArgs s_L_beyond, defBody s_L_beyond, defScope s_L_beyond, [], []⟩
def h_L_right : He.DefD := ⟨("_law_right", none), "_law_right", "_law_right", defArgs s_L_right, defBody s_L_right, defScope s_L_right, [], []⟩
def h_law : He.DefD := ⟨("law", none), "law", "law", defArgs s_law, defBody s_law, defScope s_law, [], []⟩
def h_run_end : He.DefD := ⟨("run_end", none), "run_end", "run_end", defArgs s_run_end, defBody s_run_end, defScope s_run_end, [], []⟩
def h_lexeme_end : He.DefD := ⟨("lexeme_end", none), "lexeme_end", "lexeme_end", defArgs s_lexeme_end, defBody s_lexeme_end, defScope s_lexeme_end, [], []⟩
def h_row_lexemes : He.DefD := ⟨("row_lexemes", none), "row_lexemes", "row_lexemes", defArgs s_row_lexemes, defBody s_row_lexemes, defScope s_row_lexemes, [], []⟩
def h_lexemes : He.DefD := ⟨("lexemes", none), "lexemes", "lexemes", defArgs s_lexemes, defBody s_lexemes, defScope s_lexemes, [], []⟩
def h_laid : He.DefD := ⟨("laid", none), "laid", "laid", defArgs s_laid, defBody s_laid, defScope s_laid, [], []⟩
def h_NoSign_init : He.DefD := ⟨("NoSign", some "__init__"), "__init__", "NoSign.__init__", defArgs s_NoSign_init, defBody s_NoSign_init, defScope s_NoSign_init, [], []⟩
def h_Laying_init : He.DefD := ⟨("Laying", some "__init__"), "__init__", "Laying.__init__", defArgs s_Laying_init, defBody s_Laying_init, defScope s_Laying_init, [], []⟩
def hfn : List He.DefD := [h_L_mixed, h_L_purse, h_L_take, h_L_at, h_L_word, h_L_words, h_L_touches, h_L_grow, h_L_row, h_L_rows, h_L_own, h_L_end, h_L_sort, h_L_bent, h_L_told, h_L_beyond, h_L_right, h_law, h_run_end, h_lexeme_end, h_row_lexemes, h_lexemes, h_laid, h_NoSign_init, h_Laying_init]
def hloose : List Str := (["SlumberError", "NoSign", "SMALL", "GREAT", "FIGURES", "WORDS", "SIGNS", "MOST_LETTERS", "UNMARKED", "run_end", "lexeme_end", "row_lexemes", "lexemes", "Laying", "laid", "_law_mixed", "_law_purse", "_law_take", "_law_at", "_law_word", "_law_words", "_law_touches", "_law_grow", "_law_row", "_law_rows", "_law_own", "_law_end", "_law_sort", "_law_bent", "_law_told"] : List Str) ++ (["_law_beyond", "_law_right"] : List Str)
def hlaw : Nat := 35
/-! ### a Hook with one more look -/
abbrev AlZ : Type := He.AlD × Bool
def obsZ (n : Nat) (fa : List He.Fa) (fn : List He.DefD) (ex : PySem.W.Frag → Bool) (g : Addr → Option Obj) : AlZ := (He.obsD fa fn (He.frG g (He.asD g n)), ex (He.frG g (He.asD g n)))
def hookZ (n : Nat) (fa : List He.Fa) (fn : List He.DefD) (ex : PySem.W.Frag → Bool) : PySem.W.Hook where
  α := AlZ
  obs := fun s => obsZ n fa fn ex s.heap.get?
  val := fun _ => (He.valD fn, true)
  says := fun _ h => ∃ K : PySem.W.Frag, K.In h ∧ He.SaysD fa fn K ∧ ex K = true
  of := fun _ _ e => ⟨_, He.frG_in, congrArg (fun z : AlZ => z.1) e, congrArg (fun z : AlZ => z.2) e⟩
  keeps := fun _ _ _ ⟨K, hK, c⟩ k => ⟨K, PySem.W.Frag.In.keeps hK k, c⟩
theorem obsZ_eq {n : Nat} {fa : List He.Fa} {fn : List He.DefD} {ex : PySem.W.Frag → Bool} {g : Addr → Option Obj} {s : Shared} (h : ∀ a, g a = s.heap.get? a) : obsZ n fa fn ex g = (hookZ n fa fn ex).obs s := by
  have e : g = s.heap.get? := funext h
  rw [e] <;> rfl
/-! ### the head -/
def hfa : List He.Fa := [He.Fa.glo "_law_mixed", He.Fa.glo "_law_purse", He.Fa.glo "_law_take", He.Fa.glo "_law_at", He.Fa.glo "_law_word", He.Fa.glo "_law_words", He.Fa.glo "_law_touches", He.Fa.glo "_law_grow", He.Fa.glo "_law_row", He.Fa.glo "_law_rows", He.Fa.glo "_law_own", He.Fa.glo "_law_end", He.Fa.glo "_law_sort", He.Fa.glo "_law_bent", He.Fa.glo "_law_told", He.Fa.glo "_law_beyond", He.Fa.glo "_law_right", He.Fa.glo "law", He.Fa.glo "run_end", He.Fa.glo "lexeme_end", He.Fa.glo "row_lexemes", He.Fa.glo "lexemes", He.Fa.glo "laid", He.Fa.glo "NoSign", He.Fa.meth "Laying" "__init__", He.Fa.noat "NoSign" "place", He.Fa.glo "SlumberError", He.Fa.exm "NoSign" "SlumberError" true, He.Fa.cls "Laying", He.Fa.glo "Laying", He.Fa.mkr "Laying", He.Fa.noat "Laying" "told", He.Fa.noat "Laying" "pile", He.Fa.noat "Laying" "lets", He.Fa.noat "Laying" "opener", He.Fa.noat "Laying" "line", He.Fa.str "SMALL" "abcdefghijklmnopqrstuvwxyz", He.Fa.str "GREAT" "ABCDEFGHIJKLMNOPQRSTUVWXYZ", He.Fa.str "FIGURES" "0123456789", He.Fa.glo "WORDS", He.Fa.glo "SIGNS", He.Fa.int "MOST_LETTERS" 8, He.Fa.free "len", He.Fa.free "int", He.Fa.free "list", He.Fa.free "tuple", He.Fa.free "str", He.Fa.free "bool", He.Fa.free "range", He.Fa.free "enumerate", He.Fa.free "isinstance", He.Fa.free "max", He.Fa.free "ValueError"]
def hex (K : PySem.W.Frag) : Bool := exnB K "NoSign" && (decide (PySem.W.kitOne K (.ref (He.ga K "NoSign")) (.ref (He.ga K "NoSign")) = some true) && (decide (PySem.W.kitOne K (.ref (He.ga K "NoSign")) (.type "ValueError") = some true) && (He.tupB K "WORDS" [He.Dv.str "data", He.Dv.str "let", He.Dv.str "in", He.Dv.str "if", He.Dv.str "then", He.Dv.str "else", He.Dv.str "case", He.Dv.str "of", He.Dv.str "fun"] && (He.tupB K "SIGNS" [He.Dv.str "->", He.Dv.str "==", He.Dv.str "=", He.Dv.str "|", He.Dv.str "(", He.Dv.str ")", He.Dv.str "+", He.Dv.str "-", He.Dv.str "*", He.Dv.str "<", He.Dv.str "_"]))))
abbrev HR : PySem.W.OpenRow := PySem.W.OpenLaw.row PySem.Challenge.rw_slumberway_k02_where_no_lexeme_goes_on
abbrev hhk : PySem.W.Hook := hookZ 6 hfa hfn hex
def hob (s : PySem.W.SharedT) : AlZ := obsZ 6 hfa hfn hex (HandSHeadRun.getT s)
theorem hob_eq (s : PySem.W.SharedT) : hob s = hhk.obs s.abs := obsZ_eq (HandSHeadRun.getT_eq s)
theorem hrun (w : World) : HandSHeadRun.RunEq HR (PySem.W.view HR.prog [35]) hhk hob 4000 hloose w := by
  intro os
  kernel_rfl
/-- a law's end over a head by facts, what is let out hanging on the world -/
theorem walk_law {l : PySem.W.OpenLaw} {n k : Nat} {q : Program} {loose : List Str} {XP : (Str → Option Value) → Heap → Prop} {YP : World → Heap → Prop} {d : DefRec} {x : Str}
    (hn : l.most = some n) (hn2 : n ≤ sizeLine) (hdf : d.params.defaults = []) (hr : Room k callerA)
    (F : ∀ (w : World) (mg : Str → Option Value) (fa : Addr) (h : Heap), YP w h → h.Ns mainGlobals mg → mg d.name = some (.ref fa) →
      ∃ (K : PySem.W.Frag) (fd : FuncData) (sp : Sp), K.In h ∧ (∀ (s : Shared) (u : Value), BindsTo s fd ⟨[u], []⟩ [(x, u)]) ∧
        (∀ (H : Hp) (a : Addr) (ns : List Int), ns.length ≤ n → Only H → SqL K H a (ns.map V.int) → sp [.ref a] H (fun v _ => v = .bl true) fun _ _ _ => False) ∧
        ∀ base : Heap, K.In base → base.Ns mainGlobals mg → FnOk l.prog w K mg base (L2.CX l.prog w) k fa fd [x] sp) :
    PySem.W.WalkO q loose XP YP l.row.toRowW d [] (fun f vs => PySem.call f vs) := by
  refine Att.attach_call hn hdf fun w s₀ s₁ mg mb fa o pm cd doc a vs ns G Y ho hd hcd hmg hobj hints hlen hg => ?_
  obtain ⟨K, fd, sp, KX, hb, hsp, hF⟩ := F w mg fa _ Y G.T.g hmg
  refine law_call KX G.T.g G.T.b G.T.builtins G.T.nolimit hg hobj hints (Nat.le_trans hlen hn2) hr hF hb (fun H hO hS => hsp H a ns hlen hO hS) fun H e s' hx => ?_
  obtain ⟨_, _, _, _, _, _, _, _, _, _, _, _, z⟩ := hx
  exact z.elim
theorem txt_of {K : PySem.W.Frag} {h : Heap} {mg : Str → Option Value} (X : K.In h) (G : h.Ns mainGlobals mg) (c : He.SaysD hfa hfn K) (e : hex K = true) : Txt K mg := by
  obtain ⟨ex0, r0⟩ := He.ba e
  obtain ⟨ex1, r1⟩ := He.ba r0
  obtain ⟨ex2, r2⟩ := He.ba r1
  obtain ⟨ex3, r3⟩ := He.ba r2
  have ex4 := r3
  exact {
    d_L_mixed := by
      obtain ⟨fd, F⟩ := c.def_ 0 (d := h_L_mixed) rfl
      exact dfn_mk F (He.glo_ok X G (c.fact 0 (f := .glo "_law_mixed") rfl)) (fun _ _ _ _ _ _ us hl => match us, hl with | [_, _], _ => rfl)
    d_L_purse := by
      obtain ⟨fd, F⟩ := c.def_ 1 (d := h_L_purse) rfl
      exact dfn_mk F (He.glo_ok X G (c.fact 1 (f := .glo "_law_purse") rfl)) (fun _ _ _ _ _ _ us hl => match us, hl with | [_, _], _ => rfl)
    d_L_take := by
      obtain ⟨fd, F⟩ := c.def_ 2 (d := h_L_take) rfl
      exact dfn_mk F (He.glo_ok X G (c.fact 2 (f := .glo "_law_take") rfl)) (fun _ _ _ _ _ _ us hl => match us, hl with | [_, _], _ => rfl)
    d_L_at := by
      obtain ⟨fd, F⟩ := c.def_ 3 (d := h_L_at) rfl
      exact dfn_mk F (He.glo_ok X G (c.fact 3 (f := .glo "_law_at") rfl)) (fun _ _ _ _ _ _ us hl => match us, hl with | [_, _], _ => rfl)
    d_L_word := by
      obtain ⟨fd, F⟩ := c.def_ 4 (d := h_L_word) rfl
      exact dfn_mk F (He.glo_ok X G (c.fact 4 (f := .glo "_law_word") rfl)) (fun _ _ _ _ _ _ us hl => match us, hl with | [_], _ => rfl)
    d_L_words := by
      obtain ⟨fd, F⟩ := c.def_ 5 (d := h_L_words) rfl
      exact dfn_mk F (He.glo_ok X G (c.fact 5 (f := .glo "_law_words") rfl)) (fun _ _ _ _ _ _ us hl => match us, hl with | [], _ => rfl)
    d_L_touches := by
      obtain ⟨fd, F⟩ := c.def_ 6 (d := h_L_touches) rfl
      exact dfn_mk F (He.glo_ok X G (c.fact 6 (f := .glo "_law_touches") rfl)) (fun _ _ _ _ _ _ us hl => match us, hl with | [_, _, _], _ => rfl)
    d_L_grow := by
      obtain ⟨fd, F⟩ := c.def_ 7 (d := h_L_grow) rfl
      exact dfn_mk F (He.glo_ok X G (c.fact 7 (f := .glo "_law_grow") rfl)) (fun _ _ _ _ _ _ us hl => match us, hl with | [], _ => rfl)
    d_L_row := by
      obtain ⟨fd, F⟩ := c.def_ 8 (d := h_L_row) rfl
      exact dfn_mk F (He.glo_ok X G (c.fact 8 (f := .glo "_law_row") rfl)) (fun _ _ _ _ _ _ us hl => match us, hl with | [_, _, _], _ => rfl)
    d_L_rows := by
      obtain ⟨fd, F⟩ := c.def_ 9 (d := h_L_rows) rfl
      exact dfn_mk F (He.glo_ok X G (c.fact 9 (f := .glo "_law_rows") rfl)) (fun _ _ _ _ _ _ us hl => match us, hl with | [_, _], _ => rfl)
    d_L_own := by
      obtain ⟨fd, F⟩ := c.def_ 10 (d := h_L_own) rfl
      exact dfn_mk F (He.glo_ok X G (c.fact 10 (f := .glo "_law_own") rfl)) (fun _ _ _ _ _ _ us hl => match us, hl with | [_], _ => rfl)
    d_L_end := by
      obtain ⟨fd, F⟩ := c.def_ 11 (d := h_L_end) rfl
      exact dfn_mk F (He.glo_ok X G (c.fact 11 (f := .glo "_law_end") rfl)) (fun _ _ _ _ _ _ us hl => match us, hl with | [_, _], _ => rfl)
    d_L_sort := by
      obtain ⟨fd, F⟩ := c.def_ 12 (d := h_L_sort) rfl
      exact dfn_mk F (He.glo_ok X G (c.fact 12 (f := .glo "_law_sort") rfl)) (fun _ _ _ _ _ _ us hl => match us, hl with | [_], _ => rfl)
    d_L_bent := by
      obtain ⟨fd, F⟩ := c.def_ 13 (d := h_L_bent) rfl
      exact dfn_mk F (He.glo_ok X G (c.fact 13 (f := .glo "_law_bent") rfl)) (fun _ _ _ _ _ _ us hl => match us, hl with | [_, _], _ => rfl)
    d_L_told := by
      obtain ⟨fd, F⟩ := c.def_ 14 (d := h_L_told) rfl
      exact dfn_mk F (He.glo_ok X G (c.fact 14 (f := .glo "_law_told") rfl)) (fun _ _ _ _ _ _ us hl => match us, hl with | [_, _], _ => rfl)
    d_L_beyond := by
      obtain ⟨fd, F⟩ := c.def_ 15 (d := h_L_beyond) rfl
      exact dfn_mk F (He.glo_ok X G (c.fact 15 (f := .glo "_law_beyond") rfl)) (fun _ _ _ _ _ _ us hl => match us, hl with | [_], _ => rfl)
    d_L_right := by
      obtain ⟨fd, F⟩ := c.def_ 16 (d := h_L_right) rfl
      exact dfn_mk F (He.glo_ok X G (c.fact 16 (f := .glo "_law_right") rfl)) (fun _ _ _ _ _ _ us hl => match us, hl with | [_], _ => rfl)
    d_law := by
      obtain ⟨fd, F⟩ := c.def_ 17 (d := h_law) rfl
      exact dfn_mk F (He.glo_ok X G (c.fact 17 (f := .glo "law") rfl)) (fun _ _ _ _ _ _ us hl => match us, hl with | [_], _ => rfl)
    d_run_end := by
      obtain ⟨fd, F⟩ := c.def_ 18 (d := h_run_end) rfl
      exact dfn_mk F (He.glo_ok X G (c.fact 18 (f := .glo "run_end") rfl)) (fun _ _ _ _ _ _ us hl => match us, hl with | [_, _, _, _], _ => rfl)
    d_lexeme_end := by
      obtain ⟨fd, F⟩ := c.def_ 19 (d := h_lexeme_end) rfl
      exact dfn_mk F (He.glo_ok X G (c.fact 19 (f := .glo "lexeme_end") rfl)) (fun _ _ _ _ _ _ us hl => match us, hl with | [_, _], _ => rfl)
    d_row_lexemes := by
      obtain ⟨fd, F⟩ := c.def_ 20 (d := h_row_lexemes) rfl
      exact dfn_mk F (He.glo_ok X G (c.fact 20 (f := .glo "row_lexemes") rfl)) (fun _ _ _ _ _ _ us hl => match us, hl with | [_, _], _ => rfl)
    d_lexemes := by
      obtain ⟨fd, F⟩ := c.def_ 21 (d := h_lexemes) rfl
      exact dfn_mk F (He.glo_ok X G (c.fact 21 (f := .glo "lexemes") rfl)) (fun _ _ _ _ _ _ us hl => match us, hl with | [_], _ => rfl)
    d_laid := by
      obtain ⟨fd, F⟩ := c.def_ 22 (d := h_laid) rfl
      exact dfn_mk F (He.glo_ok X G (c.fact 22 (f := .glo "laid") rfl)) (fun _ _ _ _ _ _ us hl => match us, hl with | [_], _ => rfl)
    x_NoSign := by
      obtain ⟨fd, F⟩ := c.def_ 23 (d := h_NoSign_init) rfl
      exact exn_mk ex0 (He.glo_ok X G (c.fact 23 (f := .glo "NoSign") rfl)) F (fun _ _ _ _ _ _ us hl => match us, hl with | [_, _], _ => rfl)
    d_Laying_init := by
      obtain ⟨fd, F⟩ := c.def_ 24 (d := h_Laying_init) rfl
      exact mth_mk F (He.meth_ok (c.fact 24 (f := .meth "Laying" "__init__") rfl)) (fun _ _ _ _ _ _ us hl => match us, hl with | [_], _ => rfl)
    k_laid := by
      obtain ⟨fd, F⟩ := c.def_ 22 (d := h_laid) rfl
      have ef : fdAt K (He.ga K "laid") = fd := fdAt_eq F
      rw [ef]
      exact kbn0 F (fun us ws => us ++ ws) (fun r1 r2 => r1.append r2) (fun _ _ _ _ _ _ us ws h1 h2 => match us, h1, ws, h2 with | [], _, [_], _ => rfl)
    f_NoSign := He.noat_ok (c.fact 25 (f := .noat "NoSign" "place") rfl)
    g_SlumberError := He.glo_ok X G (c.fact 26 (f := .glo "SlumberError") rfl)
    m_NoSign := He.exm_ok (c.fact 27 (f := .exm "NoSign" "SlumberError" true) rfl)
    k_NoSign := of_decide_eq_true ex1
    k_ValueError := of_decide_eq_true ex2
    cl_Laying := He.cls_ok (c.fact 28 (f := .cls "Laying") rfl)
    g_Laying := He.glo_ok X G (c.fact 29 (f := .glo "Laying") rfl)
    mk_Laying := He.mkr_ok (c.fact 30 (f := .mkr "Laying") rfl)
    na_Laying := by
      intro f hf
      simp only [List.mem_cons, List.mem_nil_iff, or_false] at hf
      rcases hf with rfl | rfl | rfl | rfl | rfl
      · exact He.noat_ok (c.fact 31 (f := .noat "Laying" "told") rfl)
      · exact He.noat_ok (c.fact 32 (f := .noat "Laying" "pile") rfl)
      · exact He.noat_ok (c.fact 33 (f := .noat "Laying" "lets") rfl)
      · exact He.noat_ok (c.fact 34 (f := .noat "Laying" "opener") rfl)
      · exact He.noat_ok (c.fact 35 (f := .noat "Laying" "line") rfl)
    c_SMALL := by
      obtain ⟨t, q⟩ := He.str_ok X G (c.fact 36 (f := .str "SMALL" "abcdefghijklmnopqrstuvwxyz") rfl)
      exact ⟨_, q, ⟨t, rfl⟩⟩
    c_GREAT := by
      obtain ⟨t, q⟩ := He.str_ok X G (c.fact 37 (f := .str "GREAT" "ABCDEFGHIJKLMNOPQRSTUVWXYZ") rfl)
      exact ⟨_, q, ⟨t, rfl⟩⟩
    c_FIGURES := by
      obtain ⟨t, q⟩ := He.str_ok X G (c.fact 38 (f := .str "FIGURES" "0123456789") rfl)
      exact ⟨_, q, ⟨t, rfl⟩⟩
    c_WORDS := ⟨_, He.glo_ok X G (c.fact 39 (f := .glo "WORDS") rfl), rfl⟩
    t_WORDS := fun H => He.tupB_ok ex3 H
    c_SIGNS := ⟨_, He.glo_ok X G (c.fact 40 (f := .glo "SIGNS") rfl), rfl⟩
    t_SIGNS := fun H => He.tupB_ok ex4 H
    c_MOST_LETTERS := by
      obtain ⟨t, q⟩ := He.int_ok X G (c.fact 41 (f := .int "MOST_LETTERS" 8) rfl)
      exact ⟨_, q, ⟨t, rfl⟩⟩
    b_len := He.free_ok X G (c.fact 42 (f := .free "len") rfl)
    b_int := He.free_ok X G (c.fact 43 (f := .free "int") rfl)
    b_list := He.free_ok X G (c.fact 44 (f := .free "list") rfl)
    b_tuple := He.free_ok X G (c.fact 45 (f := .free "tuple") rfl)
    b_str := He.free_ok X G (c.fact 46 (f := .free "str") rfl)
    b_bool := He.free_ok X G (c.fact 47 (f := .free "bool") rfl)
    b_range := He.free_ok X G (c.fact 48 (f := .free "range") rfl)
    b_enumerate := He.free_ok X G (c.fact 49 (f := .free "enumerate") rfl)
    b_isinstance := He.free_ok X G (c.fact 50 (f := .free "isinstance") rfl)
    b_max := He.free_ok X G (c.fact 51 (f := .free "max") rfl)
    b_ValueError := He.free_ok X G (c.fact 52 (f := .free "ValueError") rfl) }
theorem hfacts {P : Program} {w : World} {K : PySem.W.Frag} {h : Heap} {mg : Str → Option Value} {f : Addr} (X : K.In h) (G : h.Ns mainGlobals mg) (hfa' : mg ("law" : Str) = some (.ref f)) (c : He.SaysD hfa hfn K) (e : hex K = true) :
    ∃ fd : FuncData, (∀ (s : Shared) (v : Value), BindsTo s fd ⟨[v], []⟩ [("_law_script", v)]) ∧ ∀ base : Heap, K.In base → base.Ns mainGlobals mg → FnOk P w K mg base (L2.CX P w) 8 f fd ["_law_script"] (spLaw K) := by
  have T := txt_of X G c e
  obtain ⟨fd, F⟩ := c.def_ 17 (d := h_law) rfl
  have ef : fdAt K (He.ga K "law") = fd := fdAt_eq F
  have eq := hfa'.symm.trans T.d_law.g
  cases eq
  have b := FunD.bindsA (ps := ["_law_script"]) F fun _ _ _ _ _ _ us hl => match us, hl with | [_], _ => rfl
  refine ⟨fd, fun s v => b s [v] rfl, fun base _ _ => ?_⟩
  rw [← ef]
  exact ok_law T
end Sw
open PySem PySem.W PySem.Calls PyProof.Rows
theorem PySem.Challenge.cw_slumberway_k02_where_no_lexeme_goes_on_holds : PySem.Challenge.rw_slumberway_k02_where_no_lexeme_goes_on.Holds := by
  w_on; o_law
  refine HandSHeadRun.head_any (r := OpenLaw.row PySem.Challenge.rw_slumberway_k02_where_no_lexeme_goes_on) (q := view (OpenLaw.row PySem.Challenge.rw_slumberway_k02_where_no_lexeme_goes_on).prog [35]) (H := Sw.hhk) (ob := Sw.hob) (M := 4000) (loose := Sw.hloose) (d := HandSHeadRun.topDef (OpenLaw.row PySem.Challenge.rw_slumberway_k02_where_no_lexeme_goes_on).prog 35) (kwd := []) Sw.hob_eq
    (by kernel_rfl) (fun s => by kernel_rfl) Sw.hrun (by kernel_rfl) (by kernel_rfl) (by kernel_rfl) (by rfl) (by first | assumption | decide +kernel) (by decide +kernel) ⟨rfl, rfl, rfl, rfl, rfl, by decide +kernel⟩ ?hw ?hc
  case hw => w_witness2
  case hc =>
    refine Sw.walk_law (l := PySem.Challenge.rw_slumberway_k02_where_no_lexeme_goes_on) (n := 63) (k := 8) (x := "_law_script") rfl (by decide) (by kernel_rfl) ⟨rfl, by decide, by decide⟩ ?F
    case F =>
      intro w mg fa h Y G hmg0
      obtain ⟨K, KX, c, ec⟩ := Y
      have hmg : mg ("law" : PySem.Str) = some (.ref fa) := by
        have e : (HandSHeadRun.topDef (OpenLaw.row PySem.Challenge.rw_slumberway_k02_where_no_lexeme_goes_on).prog 35).name = ("law" : PySem.Str) := by kernel_rfl
        rw [← e]
        exact hmg0
      obtain ⟨fd, hb, hF⟩ := Sw.hfacts (P := (PySem.Challenge.rw_slumberway_k02_where_no_lexeme_goes_on).prog) (w := w) KX G hmg c ec
      exact ⟨K, fd, Sw.spLaw K, KX, hb, fun H a ns hl _ hS => ⟨a, ns, rfl, hS, hl, fun _ => rfl⟩, hF⟩
