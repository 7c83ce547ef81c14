import PyProof.Rows.All
import Wide.All
import OpenK.AllK
import Wide.FinOn
import HandS.ForMost
import HandS.Exc
import HandS.Codes
import HandS.Wide
import HandS.StrMore
import HandS.Deep
import HandS.IsInst
import HandS.Defaults
import HandS.WordsExc
import HandS.Walk
import HandS.TryOnly
import HandS.HeadHook1
import HandS.HeadHook2
import HandS.ExcIs
import HandS.ExcInit
import HandS.ExcField
import HandS.Flow
import KE.KStateDown
import HandS.Head0
import HandS.Head1
import HandS.Head2
import HandS.HeadEnd
import PySem.Challenge.RW_slumberway_k03_layout
set_option Elab.async false
set_option linter.all false
set_option maxRecDepth 100000
set_option maxHeartbeats 4000000
namespace Sw
open PySem PySem.Spec PyProof.Rows L2 SX
/-! ### operators that the layer lacks -/
section
variable {X : Cx}
/-- a power of any base, of together at most 2 ^ 20 bits -/
def CPowW (i j : Int) : Prop := 0 ≤ j ∧ (Builtin.Int.intBits i : Int) * j ≤ 2 ^ 27
theorem op_powW : OpR X (binaryOp .Pow) (rI CPowW fun i j => .int (i ^ j.toNat)) := opI fun _ _ _ _ _ _ _ hc q => pow_int hc.1 hc.2 q
def blk (n : Nat) : List Nat := List.replicate n 32
/-- text * number -/
def rMulS : R2 := fun x y H Q => ∃ (l : List Nat) (n : Nat), x = .str (S l) ∧ y = .int (n : Int) ∧ l.length * n ≤ 100000 ∧ n ≤ 100000 ∧ Q (.str (S (List.replicate n l).flatten)) H
theorem foldl_cat (l : List Nat) : ∀ (n : Nat) (acc : Array Nat), (List.replicate n l.toArray).foldl (· ++ ·) acc = acc ++ ((List.replicate n l).flatten).toArray
  | 0, acc => by simp
  | n + 1, acc => by
    rw [List.replicate_succ, List.foldl_cons, foldl_cat l n, List.replicate_succ, List.flatten_cons]
    simp
theorem op_mulS : OpR X (binaryOp .Mult) rMulS := by
  intro pins s σ H x y v u Q I rx ry h
  obtain ⟨l, n, rfl, rfl, hl, hn, q⟩ := h
  obtain ⟨t, rfl⟩ := rx
  obtain ⟨t2, rfl⟩ := ry
  have e63 : (2 : Int) ^ 63 = 9223372036854775808 := by decide
  have hsl := sizeLine_eq
  refine PySem.P.mul_str ?_ ?_ ?_ ?_
  · rw [decide_eq_false (by rw [e63]; omega), decide_eq_false (by rw [e63]; omega)] <;> rfl
  · intro h1 _ h2
    have hn1 : 1 ≤ (n : Int) := by omega
    have h3 : (9223372036854775807 : Int) / (n : Int) < (l.length : Int) := by
      have h4 := h2
      rw [e63, S_len] at h4
      exact h4
    have h5 : (9223372036854775807 : Int) < (l.length : Int) * (n : Int) := (Int.ediv_lt_iff_lt_mul (by omega)).mp h3
    have h6 : ((l.length : Int) * (n : Int)) = ((l.length * n : Nat) : Int) := by rw [Int.natCast_mul]
    rw [h6] at h5
    omega
  · intro h1 _
    unfold Builtin.Str.tooLong
    rw [S_len, Int.toNat_natCast]
    exact decide_eq_false (by rw [hsl] <;> omega)
  · by_cases h1 : (n : Int) < 1
    · rw [if_pos h1]
      have e : n = 0 := by omega
      subst e
      exact ⟨by decide, .str (S []), H, I.tok _, ⟨_, rfl⟩, q⟩
    · rw [if_neg h1]
      by_cases h2 : ((n : Int) == 1 || (S l).length == 0) = true
      · rw [if_pos h2]
        have e : (List.replicate n l).flatten = l := by
          rcases Bool.or_eq_true_iff.mp h2 with h3 | h3
          · have h4 := beq_iff_eq.mp h3
            have e1 : n = 1 := by omega
            subst e1
            simp
          · have h4 := beq_iff_eq.mp h3
            rw [S_len] at h4
            have e1 : l = [] := List.length_eq_zero_iff.mp h4
            subst e1
            simp
        rw [e] at q
        exact ⟨.str (S l), H, I, ⟨_, rfl⟩, q⟩
      · rw [if_neg h2]
        refine ⟨?_, .str (S (List.replicate n l).flatten), H, I.tok _, ⟨s.toks, ?_⟩, q⟩
        · show (Str.mk ((List.replicate (n : Int).toNat l.toArray).foldl (· ++ ·) #[])).length ≤ sizeLine
          rw [Int.toNat_natCast, foldl_cat]
          show (#[] ++ ((List.replicate n l).flatten).toArray).size ≤ sizeLine
          have e2 : (#[] ++ ((List.replicate n l).flatten).toArray).size = n * l.length := by simp
          rw [e2, Nat.mul_comm, hsl]
          omega
        · rw [Int.toNat_natCast, foldl_cat]
          simp
end
/-! ### names of the module -/
def Glob (mg : Str → Option Value) (x : Str) (v : V) : Prop := ∃ u, mg x = some u ∧ RelV v u
section
variable {X : Cx}
theorem pe_g {x : Str} {v : V} {pos : Pos} (h : Glob X.mg x v) (hg : Gl X x := by rfl) (hd : (x == ("__debug__" : Str)) = false := by decide) : PE X (.Name x pos) (tC v) := by
  obtain ⟨u, hm, r⟩ := h
  exact pe_glob hg hm r hd
end
/-- the function that stands at an address -/
def fdAt (K : PySem.W.Frag) (a : Addr) : FuncData := match K.lookup a with
  | some ⟨_, _, .func fd, _⟩ => fd
  | _ => PySem.W.fnOf "" "" { posonlyargs := [], args := [], vararg := none, kwonlyargs := [], kw_defaults := [], kwarg := none, defaults := [] } [] { kind := .function, names := [], isGenerator := false, isCoroutine := false } .none .none .none .none none .none .none
/-- a def of the module, without defaults -/
structure Dfn (K : PySem.W.Frag) (mg : Str → Option Value) (x : Str) (st : Stmt) (ps : List Str) : Prop where
  fn : FunD K x x (defArgs st) (defBody st) (defScope st) [] [] (He.ga K x) (fdAt K (He.ga K x))
  g : mg x = some (.ref (He.ga K x))
  b : Binds K (fdAt K (He.ga K x)) ps []
theorem fdAt_eq {K : PySem.W.Frag} {x qual : Str} {pa : Arguments} {bd : List Stmt} {sc : Scope} {dvs : List V} {kws : List (Str × V)} {f : Addr} {fd : FuncData} (F : FunD K x qual pa bd sc dvs kws f fd) : fdAt K f = fd := by
  obtain ⟨oc, od, dV, kV, doc, pm, an, cdv, ct, osl, e, l, _⟩ := F.ex
  unfold fdAt
  rw [l]
theorem dfn_mk {K : PySem.W.Frag} {mg : Str → Option Value} {x : Str} {st : Stmt} {ps : List Str} {fd : FuncData} (F : FunD K x x (defArgs st) (defBody st) (defScope st) [] [] (He.ga K x) fd) (g : mg x = some (.ref (He.ga K x)))
    (h : ∀ (kV doc pm : Value) (an : Option Addr) (cdv ct : Value) (us : List Value), us.length = ps.length → bindArgs (PySem.W.fnOf x x (defArgs st) (defBody st) (defScope st) .none kV doc pm an cdv ct) ⟨us, []⟩ = pure (ps.zip us)) : Dfn K mg x st ps := by
  have e := fdAt_eq F
  refine ⟨by rw [e]; exact F, g, by rw [e]; exact F.bindsN h⟩
/-- a method of a class of the module -/
structure Mth (K : PySem.W.Frag) (x m q : Str) (st : Stmt) (ps : List Str) : Prop where
  fn : FunD K m q (defArgs st) (defBody st) (defScope st) [] [] (He.ma K (He.ga K x) m) (fdAt K (He.ma K (He.ga K x) m))
  mt : Meth K (He.ga K x) m (He.ma K (He.ga K x) m)
  b : Binds K (fdAt K (He.ma K (He.ga K x) m)) ps []
theorem mth_mk {K : PySem.W.Frag} {x m q : Str} {st : Stmt} {ps : List Str} {fd : FuncData} (F : FunD K m q (defArgs st) (defBody st) (defScope st) [] [] (He.ma K (He.ga K x) m) fd) (g : Meth K (He.ga K x) m (He.ma K (He.ga K x) m))
    (h : ∀ (kV doc pm : Value) (an : Option Addr) (cdv ct : Value) (us : List Value), us.length = ps.length → bindArgs (PySem.W.fnOf m q (defArgs st) (defBody st) (defScope st) .none kV doc pm an cdv ct) ⟨us, []⟩ = pure (ps.zip us)) : Mth K x m q st ps := by
  have e := fdAt_eq F
  exact ⟨by rw [e]; exact F, g, by rw [e]; exact F.bindsN h⟩
/-- all parameters by keywords, in the order ks: g puts them in the parameters' order -/
theorem kbn0 {K : PySem.W.Frag} {x qual : Str} {pa : Arguments} {bd : List Stmt} {sc : Scope} {kws : List (Str × V)} {f : Addr} {fd : FuncData} {ps ks : List Str} {n : Nat} (F : FunD K x qual pa bd sc [] kws f fd) (g : {α : Type} → List α → List α → List α)
    (hrel : ∀ {vs zs : List V} {us ws : List Value}, Vals vs us → Vals zs ws → Vals (g vs zs) (g us ws))
    (h : ∀ (kV doc pm : Value) (an : Option Addr) (cdv ct : Value) (us ws : List Value), us.length = n → ws.length = ks.length → bindArgs (PySem.W.fnOf x qual pa bd sc .none kV doc pm an cdv ct) ⟨us, ks.zip ws⟩ = pure (ps.zip (g us ws))) :
    KBn K fd ps n ks (fun us ws => g us ws) (fun vs zs => g vs zs) := by
  obtain ⟨oc, od, dV, kV, doc, pm, an, cdv, ct, osl, rfl, lk, hcd, hD, hK⟩ := F.ex
  rcases hD with ⟨_, rfl⟩ | ⟨e, _⟩
  · exact ⟨fun s us ws X l1 l2 => .of_eq (h kV doc pm an cdv ct us ws l1 l2), fun r1 r2 => hrel r1 r2⟩
  · exact absurd rfl e
section
variable {X : Cx} {CX : CXT} {k : Nat} {f : Addr} {fd : FuncData} {ps ks : List Str} {sp : Sp} {E : XK} {x : Str} {p pos : Pos} {kws : List Keyword} {tk : TA} {g : List Value → List Value → List Value} {gV : List V → List V → List V}
/-- f(k = v, ..) -/
theorem pe_callN0 (F : FnOk X.prog X.w X.K X.mg X.base CX k f fd ps sp) (hr : Room k X.A) (hg : Gl X x) (hm : X.mg x = some (.ref f)) (hk : PySem.W.keepIn X.K (.ref f) = true) (hb : KBn X.K fd ps 0 ks g gV) (hx : Passes CX X E)
    (hkw : PK X kws tk) (hall : (backToKw pos (keywordEach kws X.env)).all (·.1.isSome) = true := by rfl) (hks : (backToKw pos (keywordEach kws X.env)).filterMap (·.1) = ks := by rfl)
    (hdb : (x == ("__debug__" : Str)) = false := by decide)
    (hpl : ((backTo pos (starEach [] X.env)).any (·.1) || (backToKw pos (keywordEach kws X.env)).any (·.1.isNone)) = false := by rfl) :
    PE X (.Call (.Name x p) [] kws pos) (tCallN 0 ks.length sp gV E tNil tk) := by
  refine ⟨fun pins s σ H Q I h => ?_⟩
  refine wpAny_Call_Name_kw (ld_glob I hg hm ?_ hdb)
  refine PySem.W.callWith_KW0 (h₀ := X.base) I.ok.mod.kin hk hall ?_ hpl
  refine thn (hkw.run pos pins s σ H _ I h) fun ws s2 ⟨zs, H2, I2, rz, l1, l2, q2⟩ => ⟨I2.kIn, ?_⟩
  rw [hks]
  exact run_fnN F hr hb hx I2 .nil rz l1 l2 q2
end
/-! ### heaps -/
/-- all that was tracked is as it was, but at a -/
def But (a : Addr) (H H' : Hp) : Prop := ∀ b o, b ≠ a → H b = some o → H' b = some o
theorem But.refl (a : Addr) (H : Hp) : But a H H := fun _ _ _ h => h
theorem But.trans {a : Addr} {H H1 H2 : Hp} (x : But a H H1) (y : But a H1 H2) : But a H H2 := fun b o n h => y b o n (x b o n h)
theorem But.of {a : Addr} {H H1 : Hp} (x : Same H H1) : But a H H1 := fun b o _ h => x b o h
theorem But.upd {a : Addr} {H H1 : Hp} {o : HO} (x : But a H H1) : But a H (upd H1 a o) := fun b u n h => by
  rw [upd_ne n]
  exact x b u n h
theorem But.new {a : Addr} {H H1 : Hp} {p : Addr} {o : HO} (x : But a H H1) (h : H1 p = none) : But a H (L2.upd H1 p o) := fun b u n e => by
  rw [upd_ne (ne_of_none (x b u n e) h)]
  exact x b u n e
theorem same_new {H : Hp} {p : Addr} {o : HO} (h : H p = none) : Same H (upd H p o) := fun b x e => by
  rw [upd_ne (ne_of_none e h)]
  exact e
/-- what was not tracked ahead is free there -/
theorem But.free {a p : Addr} {H H1 : Hp} (x : But a H H1) (n : p ≠ a) (h : H1 p = none) : H p = none := by
  cases e : H p with
  | none => rfl
  | some o =>
    rw [x p o n e] at h
    cases h
theorem But.seqL {K : PySem.W.Frag} {a b : Addr} {H H1 : Hp} {xs : List V} (x : But a H H1) (n : b ≠ a) (h : SqL K H b xs) : SqL K H1 b xs := by
  rcases h with (h | ⟨o, h⟩) | h
  · exact .inl (.inl (x _ _ n h))
  · exact .inl (.inr ⟨o, x _ _ n h⟩)
  · exact .inr h
theorem szS {n : Nat} (h : n ≤ 100000) : n ≤ sizeLine := Nat.le_trans h (by decide)
theorem szL {n : Nat} (h : n < 100000) : n < sizeLine := Nat.lt_of_lt_of_le h (by decide)
end Sw
set_option Elab.async false
set_option linter.all false
set_option maxRecDepth 100000
set_option maxHeartbeats 4000000
/-! a caught error that is kept as a value behind its except clause -/
namespace Sw
open PySem PySem.Spec PyProof.Rows L2 SX
/-- at a: an exception's object, of this class, with this own dict -/
def exV (a : Addr) (cls : Value) (d : Option Addr) : HO := .ext fun h => ∃ (oe : Obj) (vs : Array Value), h.get? a = some oe ∧ Zc cls d oe ∧ oe.data = .fields vs
theorem exV_ok {P : Program} {w : World} {H : Hp} {h : Heap} {a : Addr} {cls : Value} {d : Option Addr} {oe : Obj} {vs : Array Value} (e : h.get? a = some oe) (z : Zc cls d oe) (q : oe.data = .fields vs) : ObjOk P w H h a (exV a cls d) :=
  ⟨⟨oe, vs, e, z, q⟩, ⟨oe, e⟩, fun h1 h2 ⟨o1, v1, y1, y2, y3⟩ k => ⟨o1, v1, k _ y1, y2, y3⟩⟩
theorem exV_at {P : Program} {w : World} {H : Hp} {h : Heap} {a : Addr} {cls : Value} {d : Option Addr} (ok : HOk P w H h) (e : H a = some (exV a cls d)) : ∃ (oe : Obj) (vs : Array Value), h.get? a = some oe ∧ Zc cls d oe ∧ oe.data = .fields vs := by
  have x : ObjOk P w H h a (.ext fun h => ∃ (oe : Obj) (vs : Array Value), h.get? a = some oe ∧ Zc cls d oe ∧ oe.data = .fields vs) := ok a _ e
  exact x.1
section
variable {X : Cx} {pins : List (Addr × Obj)} {σ : L2.St} {H : Hp} {s0 s4 : Shared} {a : Addr} {cls : Value} {d : Option Addr}
/-- an exception that was not there ahead of the body is tracked -/
theorem track (J : Inv X pins σ H s0) (J4 : Inv X pins σ H s4) (na : H a = none) (ga : s0.heap.get? a = none) {oe : Obj} {vs : Array Value} (e4 : s4.heap.get? a = some oe) (hz : Zc cls d oe) (hd : oe.data = .fields vs) (nL : a ≠ X.env.locals) :
    Inv X pins σ (upd H a (exV a cls d)) s4 := by
  have nx : ∀ {b : Addr} {o : HO}, H b = some o → b ≠ a := fun {b o} q z => by rw [z, na] at q; cases q
  have up : ∀ {b : Addr} {o : HO}, H b = some o → upd H a (exV a cls d) b = some o := fun {b o} q => by rw [upd_ne (nx q)]; exact q
  have un : ∀ {b : Addr}, b ≠ a → H b = none → upd H a (exV a cls d) b = none := fun {b} hb q => by rw [upd_ne hb]; exact q
  refine ⟨J4.ok, J4.os, J4.bare, ⟨J4.base.keep, J4.base.slot, fun b o h1 h2 h3 => ?_, J4.base.there, fun b xs q => up (J4.base.tups b xs q), fun b o u q => up (J4.base.frzs b o u q), fun b ps q => ?_⟩, J4.loc, J4.cell, un nL.symm J4.free, fun x c q => ?_, fun p hp => ?_, fun b o q => ?_, J4.len⟩
  · refine un (fun z => ?_) (J4.base.free b o h1 h2 h3)
    obtain ⟨o1, h5⟩ := J.base.there b o h1 h3
    rw [z, ga] at h5
    cases h5
  · obtain ⟨more, q2⟩ := J4.base.tbls b ps q
    exact ⟨more, up q2⟩
  · refine un (fun z => ?_) (J4.freeC x c q)
    obtain ⟨v, oc, hc1, hc2⟩ := J4.cell x c q
    rw [z, e4] at hc1
    cases hc1
    rw [hd] at hc2
    cases hc2
  · obtain ⟨h1, h2, h3, h4, h5⟩ := J4.pin p hp
    refine ⟨h1, un (fun z => ?_) h2, h3, h4, h5⟩
    have h6 := (J.pin p hp).1
    rw [z, ga] at h6
    cases h6
  · by_cases hb : b = a
    · subst hb
      rw [upd_same] at q
      cases q
      exact exV_ok e4 hz hd
    · rw [upd_ne hb] at q
      exact (J4.hok b o q).stay (fun _ _ _ z => z) (fun c z => up z) fun c xs z => up z
end
/-- the wish of an except clause whose error is tracked within and behind its suite: slot i is the name's -/
def wKeep (K : PySem.W.Frag) (c : Value) (i : Nat) (ts : Addr → TS) (Wo : WX) (D : Ends) : WX := fun cls d σ H => ∃ b, PySem.W.exmOne K cls c = some b ∧
  (b = true → ∀ a, H a = none → ts a { nx := fun s1 H1 => D.nx (s1.set i none) H1, rt := D.rt, bk := fun s1 H1 => D.bk (s1.set i none) H1, ct := fun s1 H1 => D.ct (s1.set i none) H1 } (σ.set i (some (.ref a))) (upd H a (exV a cls d))) ∧
  (b = false → Wo cls d σ H)
/-- the suite's own context, no pin for the error -/
abbrev suK (X : Cx) (a : Addr) (pn : List (Addr × Obj)) : Cx := X.suite a pn
section
variable {X : Cx} {x n : Str} {c : Value} {i : Nat} {body suite : List Stmt} {b0 : Stmt} {np pos pos' : Pos} {tb : WX → TS} {ts : Addr → TS} {Wo : WX}
theorem to_suite {pins : List (Addr × Obj)} {σ : L2.St} {H : Hp} {s : Shared} (I : Inv X pins σ H s) (a : Addr) : Inv (suK X a (X.pn ++ pins)) [] σ H s :=
  ⟨I.ok.suite a _, I.os, I.bare, I.base, I.loc, I.cell, I.free, I.freeC, fun p hp => I.pin p (by rw [List.append_nil] at hp; exact hp), I.hok, I.len⟩
theorem of_suite {pins pn' : List (Addr × Obj)} {σ : L2.St} {H : Hp} {s : Shared} {a : Addr} (I : Inv (suK X a (X.pn ++ pins)) pn' σ H s) (ok : X.Ok) : Inv X pins σ H s :=
  ⟨ok, I.os, I.bare, I.base, I.loc, I.cell, I.free, I.freeC, fun p hp => I.pin p (List.mem_append_left _ hp), I.hok, I.len⟩
theorem ps_try_keep (hs : X.stack = X.env :: X.outer) (hf : X.env.frame = some X.env.locals) (hN : X.N.Nodup) (hi : X.N[i]? = some n) (hln : X.env.kindOf n = some .local) (hc : Names X x c) (tk : Takes X Wo)
    (hb : ∀ (W : WX) (pn : List (Addr × Obj)) (xe : Value → Shared → Prop), Takes (X.tr pn xe) W → PassesOwn (model X.prog X.w) X.A X.env xe → PSs (X.tr pn xe) body (tb W))
    (hsu : ∀ (a : Addr) (pn : List (Addr × Obj)), PSs (suK X a pn) (b0 :: suite) (ts a)) :
    PS X (.Try body [.ExceptHandler (some (.Name x np)) (some n) (b0 :: suite) pos'] [] [] pos) (fun D σ H => tb (wKeep X.K c i ts Wo D) D σ H) := by
  constructor
  intro pins s σ H D I hread
  have okX := I.ok
  have frX : X.A.frames = some (X.env :: X.outer) := by rw [okX.frames, hs]
  let after : Value → Shared → Prop := fun e q1 => wpAny (model X.prog X.w) X.A (noteFrame e X.env) (fun _ q2 => wpAny (model X.prog X.w) X.A (setFlight e none) (fun _ q3 =>
    wpAny (model X.prog X.w) X.A (handleBy e X.env [.ExceptHandler (some (.Name x np)) (some n) (b0 :: suite) pos']) (SP X pins D) X.xe q3) X.xe q2) X.xe q1
  have takes : Takes (X.tr (X.pn ++ pins) after) (wKeep X.K c i ts Wo D) := by
    rintro u s1 ⟨a, B, sI, pinsB, σ1, H1, cls, d, rfl, J0, nb, up, sky, na, os, ag, b, hb1, hyes, hno⟩
    have J : Inv X pins σ1 H1 sI := J0.ofTry okX
    rw [hs] at sky
    refine Sky.land Zc.steady frX hf sky fun h3 fl3 up3 => ?_
    have J3 : Inv X pins σ1 H1 { s1 with heap := h3 } := J.landed nb fl3.1 (up.trans up3) os ag
    obtain ⟨oe3, vs3, he3, hz3, hd3⟩ := fl3.there
    have away : a ∉ frs (X.env :: X.outer) := fun hm => by
      obtain ⟨_, o1, e1, hno1⟩ := fl3.2.2.1.mem hm
      rw [he3] at e1
      cases e1
      exact hno1 _ hd3
    have nL : a ≠ X.env.locals := fun z => away (List.mem_filterMap.mpr ⟨X.env, List.mem_cons_self, by rw [hf, z]⟩)
    have gone : sI.heap.get? a = none := by
      cases e : sI.heap.get? a with
      | none => rfl
      | some o =>
        have e2 := nb a o e (by rw [hs]; exact away)
        rw [fl3.2.1] at e2
        cases e2
    refine wpAny_handleBy_cons (codeAny_handlers_test ?_) (by intro q; cases q)
    have tyA : PySem.W.Looks (model X.prog X.w) h3 (typeOf (.ref a)) cls := fun A Q E s k q => wpAny_typeOf_ref (k _ _ he3) (by rw [hz3.1]; exact q)
    have meets := PySem.W.exm_one (M := model X.prog X.w) (J3.kIn) tyA hb1
    have S3 := to_suite J3 a
    have named : ∀ {Q : Value → Shared → Prop} {E : Value → Shared → Prop}, Q c { s1 with heap := h3 } → wpAny (model X.prog X.w) (X.A.mark (some (.ref a))) (eval (.Name x np) X.env) Q E { s1 with heap := h3 } := by
      intro Q E q
      obtain ⟨hg, hdbg, hm⟩ := hc
      rcases hm with hm | ⟨hm, hv, hnn⟩
      · exact ld_glob (X := suK X a (X.pn ++ pins)) S3 hg hm q hdbg
      · exact ld_blt (X := suK X a (X.pn ++ pins)) S3 hg hm hv q hnn hdbg
    refine named (meets.here ?_)
    cases b with
    | true =>
      refine codeAny_handlers_suite_as ?_
      refine HandSPX.lands_againZ fl3 fun h4 fl4 up4 => ?_
      have J4 : Inv X pins σ1 H1 { s1 with heap := h4 } := J.landed nb fl4.1 ((up.trans up3).trans up4) os ag
      obtain ⟨oe4, vs4, he4, hz4, hd4⟩ := fl4.there
      have K4 := track J J4 na gone he4 hz4 hd4 nL
      refine store_ok (X := suK X a (X.pn ++ pins)) (v := .ref a) (to_suite K4 a) hN hi (.inl hln) rfl (fun s5 S5 => ?_) (.inr hln)
      refine wpAny_mono ((hsu a (X.pn ++ pins)).run [] s5 _ _ _ S5 (hyes rfl a na)) (fun f s6 hsp => ?_) (fun _ _ z => False.elim z)
      have fin : ∀ {σ6 : L2.St} {H6 : Hp} {Q : Shared → Prop}, Inv (suK X a (X.pn ++ pins)) [] σ6 H6 s6 → (∀ s7, Inv X pins (σ6.set i none) H6 s7 → Q s7) →
          wpAny (model X.prog X.w) X.A (do bindName X.env n .none; unbindBehindTheSuite X.env n pos') (fun _ s7 => Q s7) X.xe s6 := fun S6 hq => gone_ok (of_suite S6 okX) hN hi hln hq
      cases f with
      | ret u =>
        obtain ⟨v6, σ6, H6, S6, r6, q6⟩ := hsp
        exact fin S6 fun s7 J7 => ⟨_, _, _, J7, r6, q6⟩
      | next =>
        obtain ⟨σ6, H6, S6, q6⟩ := hsp
        exact fin S6 fun s7 J7 => ⟨_, _, J7, q6⟩
      | brk =>
        obtain ⟨σ6, H6, S6, q6⟩ := hsp
        exact fin S6 fun s7 J7 => ⟨_, _, J7, q6⟩
      | cont =>
        obtain ⟨σ6, H6, S6, q6⟩ := hsp
        exact fin S6 fun s7 J7 => ⟨_, _, J7, q6⟩
    | false =>
      refine wpAny_handleBy_nil ?_
      obtain ⟨k1, k2, k3, oe, vs, T, oT, tv, he, hz, hd, h1, hr⟩ := id fl3
      unfold PySem.passOn
      refine wpAny_bind (wpAny_field he hd h1 ?_)
      rw [if_neg (show ¬ ((Value.ref T == Value.none) = true) from by simp)]
      have on : wpAny (model X.prog X.w) X.A (setFlight (.ref a) X.env.frame) (fun _ s4 => wpAny (model X.prog X.w) X.A (throw (.ref a) : Sem Flow) (SP X pins D) X.xe s4) X.xe { s1 with heap := h3 } := by
        rw [hf]
        refine HandSPX.setFlight_upZ fl3 fun h4 hh4 up4 => wpAny_throw (tk _ _ ?_)
        exact ⟨a, B, sI, pins, σ1, H1, cls, d, rfl, J, nb, (up.trans up3).trans up4, .inr (.inr (by rw [hs]; exact hh4)), na, os, ag, hno rfl⟩
      first
        | exact wpAny_bind (wpAny_pure (wpAny_bind on))
        | exact wpAny_bind on
  refine wpAny_Try_except ?_
  refine wpAny_mono ((hb (wKeep X.K c i ts Wo D) (X.pn ++ pins) after takes PassesOwn.looking).run [] s σ H D (I.toTry _) hread) (fun f s1 hsp => ?_) (fun e s1 he => he)
  cases f with
  | ret u =>
    obtain ⟨v, σ1, H1, J1, r, q⟩ := hsp
    exact ⟨v, σ1, H1, J1.ofTry okX, r, q⟩
  | next =>
    obtain ⟨σ1, H1, J1, q⟩ := hsp
    exact wpAny_execs_nil ⟨σ1, H1, J1.ofTry okX, q⟩
  | brk =>
    obtain ⟨σ1, H1, J1, q⟩ := hsp
    exact ⟨σ1, H1, J1.ofTry okX, q⟩
  | cont =>
    obtain ⟨σ1, H1, J1, q⟩ := hsp
    exact ⟨σ1, H1, J1.ofTry okX, q⟩
end
/-! ### a field of a kept error; its class asked -/
def tXv (C : Addr) (n : Str) (te : TE) : TE := fun σ H Q => te σ H fun x H1 => ∃ (a dd : Addr) (fs : List (Str × V)) (v : V), x = .ref a ∧ H1 a = some (exV a (.ref C) (some dd)) ∧ H1 dd = some (.xd fs) ∧ fs.lookup n = some v ∧ Q v H1
theorem pe_xv {X : Cx} {C : Addr} {e : Expr} {te : TE} {pos : Pos} {n : Str} (T : XfC X.K C) (hno : PySem.W.findIn X.K (.ref C) n = some none) (he : PE X e te) (hb : attributeBase e n X.env (eval e X.env) = eval e X.env := by rfl) :
    PE X (.Attribute e n pos) (tXv C n te) := by
  constructor
  intro pins s σ H Q I h
  refine attr_of hb (thn (he.run pins s σ H _ I h) fun u s1 hh => ?_)
  obtain ⟨x, H1, I1, rx, a, dd, fs, v, rfl, ha, hdd, hl, q⟩ := hh
  cases (show u = Value.ref a from rx)
  obtain ⟨oe, vs, g1, g2, g3⟩ := exV_at I1.hok ha
  have hx : ObjOk X.prog X.w H1 s1.heap dd (.xd fs) := I1.hok dd _ hdd
  obtain ⟨mA, hns, hr⟩ := hx
  obtain ⟨od, ho, hl2⟩ := lookIn_ns hns
  have rel := hr n
  rw [hl] at rel
  obtain ⟨u, hu, ru⟩ := RelO.some_of rel
  have J : PySem.W.InstAt s1.heap a oe C (some od) := { at_ := g1, cls := g2.1, no := by unfold PySem.W.notCls; rw [g3] <;> rfl, dict := by rw [g2.2]; exact ho }
  refine HandSPX.exc_get I1.kIn J T.ga T.gg T.exC (PySem.W.findObj_own T.hdC hno rfl ?_) (handed_of ru) ⟨v, H1, I1.tok _, ru, q⟩
  rw [hl2, hu]
section
open PySem.W PySem.Calls
variable {prog : Program} {w : World} {A : Around} {E : Value → Shared → Prop} {s : Shared} {K : Frag} {x D : Addr} {ox : Obj} {od : Option Obj}
theorem findObj_cls {C : Addr} {name : Str} {a g : Value} (od : Option Obj) (hc : (clsIn K C).isSome = true) (ha : findIn K (.ref C) name = some (some a)) (hg : specialIn K a "__get__" = some (some g)) (ht : takesIn K a = some true) : findObj K C od name = some (.bind g a) := by
  cases od with
  | none => exact findObj_dataN hc ha hg ht
  | some o => exact findObj_data hc ha hg ht
theorem class_of_exc (C : ExcC K D) {Q : Option Value → Shared → Prop} (X : K.In s.heap) (I : InstAt s.heap x ox D od) (h : Q (some (.ref D)) { s with toks := s.toks + 1 }) : wpAny (model prog w) A (getAttr? (.ref x) "__class__") Q E s := by
  have seen : (clsIn K D).isSome = true := by
    obtain ⟨cd, hc, _⟩ := any_some C.hd
    rw [hc]
    rfl
  have look := findObj_cls od seen C.ha C.hn C.ht
  obtain ⟨hp, g, d, t, os⟩ := s
  have ty := I.type (M := model prog w)
  have by1 := looks_findIn (M := model prog w) X C.hg
  have by2 := looks_findIn (M := model prog w) X C.hk
  have by3 := looks_find (M := model prog w) X I look
  have isE : Looks (model prog w) hp (isInstance (.ref x) (.type "BaseException")) true := ty.andThen (looks_subIn X C.hs)
  have e2 : (Value.builtin "BaseException.__getattribute__" == Value.builtin "object.__getattribute__") = false := by decide +kernel
  have e1 : (onTheHeap (Value.ref D) && Value.builtin "BaseException.__getattribute__" == Value.builtin "object.__getattribute__") = false := by
    rw [e2]
    rfl
  unfold getAttr? getAttrBy? getAttrBy
  refine wpAny_bind (wpAny_mkText (wpAny_bind (wpAny_attempt (wpAny_holding (wpAny_bind (ty.at (wpAny_bind (by1.at ?_))))))))
  show wpAny _ _ (if (onTheHeap (Value.ref D) && Value.builtin "BaseException.__getattribute__" == Value.builtin "object.__getattribute__") = true then _ else _) _ _ _
  rw [e1, if_neg Bool.false_ne_true]
  unfold getAttrByItsOwn hookBefore
  refine wpAny_bind ?_
  rw [if_pos (show onTheHeap (Value.ref D) = true from rfl)]
  refine by2.at (wpAny_bind (wpAny_attempt (wpAny_holding ?_)))
  unfold callGetattribute
  rw [show (false && onTheHeap (Value.builtin "BaseException.__getattribute__")) = false from rfl, if_neg Bool.false_ne_true]
  unfold boundAndCalled
  rw [PySem.F.excAttr_ValueError.ga.bind (.ref x)]
  refine wpAny_bind (wpAny_pure ?_)
  show wpAny _ _ (call (.builtin "BaseException.__getattribute__") [.ref x, .str "__class__" t]) _ _ _
  refine wpAny_call (codeAny_call_builtin PySem.F.excAttr_ValueError.ga.plain PySem.F.entry_bexc_ga ?_)
  refine @check_slot (model prog w) _ _ ⟨hp, g, d, t + 1, os⟩ "BaseException.__getattribute__" "BaseException" "__getattribute__" (.ref x) [.str "__class__" t] [] _ (by decide +kernel) (by decide +kernel) isE (PySem.F.args_bexc_ga (.ref x) (.str "__class__" t)) ?_
  unfold Builtin.«object.__getattribute__»
  refine wpAny_bind (wpAny_of_eq (a := ((Value.ref x : Value), [Value.str "__class__" t])) (by first | rfl | (simp only [slotArgs]; rfl)) ?_)
  refine wpAny_bind (wpAny_pure (wpAny_bind (ty.at (wpAny_bind (by3.at ?_)))))
  show wpAny _ _ (holding [Value.builtin "object.__class__"] (call (.builtin "getset_descriptor.__get__") [.builtin "object.__class__", .ref x, .ref D]) >>= ret) _ _ _
  refine wpAny_bind (wpAny_holding (wpAny_call (class_get (s := ⟨hp, g, d, t + 1, os⟩) (ox := ox) (od := od) X I C.hm ?_)))
  refine wpAny_pure ?_
  show wpAny _ _ (handedOut (.ref D)) _ _ _
  rw [handedOut_of (v := .ref D) rfl]
  first
    | exact wpAny_pure h
    | exact wpAny_pure (wpAny_pure h)
    | exact wpAny_pure (wpAny_bind (wpAny_pure (wpAny_pure h)))
theorem kit_exc (C : ExcC K D) : KitX K (.ref x) (.ref D) (fun h => ∃ ox od, InstAt h x ox D od) where
  ty := fun _ _ _ ⟨_, _, I⟩ => I.type
  it := fun _ _ X _ => by
    obtain ⟨cdD, hcD, _⟩ := any_some C.hd
    unfold clsIn at hcD
    split at hcD
    · rename_i oc od cd sl ho
      intro A1 Q1 E1 s1 k q
      unfold isType loadHead
      exact wpAny_bind (wpAny_loadPart (k _ _ (X _ _ ho)) (wpAny_pure q))
    · cases hcD
  ne := fun h tp dd its n sl X htp => by
    obtain ⟨cdD, hcD, _⟩ := any_some C.hd
    rw [Bool.eq_false_iff]
    intro q
    have e : D = tp := Value.ref.inj (beq_iff_eq.mp q)
    subst e
    unfold clsIn at hcD
    split at hcD
    · rename_i oc od cd sl2 ho
      cases (X _ _ ho).symm.trans htp
    · cases hcD
  ca := fun X ⟨_, _, I⟩ k => class_of_exc C X I k
end
/-- isinstance(e, c), e a kept error -/
def rIsV (K : PySem.W.Frag) : List V → Hp → VK → Prop := fun xs H Q => ∃ (a D : Addr) (d : Option Addr) (c : V) (cv : Value) (b : Bool), xs = [.ref a, c] ∧ H a = some (exV a (.ref D) d) ∧ (∀ dd, d = some dd → ∃ fs, H dd = some (.xd fs)) ∧ ExcC K D ∧ (∀ u, RelV c u → u = cv) ∧ PySem.W.kitOne K (.ref D) cv = some b ∧ Q (.bl b) H
theorem call_isV {X : Cx} : CallR X (.builtin "isinstance") (rIsV X.K) := by
  intro pins s σ H xs us Q I r h
  obtain ⟨a, D, d, c, cv, b, rfl, ha, hdd, C, hcv, e, q⟩ := h
  cases r with
  | cons rx rr =>
    cases rr with
    | cons rt rr =>
      cases rr
      cases rx
      have ec := hcv _ rt
      subst ec
      obtain ⟨oe, vs, g1, g2, g3⟩ := exV_at I.hok ha
      have J : ∃ ox od, PySem.W.InstAt s.heap a ox D od := by
        have no : PySem.W.notCls oe = true := by unfold PySem.W.notCls; rw [g3] <;> rfl
        cases d with
        | none => exact ⟨oe, none, { at_ := g1, cls := g2.1, no := no, dict := by rw [g2.2]; trivial }⟩
        | some dd =>
          obtain ⟨fs, hf⟩ := hdd dd rfl
          have hx : ObjOk X.prog X.w H s.heap dd (.xd fs) := I.hok dd _ hf
          obtain ⟨mA, ⟨o, es, ep, ho, _⟩, _⟩ := hx
          exact ⟨oe, some o, { at_ := g1, cls := g2.1, no := no, dict := by rw [g2.2]; exact ho }⟩
      exact PySem.W.kia_one (kit_exc C) I.kIn J e (fun z => nomatch z) fun tk => ⟨.bl b, H, I.kept (t' := tk) fun _ _ z => z, rfl, q⟩
/-! ### calls by keywords in a try's body -/
section
variable {X : Cx} {CX : CXT} {k : Nat} {f : Addr} {fd : FuncData} {ps ks : List Str} {sp : Sp} {E : L2.St → XK} {x : Str} {p pos : Pos} {kws : List Keyword} {tk : TA} {g : List Value → List Value → List Value} {gV : List V → List V → List V}
def tCallNS (m : Nat) (sp : Sp) (gV : List V → List V → List V) (E : L2.St → XK) (tk : TA) : TE := fun σ H Q => tk σ H fun zs H2 => zs.length = m ∧ sp (gV [] zs) H2 Q (E σ)
theorem pe_callN0S (F : FnOk X.prog X.w X.K X.mg X.base CX k f fd ps sp) (hr : Room k X.A) (hg : Gl X x) (hm : X.mg x = some (.ref f)) (hk : PySem.W.keepIn X.K (.ref f) = true) (hb : KBn X.K fd ps 0 ks g gV) (hx : ∀ σ, PassesAt CX X σ (E σ))
    (hkw : PK X kws tk) (hall : (backToKw pos (keywordEach kws X.env)).all (·.1.isSome) = true := by rfl) (hks : (backToKw pos (keywordEach kws X.env)).filterMap (·.1) = ks := by rfl)
    (hdb : (x == ("__debug__" : Str)) = false := by decide)
    (hpl : ((backTo pos (starEach [] X.env)).any (·.1) || (backToKw pos (keywordEach kws X.env)).any (·.1.isNone)) = false := by rfl) :
    PE X (.Call (.Name x p) [] kws pos) (tCallNS ks.length sp gV E tk) := by
  constructor
  intro pins s σ H Q I h
  refine wpAny_Call_Name_kw (ld_glob I hg hm ?_ hdb)
  refine PySem.W.callWith_KW0 (h₀ := X.base) I.ok.mod.kin hk hall ?_ hpl
  refine thn (hkw.run pos pins s σ H _ I h) fun ws s2 ⟨zs, H2, I2, rz, l2, q2⟩ => ⟨I2.kIn, ?_⟩
  rw [hks]
  refine wpAny_call (codeAny_mono (F.run X.A X.stack s2 H2 ⟨[], ks.zip ws⟩ (g [] ws) (gV [] zs) Q (E σ) hr I2.env0 (hb.to s2 [] ws I2.kIn rfl (rz.length.symm.trans l2)) (hb.rel .nil rz) q2) fun r s3 hq => ?_)
  cases r with
  | error e => exact hx σ pins H2 s2 e s3 I2 hq
  | ok fl =>
    cases fl with
    | ret u => exact I2.after hq
    | next => exact False.elim hq
    | brk => exact False.elim hq
    | cont => exact False.elim hq
end
/-! ### error classes of the text: a class over ValueError (through others) with its own __init__ -/
def oexB (K : PySem.W.Frag) (C : Addr) : Bool := (match K.lookup C with
  | some ⟨.type "type", _, .cls cd, sl⟩ => (match cd.mro, sl.toList with
    | .ref D :: bm, [_, _, _, _, some (.builtin n), _] => decide (D = C) && (decide (n = "ValueError.__new__") && (!cd.hasDel && (cd.hasDict && PySem.HandSPX.refsVE bm)))
    | _, _ => false)
  | _ => false) && (decide (PySem.W.findIn K (.ref C) "__setattr__" = some (some (.builtin "object.__setattr__"))) && (decide (PySem.W.subIn K (.ref C) (.type "BaseException") = some true) && (decide (PySem.W.typeIn K (.ref C) = some (.type "type")) && PySem.W.keepIn K (.ref C))))
theorem oexB_ok {K : PySem.W.Frag} {C : Addr} (h : oexB K C = true) : OexC K C := by
  obtain ⟨h0, h⟩ := He.ba h
  obtain ⟨h1, h⟩ := He.ba h
  obtain ⟨h2, h⟩ := He.ba h
  obtain ⟨h3, h4⟩ := He.ba h
  refine ⟨?_, of_decide_eq_true h1, of_decide_eq_true h2, of_decide_eq_true h3, h4⟩
  split at h0
  · rename_i dd cd sl ho
    split at h0
    · rename_i D bm k0 k1 k2 k3 n k5 hm hs
      obtain ⟨y1, y⟩ := He.ba h0
      obtain ⟨y2, y⟩ := He.ba y
      obtain ⟨y3, y⟩ := He.ba y
      obtain ⟨y4, y5⟩ := He.ba y
      have e1 : D = C := of_decide_eq_true y1
      have e2 : n = "ValueError.__new__" := of_decide_eq_true y2
      obtain ⟨nm, bs, mro, ns, qn, hdc, sn, sub, ab, col, del⟩ := cd
      dsimp only at hm y3 y4
      have e3 : del = false := by simpa using y3
      subst e1 e2 e3 y4 hm
      have es : sl = #[k0, k1, k2, k3, some (.builtin "ValueError.__new__"), k5] := by
        obtain ⟨l⟩ := sl
        simp only at hs
        rw [hs]
      subst es
      exact ⟨nm, qn, ns, bs, bm, sn, sub, ab, col, dd, k0, k1, k2, k3, k5, ho, y5⟩
    · cases h0
  · cases h0
def ecB (K : PySem.W.Frag) (D : Addr) : Bool := decide (PySem.W.findIn K (.ref D) "__class__" = some (some (.builtin "object.__class__"))) &&
  (decide (PySem.W.specialIn K (.builtin "object.__class__") "__get__" = some (some (.builtin "getset_descriptor.__get__"))) && (decide (PySem.W.takesIn K (.builtin "object.__class__") = some true) && decide (PySem.W.mroIn K D (.type "object") = some true)))
theorem ecB_ok {K : PySem.W.Frag} {D : Addr} (x : XfC K D) (h : ecB K D = true) : ExcC K D := by
  obtain ⟨h1, h⟩ := He.ba h
  obtain ⟨h2, h⟩ := He.ba h
  obtain ⟨h3, h4⟩ := He.ba h
  exact ⟨x.ga, x.gg, x.exC, x.hdC, of_decide_eq_true h1, of_decide_eq_true h2, of_decide_eq_true h3, of_decide_eq_true h4⟩
/-- such a class: x its name, q its __init__'s qualified name, st that def, ps its parameters -/
structure Exn (K : PySem.W.Frag) (mg : Str → Option Value) (x q : Str) (st : Stmt) (ps : List Str) : Prop where
  cx : OexC K (He.ga K x)
  g : mg x = some (.ref (He.ga K x))
  ini : PySem.W.findIn K (.ref (He.ga K x)) "__init__" = some (some (.ref (He.ma K (He.ga K x) "__init__")))
  ity : PySem.W.typeIn K (.ref (He.ma K (He.ga K x) "__init__")) = some (.type "function")
  fn : FunD K "__init__" q (defArgs st) (defBody st) (defScope st) [] [] (He.ma K (He.ga K x) "__init__") (fdAt K (He.ma K (He.ga K x) "__init__"))
  b : Binds K (fdAt K (He.ma K (He.ga K x) "__init__")) ps []
  xf : XfC K (He.ga K x)
  ec : ExcC K (He.ga K x)
def exnB (K : PySem.W.Frag) (x : Str) : Bool := oexB K (He.ga K x) && (xfB K (He.ga K x) && (ecB K (He.ga K x) && (decide (PySem.W.findIn K (.ref (He.ga K x)) "__init__" = some (some (.ref (He.ma K (He.ga K x) "__init__")))) && decide (PySem.W.typeIn K (.ref (He.ma K (He.ga K x) "__init__")) = some (.type "function")))))
theorem exn_mk {K : PySem.W.Frag} {mg : Str → Option Value} {x q : Str} {st : Stmt} {ps : List Str} {fd : FuncData} (h : exnB K x = true) (g : mg x = some (.ref (He.ga K x)))
    (F : FunD K "__init__" q (defArgs st) (defBody st) (defScope st) [] [] (He.ma K (He.ga K x) "__init__") fd)
    (hb : ∀ (kV doc pm : Value) (an : Option Addr) (cdv ct : Value) (us : List Value), us.length = ps.length → bindArgs (PySem.W.fnOf "__init__" q (defArgs st) (defBody st) (defScope st) .none kV doc pm an cdv ct) ⟨us, []⟩ = pure (ps.zip us)) : Exn K mg x q st ps := by
  obtain ⟨h1, h⟩ := He.ba h
  obtain ⟨h2, h⟩ := He.ba h
  obtain ⟨h3, h⟩ := He.ba h
  obtain ⟨h4, h5⟩ := He.ba h
  have e := fdAt_eq F
  exact ⟨oexB_ok h1, g, of_decide_eq_true h4, of_decide_eq_true h5, by rw [e]; exact F, by rw [e]; exact F.bindsN hb, xfB_ok h2, ecB_ok (xfB_ok h2) h3⟩
/-- an __init__ of one field -/
def spIni1 (C : Addr) (f : Str) : Sp := fun vs H Q _ => ∃ (a : Addr) (v : V), vs = [.ref a, v] ∧ H a = some (exo a C none) ∧ ∀ dx, H dx = none → dx ≠ a → Q .non (upd (upd H dx (exd dx [(f, v)])) a (exo a C (some dx)))
/-- raise X(v): the wish, for any new dict of the error -/
theorem raise1 {C : Addr} {f : Str} {v : V} {H : Hp} {Q : XK} (h : ∀ d H', H d = none → Same H H' → H' d = some (.xd [(f, v)]) → Q (.ref C) (some d) H') :
    [v].length ≤ 1000 ∧ ∀ a, H a = none → spIni1 C f (.ref a :: ([v] ++ [])) (upd H a (exo a C none))
      (fun u H2 => u = .non ∧ ∃ (d : Addr) (fs : List (Str × V)), H2 a = some (exo a C (some d)) ∧ H2 d = some (exd d fs) ∧ H d = none ∧ Q (.ref C) (some d) (upd (del H2 a) d (.xd fs))) (fun _ _ _ => False) := by
  refine ⟨by simp, fun a ha => ⟨a, v, rfl, upd_same, fun dx hdx hne => ⟨rfl, dx, [(f, v)], upd_same, ?_, ?_, ?_⟩⟩⟩
  · rw [upd_ne hne, upd_same]
  · rw [upd_ne hne] at hdx
    exact hdx
  · rw [upd_ne hne] at hdx
    refine h dx _ hdx (fun b o hb => ?_) upd_same
    have n1 : b ≠ dx := ne_of_none hb hdx
    have n2 : b ≠ a := ne_of_none hb ha
    rw [upd_ne n1, del_ne n2, upd_ne n2, upd_ne n1, upd_ne n2]
    exact hb
end Sw
set_option Elab.async false
set_option linter.all false
set_option maxRecDepth 100000
set_option maxHeartbeats 4000000
/-! a list beside the empty one -/
namespace Sw
open PySem PySem.Spec PyProof.Rows L2 SX
theorem u64 {A : Around} {k : Nat} (hr : Room k A) : A.units + 64 < cLine := hr.units
def rNil (K : PySem.W.Frag) (neg : Bool) : R2 := fun x y H Q => ∃ (a b : Addr) (xs : List V), x = .ref a ∧ y = .ref b ∧ SqL K H a xs ∧ SqL K H b [] ∧ Q (.bl (if neg then !xs.isEmpty else xs.isEmpty)) H
theorem op_eqNil {X : Cx} (hu : X.A.units + 64 < cLine) : OpR X (compareOp .Eq) (rNil X.K false) := by
  intro pins s σ H x y v u Q I rx ry h
  obtain ⟨a, b, xs, rfl, rfl, ha, hb, q⟩ := h
  cases (show v = Value.ref a from rx)
  cases (show u = Value.ref b from ry)
  obtain ⟨us, r1, p1, _⟩ := I.list ha
  obtain ⟨ws, r2, p2, _⟩ := I.list hb
  cases r2
  cases r1 with
  | nil => exact SeqAt.RcAt.lists (e := fun _ => true) p1.isList p2.isList rfl (by omega) (fun j h1 _ => absurd h1 (by simp)) X.prog X.w _ _ ⟨.bl true, H, I, rfl, q⟩
  | cons r t => exact SeqAt.RcAt.lists_lengths p1.isList p2.isList (by simp) (by omega) X.prog X.w _ _ ⟨.bl false, H, I, rfl, q⟩
theorem op_neNil {X : Cx} (hu : X.A.units + 64 < cLine) : OpR X (compareOp .NotEq) (rNil X.K true) := by
  intro pins s σ H x y v u Q I rx ry h
  obtain ⟨a, b, xs, rfl, rfl, ha, hb, q⟩ := h
  cases (show v = Value.ref a from rx)
  cases (show u = Value.ref b from ry)
  obtain ⟨us, r1, p1, _⟩ := I.list ha
  obtain ⟨ws, r2, p2, _⟩ := I.list hb
  cases r2
  cases r1 with
  | nil => exact SeqAt.RcNeAt.lists (e := fun _ => true) p1.isList p2.isList rfl (by omega) (fun j h1 _ => absurd h1 (by simp)) X.prog X.w _ _ ⟨.bl false, H, I, rfl, q⟩
  | cons r t => exact SeqAt.RcNeAt.lists_lengths p1.isList p2.isList (by simp) (by omega) X.prog X.w _ _ ⟨.bl true, H, I, rfl, q⟩
theorem takes_none {X : Cx} : Takes X (fun _ _ _ _ => False) := fun _ _ ⟨_, _, _, _, _, _, _, _, _, _, _, _, _, _, _, _, w⟩ => w.elim
theorem putF_skip {g f : Str} {x v : V} {r : List (Str × V)} (h : g ≠ f) : putF f v ((g, x) :: r) = (g, x) :: putF f v r := if_neg h
theorem putF_hit {g : Str} {x v : V} {r : List (Str × V)} : putF g v ((g, x) :: r) = (g, v) :: r := if_pos rfl
theorem look_skip {g f : Str} {x : V} {r : List (Str × V)} (h : f ≠ g) : List.lookup f ((g, x) :: r) = List.lookup f r := by
  show (match f == g with | true => some x | false => List.lookup f r) = _
  rw [beq_eq_false_iff_ne.mpr h]
theorem look_hit {g : Str} {x : V} {r : List (Str × V)} : List.lookup g ((g, x) :: r) = some x := by
  show (match g == g with | true => some x | false => List.lookup g r) = _
  rw [beq_self_eq_true]
end Sw
set_option Elab.async false
set_option linter.all false
set_option maxRecDepth 100000
set_option maxHeartbeats 4000000
/-! plain mathematics of lexemes: no program in sight -/
namespace Sw
open PySem PySem.Spec PyProof.Rows L2 SX
abbrev tl (x : Str) : List Nat := x.cps.toList
theorem tl_S (l : List Nat) : tl (S l) = l := rfl
theorem S_tl' (x : Str) : S (tl x) = x := SX.S_tl x
theorem tl_app (a b : Str) : tl (a ++ b) = tl a ++ tl b := TL.tl_append a b
theorem tl_len (a : Str) : (tl a).length = a.length := by simp [Str.length]
theorem tl_inj {a b : Str} (h : tl a = tl b) : a = b := TL.ext_tl h
def isSm (c : Nat) : Bool := decide (97 ≤ c) && decide (c ≤ 122)
def isGr (c : Nat) : Bool := decide (65 ≤ c) && decide (c ≤ 90)
def isFi (c : Nat) : Bool := decide (48 ≤ c) && decide (c ≤ 57)
def isAl (c : Nat) : Bool := isSm c || isGr c || isFi c
theorem mem_rng (lo : Nat) : ∀ (n c : Nat), c ∈ List.range' lo n ↔ lo ≤ c ∧ c < lo + n := fun n c => by
  rw [List.mem_range'_1]
theorem in_sm (c : Nat) : decide (c ∈ tl "abcdefghijklmnopqrstuvwxyz") = isSm c := by
  have e : tl "abcdefghijklmnopqrstuvwxyz" = List.range' 97 26 := by decide +kernel
  rw [e]
  unfold isSm
  rw [Bool.eq_iff_iff, decide_eq_true_eq, Bool.and_eq_true, decide_eq_true_eq, decide_eq_true_eq, mem_rng]
  omega
theorem in_gr (c : Nat) : decide (c ∈ tl "ABCDEFGHIJKLMNOPQRSTUVWXYZ") = isGr c := by
  have e : tl "ABCDEFGHIJKLMNOPQRSTUVWXYZ" = List.range' 65 26 := by decide +kernel
  rw [e]
  unfold isGr
  rw [Bool.eq_iff_iff, decide_eq_true_eq, Bool.and_eq_true, decide_eq_true_eq, decide_eq_true_eq, mem_rng]
  omega
theorem in_fi (c : Nat) : decide (c ∈ tl "0123456789") = isFi c := by
  have e : tl "0123456789" = List.range' 48 10 := by decide +kernel
  rw [e]
  unfold isFi
  rw [Bool.eq_iff_iff, decide_eq_true_eq, Bool.and_eq_true, decide_eq_true_eq, decide_eq_true_eq, mem_rng]
  omega
theorem in_al (c : Nat) : decide (c ∈ tl ("abcdefghijklmnopqrstuvwxyz" ++ "ABCDEFGHIJKLMNOPQRSTUVWXYZ" ++ "0123456789" : Str)) = isAl c := by
  unfold isAl
  rw [← in_sm, ← in_gr, ← in_fi, tl_app, tl_app, Bool.eq_iff_iff]
  simp only [decide_eq_true_eq, Bool.or_eq_true, List.mem_append]
/-- how many from the left are so, at most n -/
def runLen (p : Nat → Bool) : Nat → List Nat → Nat
  | 0, _ => 0
  | _ + 1, [] => 0
  | n + 1, c :: r => if p c = true then runLen p n r + 1 else 0
theorem runLen_le (p : Nat → Bool) : ∀ (n : Nat) (s : List Nat), runLen p n s ≤ s.length
  | 0, _ => Nat.zero_le _
  | _ + 1, [] => Nat.zero_le _
  | n + 1, c :: r => by
    unfold runLen
    have h := runLen_le p n r
    split
    · rw [List.length_cons]
      omega
    · exact Nat.zero_le _
theorem runLen_cap (p : Nat → Bool) : ∀ (n : Nat) (s : List Nat), runLen p n s ≤ n
  | 0, _ => Nat.zero_le _
  | _ + 1, [] => Nat.zero_le _
  | n + 1, c :: r => by
    unfold runLen
    have h := runLen_cap p n r
    split <;> omega
/-- the run's end, as a loop finds it: all ahead are so, and it is the cap, the end, or one that isn't -/
theorem runLen_is {p : Nat → Bool} : ∀ {n : Nat} {s : List Nat} {k : Nat}, k ≤ n → (∀ j c, j < k → s[j]? = some c → p c = true) → k ≤ s.length → (k = n ∨ k = s.length ∨ ∃ c, s[k]? = some c ∧ p c = false) → runLen p n s = k
  | 0, s, k, h, _, _, _ => by
    have e : k = 0 := by omega
    subst e
    rfl
  | n + 1, [], k, _, _, h, _ => by
    have e : k = 0 := by simpa using h
    subst e
    rfl
  | n + 1, c :: r, 0, _, _, _, h => by
    rcases h with h | h | ⟨d, h1, h2⟩
    · omega
    · simp at h
    · have e : c = d := Option.some.inj h1
      subst e
      unfold runLen
      rw [if_neg (by rw [h2]; decide)]
  | n + 1, c :: r, k + 1, h, ha, hl, hx => by
    have hc : p c = true := ha 0 c (by omega) rfl
    unfold runLen
    rw [if_pos hc]
    refine congrArg (· + 1) (runLen_is (by omega) (fun j d hj hd => ha (j + 1) d (by omega) hd) (by simpa using hl) ?_)
    rcases hx with hx | hx | ⟨d, h1, h2⟩
    · exact .inl (by omega)
    · exact .inr (.inl (by simpa using hx))
    · exact .inr (.inr ⟨d, h1, h2⟩)
def isP : List Nat → List Nat → Bool
  | [], _ => true
  | _ :: _, [] => false
  | a :: l, b :: r => decide (a = b) && isP l r
theorem isP_take : ∀ (p s : List Nat), isP p s = decide (p.length ≤ s.length ∧ s.take p.length = p)
  | [], s => by simp [isP]
  | _ :: _, [] => by simp [isP]
  | a :: l, b :: r => by
    unfold isP
    rw [isP_take l r, Bool.eq_iff_iff]
    simp only [Bool.and_eq_true, decide_eq_true_eq, List.length_cons, List.take_succ_cons, List.cons.injEq]
    constructor
    · rintro ⟨rfl, h1, h2⟩
      exact ⟨by omega, rfl, h2⟩
    · rintro ⟨h1, rfl, h2⟩
      exact ⟨rfl, by omega, h2⟩
/-- row.startswith(sign, at) -/
theorem starts3 (a b : Str) (i : Nat) (h : i ≤ (tl a).length) : Txt.startswith3 a b (i : Int) = isP (tl b) ((tl a).drop i) := by
  unfold Txt.startswith3
  have e : fromIndex a.length (i : Int) = i := by
    unfold fromIndex
    rw [if_neg (by omega)]
    omega
  rw [e, isP_take, ← tl_len a, ← tl_len b, List.length_drop]
  unfold Builtin.Str.subAt
  rw [← tl_len b]
  rw [Bool.eq_iff_iff]
  simp only [Bool.and_eq_true, decide_eq_true_eq, beq_iff_eq]
  have key : (a.cps.extract i (i + (tl b).length) = b.cps) ↔ ((tl a).drop i).take (tl b).length = tl b := by
    constructor
    · intro h1
      have h2 := congrArg Array.toList h1
      rw [Array.toList_extract, List.extract_eq_take_drop] at h2
      rw [show i + (tl b).length - i = (tl b).length by omega] at h2
      exact h2
    · intro h1
      apply Array.toList_inj.mp
      rw [Array.toList_extract, List.extract_eq_take_drop]
      rw [show i + (tl b).length - i = (tl b).length by omega]
      exact h1
  rw [key]
  constructor
  · rintro ⟨h1, h2⟩
    exact ⟨by omega, h2⟩
  · rintro ⟨h1, h2⟩
    exact ⟨by omega, h2⟩
theorem cut_at (a : Str) (i j : Nat) (h : i ≤ j) (h2 : j ≤ (tl a).length) : cutS a (some (i : Int)) (some (j : Int)) = S (((tl a).drop i).take (j - i)) := by
  unfold cutS
  have e1 := HT.sIx_nat a.length 0 i
  have e2 := HT.sIx_nat a.length a.length j
  rw [e1, e2, ← tl_len a, Nat.min_eq_left (show i ≤ (tl a).length by omega), Nat.min_eq_left h2]
def WORDS : List Str := ["data", "let", "in", "if", "then", "else", "case", "of", "fun"]
def SIGNS : List Str := ["->", "==", "=", "|", "(", ")", "+", "-", "*", "<", "_"]
/-- the lexeme that begins a rest of a row: its sort and length -/
def lexOne (s : List Nat) : Str × Nat := match s with
  | [] => ("none", 0)
  | c :: r => if isSm c = true then (if S (s.take (runLen isSm 8 s)) ∈ WORDS then "word" else "name", runLen isSm 8 s)
    else if isGr c = true then ("maker", 1 + runLen isSm 7 r)
    else if c = 48 then ("number", 1)
    else if isFi c = true then ("number", runLen isFi s.length s)
    else match SIGNS.find? fun g => isP (tl g) s with
      | some g => ("sign", g.length)
      | none => ("none", 0)
structure Tk where
  row : Nat
  col : Nat
  sort : Str
  word : Str
/-- the lexemes of a rest of a row that begins at a place: what is found, or where none goes on -/
inductive LexR (num : Nat) : Nat → List Nat → Option (Nat × Nat) → List Tk → Prop
  | fin {i : Nat} {s : List Nat} : s = [] ∨ isP [45, 45] s = true → LexR num i s none []
  | blank {i : Nat} {r : List Nat} {e : Option (Nat × Nat)} {ts : List Tk} : LexR num (i + 1) r e ts → LexR num i (32 :: r) e ts
  | tok {i : Nat} {s : List Nat} {e : Option (Nat × Nat)} {ts : List Tk} {so : Str} {n : Nat} : s ≠ [] → s.head? ≠ some 32 → isP [45, 45] s = false → lexOne s = (so, n) → so ≠ "none" → 1 ≤ n → n ≤ s.length →
      (so ≠ "sign" → ∀ c, (s.drop n).head? = some c → isAl c = false) → LexR num (i + n) (s.drop n) e ts → LexR num i s e (⟨num, i + 1, so, S (s.take n)⟩ :: ts)
  | none {i : Nat} {s : List Nat} {n : Nat} : s ≠ [] → s.head? ≠ some 32 → isP [45, 45] s = false → lexOne s = (("none" : Str), n) → LexR num i s (some (num, i + 1)) []
  | glued {i : Nat} {s : List Nat} {so : Str} {n : Nat} {c : Nat} : s ≠ [] → s.head? ≠ some 32 → isP [45, 45] s = false → lexOne s = (so, n) → so ≠ "none" → n ≤ s.length →
      so ≠ "sign" → (s.drop n).head? = some c → isAl c = true → LexR num i s (some (num, i + n + 1)) []
/-! ### words that are lexemes, and what may stand behind them -/
def TokOk (so w : Str) : Prop :=
  (so = "name" ∧ (tl w).all isSm = true ∧ 1 ≤ (tl w).length ∧ (tl w).length ≤ 8 ∧ w ∉ WORDS) ∨ (so = "word" ∧ w ∈ WORDS) ∨
  (so = "maker" ∧ ∃ c r, tl w = c :: r ∧ isGr c = true ∧ r.all isSm = true ∧ r.length ≤ 7) ∨
  (so = "number" ∧ (tl w = [48] ∨ ∃ c r, tl w = c :: r ∧ isFi c = true ∧ c ≠ 48 ∧ r.all isFi = true)) ∨ (so = "sign" ∧ w ∈ SIGNS)
def HeadNot (p : Nat → Prop) (l : List Nat) : Prop := ∀ c, l.head? = some c → ¬ p c
def Sep (so w : Str) (rest : List Nat) : Prop :=
  (so ≠ "sign" → HeadNot (fun c => isAl c = true) rest) ∧ (so = "sign" → (w = "-" → HeadNot (fun c => c = 62 ∨ c = 45) rest) ∧ (w = "=" → HeadNot (fun c => c = 61) rest))
theorem runLen_app {p : Nat → Bool} : ∀ (l rest : List Nat) (n : Nat), l.all p = true → l.length ≤ n → HeadNot (fun c => p c = true) rest → runLen p n (l ++ rest) = l.length
  | [], rest, n, _, _, h => by
    cases n with
    | zero => rfl
    | succ n =>
      cases rest with
      | nil => rfl
      | cons c r =>
        show (if p c = true then runLen p n r + 1 else 0) = 0
        rw [if_neg (h c rfl)]
  | c :: l, rest, 0, _, h, _ => by simp at h
  | c :: l, rest, n + 1, ha, hl, h => by
    rw [List.all_cons, Bool.and_eq_true] at ha
    show (if p c = true then runLen p n (l ++ rest) + 1 else 0) = (c :: l).length
    rw [if_pos ha.1, runLen_app l rest n ha.2 (by simpa using hl) h]
    rfl
/-- .. where all that may be is taken -/
theorem runLen_full {p : Nat → Bool} : ∀ (l rest : List Nat), l.all p = true → runLen p l.length (l ++ rest) = l.length
  | [], rest, _ => rfl
  | c :: l, rest, ha => by
    rw [List.all_cons, Bool.and_eq_true] at ha
    show (if p c = true then runLen p l.length (l ++ rest) + 1 else 0) = (c :: l).length
    rw [if_pos ha.1, runLen_full l rest ha.2]
    rfl
theorem words_sm : ∀ w ∈ WORDS, (tl w).all isSm = true ∧ 1 ≤ (tl w).length ∧ (tl w).length ≤ 8 := by decide +kernel
theorem sm_not_al {l : List Nat} (h : HeadNot (fun c => isAl c = true) l) : HeadNot (fun c => isSm c = true) l := fun c e z => h c e (by show (isSm c || isGr c || isFi c) = true; rw [show isSm c = true from z]; rfl)
theorem fi_not_al {l : List Nat} (h : HeadNot (fun c => isAl c = true) l) : HeadNot (fun c => isFi c = true) l := fun c e z => h c e (by show (isSm c || isGr c || isFi c) = true; rw [show isFi c = true from z, Bool.or_true])
theorem sm_rng {c : Nat} (h : isSm c = true) : 97 ≤ c ∧ c ≤ 122 := by
  unfold isSm at h
  rw [Bool.and_eq_true, decide_eq_true_eq, decide_eq_true_eq] at h
  exact h
theorem gr_rng {c : Nat} (h : isGr c = true) : 65 ≤ c ∧ c ≤ 90 := by
  unfold isGr at h
  rw [Bool.and_eq_true, decide_eq_true_eq, decide_eq_true_eq] at h
  exact h
theorem fi_rng {c : Nat} (h : isFi c = true) : 48 ≤ c ∧ c ≤ 57 := by
  unfold isFi at h
  rw [Bool.and_eq_true, decide_eq_true_eq, decide_eq_true_eq] at h
  exact h
theorem not_sm {c : Nat} (h : ¬ (97 ≤ c ∧ c ≤ 122)) : ¬ isSm c = true := fun z => h (sm_rng z)
theorem not_gr {c : Nat} (h : ¬ (65 ≤ c ∧ c ≤ 90)) : ¬ isGr c = true := fun z => h (gr_rng z)
theorem not_fi {c : Nat} (h : ¬ (48 ≤ c ∧ c ≤ 57)) : ¬ isFi c = true := fun z => h (fi_rng z)
/-- what a lexeme must be for the lexer: its first sign is no blank, no remark, and it is taken whole -/
structure Taken (so w : Str) (s : List Nat) : Prop where
  ne : s ≠ []
  nb : s.head? ≠ some 32
  nr : isP [45, 45] s = false
  one : lexOne s = (so, (tl w).length)
  pos : 1 ≤ (tl w).length
theorem lexOne_sm {w : Str} {rest : List Nat} (h1 : (tl w).all isSm = true) (h2 : 1 ≤ (tl w).length) (h3 : (tl w).length ≤ 8) (h4 : HeadNot (fun c => isAl c = true) rest) : Taken (if w ∈ WORDS then "word" else "name") w (tl w ++ rest) := by
  have hr := runLen_app (p := isSm) (tl w) rest 8 h1 h3 (sm_not_al h4)
  have ht : S ((tl w ++ rest).take (tl w).length) = w := by rw [List.take_left]
  cases e : tl w with
  | nil =>
    rw [e] at h2
    simp at h2
  | cons c r =>
    rw [e] at h1 hr ht
    rw [List.all_cons, Bool.and_eq_true] at h1
    have hc := sm_rng h1.1
    refine ⟨by simp, ?_, ?_, ?_, h2⟩
    · rw [List.cons_append, List.head?_cons]
      intro z
      have := Option.some.inj z
      omega
    · show (decide (45 = c) && _) = false
      rw [decide_eq_false (by omega)]
      rfl
    · rw [List.cons_append] at hr ht ⊢
      unfold lexOne
      simp only
      rw [if_pos h1.1, hr, ht, e]
theorem TokOk.taken {so w : Str} {rest : List Nat} (h : TokOk so w) (hs : Sep so w rest) : Taken so w (tl w ++ rest) := by
  rcases h with ⟨rfl, h1, h2, h3, h4⟩ | ⟨rfl, h1⟩ | ⟨rfl, c, r, e, h1, h2, h3⟩ | ⟨rfl, h1⟩ | ⟨rfl, h1⟩
  · have t := lexOne_sm h1 h2 h3 (hs.1 (by decide +kernel))
    rw [if_neg h4] at t
    exact t
  · obtain ⟨a, b, c⟩ := words_sm w h1
    have t := lexOne_sm a b c (hs.1 (by decide +kernel))
    rw [if_pos h1] at t
    exact t
  · have hh := hs.1 (by decide +kernel)
    have hc := gr_rng h1
    rw [e]
    refine ⟨by simp, ?_, ?_, ?_, by rw [e]; simp⟩
    · rw [List.cons_append, List.head?_cons]
      intro z
      have := Option.some.inj z
      omega
    · show (decide (45 = c) && _) = false
      rw [decide_eq_false (by omega)]
      rfl
    · rw [List.cons_append]
      unfold lexOne
      simp only
      rw [if_neg (not_sm (by omega)), if_pos h1, runLen_app r rest 7 h2 h3 (sm_not_al hh), e, List.length_cons, Nat.add_comm]
  · have hh := hs.1 (by decide +kernel)
    rcases h1 with e | ⟨c, r, e, h1, h2, h3⟩
    · rw [e]
      refine ⟨by simp, by simp, rfl, ?_, by rw [e]; simp⟩
      rw [e]
      rfl
    · have hc := fi_rng h1
      rw [e]
      refine ⟨by simp, ?_, ?_, ?_, by rw [e]; simp⟩
      · rw [List.cons_append, List.head?_cons]
        intro z
        have := Option.some.inj z
        omega
      · show (decide (45 = c) && _) = false
        rw [decide_eq_false (by omega)]
        rfl
      · have ha : (c :: r).all isFi = true := by rw [List.all_cons, h1, h3]; rfl
        have hr := runLen_app (p := isFi) (c :: r) rest ((c :: r) ++ rest).length ha (by simp) (fi_not_al hh)
        rw [List.cons_append] at hr ⊢
        unfold lexOne
        simp only
        rw [if_neg (not_sm (by omega)), if_neg (not_gr (by omega)), if_neg h2, if_pos h1, hr, e]
  · obtain ⟨_, hs2⟩ := hs
    obtain ⟨hm, hq⟩ := hs2 rfl
    have fin : ∀ (g : Str) (gl : List Nat), tl g = gl → gl ≠ [] → gl.head? ≠ some 32 → isP [45, 45] (gl ++ rest) = false → lexOne (gl ++ rest) = (("sign" : Str), gl.length) → Taken "sign" g (tl g ++ rest) := by
      intro g gl e1 e2 e3 e4 e5
      subst e1
      refine ⟨by simp [e2], ?_, e4, e5, ?_⟩
      · cases q : tl g with
        | nil => exact absurd q e2
        | cons a b =>
          rw [q] at e3
          exact e3
      · cases q : tl g with
        | nil => exact absurd q e2
        | cons a b => simp
    have hne : ∀ {p : Nat → Prop} {c : Nat} {r : List Nat}, HeadNot p (c :: r) → ¬ p c := fun h => h _ rfl
    simp only [SIGNS, List.mem_cons, List.mem_nil_iff, or_false] at h1
    rcases h1 with rfl | rfl | rfl | rfl | rfl | rfl | rfl | rfl | rfl | rfl | rfl
    · exact fin _ [45, 62] (by decide +kernel) (by simp) (by simp) (by simp [isP]) rfl
    · exact fin _ [61, 61] (by decide +kernel) (by simp) (by simp) (by simp [isP]) rfl
    · have h := hq rfl
      refine fin _ [61] (by decide +kernel) (by simp) (by simp) (by simp [isP]) ?_
      cases rest with
      | nil => rfl
      | cons c r =>
        have h2 := hne h
        have e : SIGNS.find? (fun g => isP (tl g) (61 :: c :: r)) = some ("=" : Str) := by
          simp only [SIGNS, List.find?]
          have e1 : isP (tl "->") (61 :: c :: r) = false := rfl
          have e2 : isP (tl "==") (61 :: c :: r) = false := by
            show (decide (61 = 61) && (decide (61 = c) && _)) = false
            rw [decide_eq_false (show ¬ 61 = c by omega)]
            rfl
          have e3 : isP (tl "=") (61 :: c :: r) = true := rfl
          rw [e1, e2, e3] <;> rfl
        show lexOne (61 :: c :: r) = _
        unfold lexOne
        simp only
        rw [if_neg (by decide), if_neg (by decide), if_neg (by decide), if_neg (by decide), e]
        rfl
    · exact fin _ [124] (by decide +kernel) (by simp) (by simp) (by simp [isP]) rfl
    · exact fin _ [40] (by decide +kernel) (by simp) (by simp) (by simp [isP]) rfl
    · exact fin _ [41] (by decide +kernel) (by simp) (by simp) (by simp [isP]) rfl
    · exact fin _ [43] (by decide +kernel) (by simp) (by simp) (by simp [isP]) rfl
    · have h := hm rfl
      refine fin _ [45] (by decide +kernel) (by simp) (by simp) ?_ ?_
      · cases rest with
        | nil => rfl
        | cons c r =>
          have h2 := hne h
          show (decide (45 = 45) && (decide (45 = c) && _)) = false
          rw [decide_eq_false (show ¬ 45 = c by omega)]
          rfl
      · cases rest with
        | nil => rfl
        | cons c r =>
          have h2 := hne h
          have e : SIGNS.find? (fun g => isP (tl g) (45 :: c :: r)) = some ("-" : Str) := by
            simp only [SIGNS, List.find?]
            have e1 : isP (tl "->") (45 :: c :: r) = false := by
              show (decide (45 = 45) && (decide (62 = c) && _)) = false
              rw [decide_eq_false (show ¬ 62 = c by omega)]
              rfl
            have e2 : isP (tl "==") (45 :: c :: r) = false := rfl
            have e3 : isP (tl "=") (45 :: c :: r) = false := rfl
            have e4 : isP (tl "|") (45 :: c :: r) = false := rfl
            have e5 : isP (tl "(") (45 :: c :: r) = false := rfl
            have e6 : isP (tl ")") (45 :: c :: r) = false := rfl
            have e7 : isP (tl "+") (45 :: c :: r) = false := rfl
            have e8 : isP (tl "-") (45 :: c :: r) = true := rfl
            rw [e1, e2, e3, e4, e5, e6, e7, e8] <;> rfl
          show lexOne (45 :: c :: r) = _
          unfold lexOne
          simp only
          rw [if_neg (by decide), if_neg (by decide), if_neg (by decide), if_neg (by decide), e]
          rfl
    · exact fin _ [42] (by decide +kernel) (by simp) (by simp) (by simp [isP]) rfl
    · exact fin _ [60] (by decide +kernel) (by simp) (by simp) (by simp [isP]) rfl
    · exact fin _ [95] (by decide +kernel) (by simp) (by simp) (by simp [isP]) rfl
/-! ### a row that is put together from the left -/
def RowI (num : Nat) (line : List Nat) (ts : List Tk) (ok : List Nat → Prop) : Prop := ∀ rest e us, ok rest → LexR num line.length rest e us → LexR num 0 (line ++ rest) e (ts ++ us)
theorem lex_blk (num : Nat) : ∀ (k i : Nat) (rest : List Nat) {e : Option (Nat × Nat)} {us : List Tk}, LexR num (i + k) rest e us → LexR num i (List.replicate k 32 ++ rest) e us
  | 0, i, rest, e, us, h => h
  | k + 1, i, rest, e, us, h => by
    rw [List.replicate_succ, List.cons_append]
    refine .blank (lex_blk num k (i + 1) rest ?_)
    rw [show i + 1 + k = i + (k + 1) by omega]
    exact h
theorem RowI.start (num k : Nat) : RowI num (List.replicate k 32) [] (fun _ => True) := fun rest e us _ h => by
  rw [List.length_replicate] at h
  exact lex_blk num k 0 rest (by rw [Nat.zero_add]; exact h)
theorem RowI.blanks {num : Nat} {line : List Nat} {ts : List Tk} {ok : List Nat → Prop} (h : RowI num line ts ok) (k : Nat) (hk : ∀ r, ok (32 :: r)) : RowI num (line ++ List.replicate (k + 1) 32) ts (fun _ => True) := fun rest e us _ hl => by
  rw [List.append_assoc]
  refine h _ e us ?_ (lex_blk num (k + 1) line.length rest ?_)
  · rw [List.replicate_succ, List.cons_append]
    exact hk _
  · rw [List.length_append, List.length_replicate] at hl
    exact hl
theorem RowI.tok {num : Nat} {line : List Nat} {ts : List Tk} {ok : List Nat → Prop} {so w : Str} (h : RowI num line ts ok) (t : TokOk so w) (hk : ∀ r, ok (tl w ++ r)) (hn : so ≠ "none") :
    RowI num (line ++ tl w) (ts ++ [⟨num, line.length + 1, so, w⟩]) (Sep so w) := fun rest e us hs hl => by
  rw [List.append_assoc]
  have q := t.taken hs
  rw [List.append_assoc]
  refine h _ e _ (hk rest) ?_
  have d : (tl w ++ rest).drop (tl w).length = rest := List.drop_left
  have tk : (tl w ++ rest).take (tl w).length = tl w := List.take_left
  have r : LexR num line.length (tl w ++ rest) e (⟨num, line.length + 1, so, S ((tl w ++ rest).take (tl w).length)⟩ :: us) := by
    refine .tok q.ne q.nb q.nr q.one hn q.pos (by simp) (fun z c hc => ?_) ?_
    · rw [d] at hc
      have := hs.1 z c hc
      simpa using this
    · rw [d]
      rw [List.length_append] at hl
      exact hl
  rw [tk, S_tl'] at r
  exact r
theorem RowI.done {num : Nat} {line : List Nat} {ts : List Tk} {ok : List Nat → Prop} (h : RowI num line ts ok) (h0 : ok []) : LexR num 0 line none ts := by
  have r := h [] none [] h0 (.fin (.inl rfl))
  rw [List.append_nil, List.append_nil] at r
  exact r
theorem RowI.remark {num : Nat} {line : List Nat} {ts : List Tk} {ok : List Nat → Prop} (h : RowI num line ts ok) (hk : ∀ r, ok (32 :: r)) (r : List Nat) : LexR num 0 (line ++ 32 :: 45 :: 45 :: r) none ts := by
  have q := h (32 :: 45 :: 45 :: r) none [] (hk _) (.blank (.fin (.inr rfl)))
  rw [List.append_nil] at q
  exact q
theorem Sep.blank (so w : Str) (r : List Nat) : Sep so w (32 :: r) := by
  have e : ∀ {p : Nat → Prop}, ¬ p 32 → HeadNot p (32 :: r) := fun h c hc => by
    have z := Option.some.inj hc
    rw [← z]
    exact h
  exact ⟨fun _ => e (by decide), fun _ => ⟨fun _ => e (by decide), fun _ => e (by decide)⟩⟩
theorem Sep.nil (so w : Str) : Sep so w [] := ⟨fun _ c h => by simp at h, fun _ => ⟨fun _ c h => by simp at h, fun _ c h => by simp at h⟩⟩
end Sw
set_option Elab.async false
set_option linter.all false
set_option maxRecDepth 100000
set_option maxHeartbeats 4000000
/-! plain mathematics of another reading of lexemes -/
namespace Sw
open PySem PySem.Spec PyProof.Rows L2 SX
def isAp (c : Nat) : Bool := isSm c || isGr c
theorem u_fi : ∀ c, c < 128 → Unicode.isDigit c = isFi c := by decide +kernel
theorem u_ap : ∀ c, c < 128 → Unicode.isAlpha c = isAp c := by decide +kernel
theorem u_al : ∀ c, c < 128 → Unicode.isAlnum c = isAl c := by decide +kernel
theorem u_lo : ∀ c, c < 128 → Txt.islower (S [c]) = isSm c := by decide +kernel
theorem u_up : ∀ c, c < 128 → Txt.isupper (S [c]) = isGr c := by decide +kernel
theorem all_eq {p q : Nat → Bool} {l : List Nat} (h : ∀ c ∈ l, p c = q c) : l.all p = l.all q := by
  induction l with
  | nil => rfl
  | cons a l ih => rw [List.all_cons, List.all_cons, h a (List.mem_cons_self ..), ih fun c hc => h c (List.mem_cons_of_mem _ hc)]
theorem cls_txt {u p : Nat → Bool} (hu : ∀ c, c < 128 → u c = p c) {l : List Nat} (h : ∀ c ∈ l, c < 128) : (decide ((S l).length > 0) && (S l).cps.all u) = (decide (l ≠ []) && l.all p) := by
  rw [S_len, ← Array.all_toList]
  show (decide (l.length > 0) && l.all u) = _
  rw [all_eq fun c hc => hu c (h c hc)]
  cases l <;> rfl
theorem t_digit {l : List Nat} (h : ∀ c ∈ l, c < 128) : Txt.isdigit (S l) = (decide (l ≠ []) && l.all isFi) := cls_txt u_fi h
theorem t_alpha {l : List Nat} (h : ∀ c ∈ l, c < 128) : Txt.isalpha (S l) = (decide (l ≠ []) && l.all isAp) := cls_txt u_ap h
theorem t_alnum {l : List Nat} (h : ∀ c ∈ l, c < 128) : Txt.isalnum (S l) = (decide (l ≠ []) && l.all isAl) := cls_txt u_al h
theorem t_lower0 : Txt.islower (S []) = false := by decide +kernel
/-- a slice of a row, its end perhaps beyond -/
theorem cut_to (a : Str) (i j : Nat) (h : i ≤ j) (hi : i ≤ (tl a).length) : cutS a (some (i : Int)) (some (j : Int)) = S (((tl a).drop i).take (j - i)) := by
  unfold cutS
  have e1 := HT.sIx_nat a.length 0 i
  have e2 := HT.sIx_nat a.length a.length j
  rw [e1, e2, ← tl_len a, Nat.min_eq_left hi]
  by_cases hj : j ≤ (tl a).length
  · rw [Nat.min_eq_left hj]
  · rw [Nat.min_eq_right (by omega)]
    congr 2
    have q1 : ((tl a).drop i).length = (tl a).length - i := List.length_drop
    show List.take ((tl a).length - i) ((tl a).drop i) = List.take (j - i) ((tl a).drop i)
    rw [List.take_of_length_le (by omega), List.take_of_length_le (by omega)]
theorem runLen_step {p : Nat → Bool} {c : Nat} {r : List Nat} (n : Nat) (h : p c = true) : runLen p (n + 1) (c :: r) = runLen p n r + 1 := by
  show (if p c = true then runLen p n r + 1 else 0) = _
  rw [if_pos h]
theorem lexOne_fi {c : Nat} {r : List Nat} (h : isFi c = true) : lexOne (c :: r) = (("number" : Str), if c = 48 then 1 else runLen isFi r.length r + 1) := by
  have hc := fi_rng h
  unfold lexOne
  simp only
  rw [if_neg (not_sm (by omega)), if_neg (not_gr (by omega))]
  by_cases e : c = 48
  · rw [if_pos e, if_pos e]
  · rw [if_neg e, if_neg e, if_pos h, List.length_cons, runLen_step _ h]
theorem lexOne_ap {c : Nat} {r : List Nat} (h : isAp c = true) : (lexOne (c :: r)).2 = runLen isSm 7 r + 1 ∧ (lexOne (c :: r)).1 ≠ "none" := by
  unfold lexOne
  simp only
  by_cases hs : isSm c = true
  · rw [if_pos hs]
    refine ⟨runLen_step 7 hs, ?_⟩
    show (if S (List.take (runLen isSm 8 (c :: r)) (c :: r)) ∈ WORDS then ("word" : Str) else ("name" : Str)) ≠ ("none" : Str)
    split <;> decide +kernel
  · have hg : isGr c = true := by
      unfold isAp at h
      rcases Bool.or_eq_true_iff.mp h with h | h
      · exact absurd h hs
      · exact h
    rw [if_neg hs, if_pos hg]
    exact ⟨Nat.add_comm _ _, by show ("maker" : Str) ≠ ("none" : Str); decide +kernel⟩
def sg1 : List Nat := [61, 124, 40, 41, 43, 45, 42, 60, 95]
theorem sg1_eq : tl "=|()+-*<_" = sg1 := by decide +kernel
def TwoS (s : List Nat) : Bool := isP [45, 62] s || isP [61, 61] s
theorem find_other {c : Nat} {r : List Nat} (h : c ∉ sg1) : SIGNS.find? (fun g => isP (tl g) (c :: r)) = none := by
  rw [List.find?_eq_none]
  intro g hg
  have hh : ∀ g ∈ SIGNS, ∃ d l, tl g = d :: l ∧ d ∈ sg1 := by
    have h2 : ∀ g ∈ SIGNS, (match tl g with | [] => false | d :: _ => decide (d ∈ sg1)) = true := by decide +kernel
    intro g hg
    have q := h2 g hg
    cases e : tl g with
    | nil => rw [e] at q; cases q
    | cons d l => rw [e] at q; exact ⟨d, l, rfl, of_decide_eq_true q⟩
  obtain ⟨d, l, e, hd⟩ := hh g hg
  rw [e]
  show ¬ (decide (d = c) && isP l r) = true
  rw [decide_eq_false (fun z => h (by rw [← z]; exact hd)), Bool.false_and]
  decide
theorem lexOne_sg {c : Nat} {r : List Nat} (h1 : isFi c = false) (h2 : isAp c = false) :
    ((lexOne (c :: r)).1 = "none" ∧ (lexOne (c :: r)).2 = 0 ∧ TwoS (c :: r) = false ∧ c ∉ sg1) ∨ ((lexOne (c :: r)).1 = "sign" ∧ c ∈ sg1 ∧ (lexOne (c :: r)).2 = (if TwoS (c :: r) = true then 2 else 1) ∧ S ((c :: r).take (lexOne (c :: r)).2) ∈ SIGNS) := by
  have hs : ¬ isSm c = true := by unfold isAp at h2; intro z; rw [z] at h2; cases h2
  have hg : ¬ isGr c = true := by unfold isAp at h2; intro z; rw [z, Bool.or_true] at h2; cases h2
  have hf : ¬ isFi c = true := by rw [h1]; decide
  have h48 : ¬ c = 48 := fun z => by rw [z] at h1; cases h1
  have hl : lexOne (c :: r) = match SIGNS.find? fun g => isP (tl g) (c :: r) with | some g => (("sign" : Str), g.length) | none => (("none" : Str), 0) := by
    unfold lexOne
    simp only
    rw [if_neg hs, if_neg hg, if_neg h48, if_neg hf] <;> rfl
  by_cases hm : c ∈ sg1
  · right
    have hm2 := hm
    simp only [sg1, List.mem_cons, List.mem_nil_iff, or_false] at hm2
    rcases hm2 with rfl | rfl | rfl | rfl | rfl | rfl | rfl | rfl | rfl
    · cases r with
      | nil => exact ⟨rfl, hm, rfl, by decide +kernel⟩
      | cons d r =>
        by_cases hd : d = 61
        · subst hd
          exact ⟨rfl, hm, rfl, by show S [61, 61] ∈ SIGNS; decide +kernel⟩
        · have hf1 : SIGNS.find? (fun g => isP (tl g) (61 :: d :: r)) = some ("=" : Str) := by
            simp only [SIGNS, List.find?]
            have a1 : isP (tl "->") (61 :: d :: r) = false := rfl
            have a2 : isP (tl "==") (61 :: d :: r) = false := by
              show (decide (61 = 61) && (decide (61 = d) && _)) = false
              rw [decide_eq_false (show ¬ 61 = d by omega)]
              rfl
            have a3 : isP (tl "=") (61 :: d :: r) = true := rfl
            rw [a1, a2, a3] <;> rfl
          have ht : TwoS (61 :: d :: r) = false := by
            show (isP [45, 62] (61 :: d :: r) || (decide (61 = 61) && (decide (61 = d) && _))) = false
            rw [decide_eq_false (show ¬ 61 = d by omega)]
            rfl
          rw [hl, hf1, ht]
          exact ⟨rfl, hm, rfl, by show S [61] ∈ SIGNS; decide +kernel⟩
    · exact ⟨rfl, hm, rfl, by show S [124] ∈ SIGNS; decide +kernel⟩
    · exact ⟨rfl, hm, rfl, by show S [40] ∈ SIGNS; decide +kernel⟩
    · exact ⟨rfl, hm, rfl, by show S [41] ∈ SIGNS; decide +kernel⟩
    · exact ⟨rfl, hm, rfl, by show S [43] ∈ SIGNS; decide +kernel⟩
    · cases r with
      | nil => exact ⟨rfl, hm, rfl, by decide +kernel⟩
      | cons d r =>
        by_cases hd : d = 62
        · subst hd
          exact ⟨rfl, hm, rfl, by show S [45, 62] ∈ SIGNS; decide +kernel⟩
        · have hf1 : SIGNS.find? (fun g => isP (tl g) (45 :: d :: r)) = some ("-" : Str) := by
            simp only [SIGNS, List.find?]
            have a1 : isP (tl "->") (45 :: d :: r) = false := by
              show (decide (45 = 45) && (decide (62 = d) && _)) = false
              rw [decide_eq_false (show ¬ 62 = d by omega)]
              rfl
            have a2 : isP (tl "==") (45 :: d :: r) = false := rfl
            have a3 : isP (tl "=") (45 :: d :: r) = false := rfl
            have a4 : isP (tl "|") (45 :: d :: r) = false := rfl
            have a5 : isP (tl "(") (45 :: d :: r) = false := rfl
            have a6 : isP (tl ")") (45 :: d :: r) = false := rfl
            have a7 : isP (tl "+") (45 :: d :: r) = false := rfl
            have a8 : isP (tl "-") (45 :: d :: r) = true := rfl
            rw [a1, a2, a3, a4, a5, a6, a7, a8] <;> rfl
          have ht : TwoS (45 :: d :: r) = false := by
            show ((decide (45 = 45) && (decide (62 = d) && _)) || isP [61, 61] (45 :: d :: r)) = false
            rw [decide_eq_false (show ¬ 62 = d by omega)]
            rfl
          rw [hl, hf1, ht]
          exact ⟨rfl, hm, rfl, by show S [45] ∈ SIGNS; decide +kernel⟩
    · exact ⟨rfl, hm, rfl, by show S [42] ∈ SIGNS; decide +kernel⟩
    · exact ⟨rfl, hm, rfl, by show S [60] ∈ SIGNS; decide +kernel⟩
    · exact ⟨rfl, hm, rfl, by show S [95] ∈ SIGNS; decide +kernel⟩
  · left
    rw [hl, find_other hm]
    refine ⟨rfl, rfl, ?_, hm⟩
    have n1 : c ≠ 45 := fun z => hm (by rw [z]; decide)
    have n2 : c ≠ 61 := fun z => hm (by rw [z]; decide)
    show ((decide (45 = c) && _) || (decide (61 = c) && _)) = false
    rw [decide_eq_false n1.symm, decide_eq_false n2.symm]
    rfl
theorem run_all {p : Nat → Bool} : ∀ (n : Nat) (s : List Nat), (s.take (runLen p n s)).all p = true
  | 0, s => by simp [runLen]
  | n + 1, [] => by simp [runLen]
  | n + 1, c :: r => by
    unfold runLen
    split
    · rename_i h
      rw [List.take_succ_cons, List.all_cons, h, run_all n r]
      rfl
    · rfl
/-- what a lexeme's word is like -/
theorem tok_shape {c : Nat} {r : List Nat} {so : Str} {n : Nat} (h : lexOne (c :: r) = (so, n)) (hn : so ≠ "none") :
    (so = "number" ∧ ∃ l, (c :: r).take n = c :: l ∧ (c :: l).all isFi = true) ∨ (so = "maker" ∧ ∃ l, (c :: r).take n = c :: l ∧ isGr c = true ∧ l.all isSm = true) ∨
    (so = (if S ((c :: r).take n) ∈ WORDS then ("word" : Str) else "name") ∧ ∃ l, (c :: r).take n = c :: l ∧ (c :: l).all isSm = true) ∨ (so = "sign" ∧ S ((c :: r).take n) ∈ SIGNS) := by
  by_cases hf : isFi c = true
  · rw [lexOne_fi hf] at h
    obtain ⟨e1, e2⟩ := Prod.mk.inj h
    left
    refine ⟨e1.symm, ?_⟩
    by_cases e : c = 48
    · rw [if_pos e] at e2
      rw [← e2]
      exact ⟨[], rfl, by rw [List.all_cons, hf]; rfl⟩
    · rw [if_neg e] at e2
      rw [← e2, List.take_succ_cons]
      exact ⟨_, rfl, by rw [List.all_cons, hf, run_all]; rfl⟩
  · by_cases hs : isSm c = true
    · unfold lexOne at h
      simp only at h
      rw [if_pos hs] at h
      obtain ⟨e1, e2⟩ := Prod.mk.inj h
      right; right; left
      rw [← e1, ← e2]
      refine ⟨rfl, ?_⟩
      rw [runLen_step 7 hs, List.take_succ_cons]
      exact ⟨_, rfl, by rw [List.all_cons, hs, run_all]; rfl⟩
    · by_cases hg : isGr c = true
      · unfold lexOne at h
        simp only at h
        rw [if_neg hs, if_pos hg] at h
        obtain ⟨e1, e2⟩ := Prod.mk.inj h
        right; left
        rw [← e1, ← e2, Nat.add_comm 1, List.take_succ_cons]
        exact ⟨rfl, _, rfl, hg, run_all 7 r⟩
      · have h2 : isAp c = false := by
          unfold isAp
          simp at hs hg
          rw [hs, hg]
          rfl
        rcases lexOne_sg (r := r) (by simpa using hf) h2 with ⟨q, _⟩ | ⟨q1, _, _, q4⟩
        · rw [h] at q
          exact absurd q hn
        · rw [h] at q1 q4
          exact .inr (.inr (.inr ⟨q1, q4⟩))
theorem sm_ap {l : List Nat} (h : l.all isSm = true) : l.all isAl = true := by
  rw [List.all_eq_true] at h ⊢
  intro x hx
  unfold isAl
  rw [h x hx]
  rfl
theorem fi_al {l : List Nat} (h : l.all isFi = true) : l.all isAl = true := by
  rw [List.all_eq_true] at h ⊢
  intro x hx
  unfold isAl
  rw [h x hx, Bool.or_true]
/-- its last sign is a letter or a figure just where it is no sign -/
theorem tok_last {c : Nat} {r : List Nat} {so : Str} {n : Nat} {d : Nat} (h : lexOne (c :: r) = (so, n)) (hn : so ≠ "none") (hd : ((c :: r).take n).getLast? = some d) : isAl d = true ↔ so ≠ "sign" := by
  have mem : d ∈ (c :: r).take n := List.mem_of_getLast? hd
  rcases tok_shape h hn with ⟨e, l, e2, h2⟩ | ⟨e, l, e2, h2, h3⟩ | ⟨e, l, e2, h2⟩ | ⟨e, h2⟩
  · rw [e2] at mem
    have q := List.all_eq_true.mp (fi_al h2) d mem
    rw [q, e]
    exact ⟨fun _ => by decide +kernel, fun _ => rfl⟩
  · rw [e2] at mem
    have q : isAl d = true := by
      rcases List.mem_cons.mp mem with rfl | m
      · unfold isAl
        rw [h2]
        simp
      · exact List.all_eq_true.mp (sm_ap h3) d m
    rw [q, e]
    exact ⟨fun _ => by decide +kernel, fun _ => rfl⟩
  · rw [e2] at mem
    have q := List.all_eq_true.mp (sm_ap h2) d mem
    rw [q, e]
    refine ⟨fun _ => ?_, fun _ => rfl⟩
    split <;> decide +kernel
  · have hh : ∀ g ∈ SIGNS, ∀ d ∈ tl g, isAl d = false := by decide +kernel
    have q := hh _ h2 d mem
    rw [q, e]
    exact ⟨fun z => (by cases z), fun z => absurd rfl z⟩
end Sw
set_option Elab.async false
set_option linter.all false
set_option maxRecDepth 100000
set_option maxHeartbeats 4000000
/-! layout as a plain machine -/
namespace Sw
open PySem PySem.Spec PyProof.Rows L2 SX
structure Ent where
  b : Bool
  col : Nat
  num : Option Nat
structure LSt where
  told : List Tk
  pile : List Ent
  lets : List Nat
  op : Option Str
  line : Nat
def mkT (r c : Nat) (w : Str) : Tk := ⟨r, c, "mark", w⟩
def shuts (r c n : Nat) : List Tk := List.replicate n (mkT r c "shut")
def colOf (pile : List Ent) : Nat := (((pile.filter (·.b)).map (·.col)).getLast?).getD 0
def UNM : List Str := ["in", "then", "else", "of", ")", "|"]
def nlR (c : Nat) : List Ent → Nat × List Ent
  | [] => (0, [])
  | e :: r => if e.b = true ∧ c < e.col then ((nlR c r).1 + 1, (nlR c r).2) else (0, e :: r)
def letR (n : Nat) : List Ent → Option (Nat × List Ent)
  | [] => none
  | e :: r => if e.b = true then (if e.num = some n then some (1, r) else (letR n r).map fun q => (q.1 + 1, q.2)) else none
def brR : List Ent → Option (Nat × List Ent)
  | [] => none
  | e :: r => if e.b = true then (brR r).map fun q => (q.1 + 1, q.2) else some (0, r)
def openS (s : LSt) (r c : Nat) : LSt × Bool :=
  if c ≤ colOf s.pile then ({ s with told := s.told ++ [mkT r c "open"] ++ [mkT r c "shut"], op := none }, false)
  else ({ s with told := s.told ++ [mkT r c "open"], pile := s.pile ++ [⟨true, c, if s.op = some "let" then s.lets.getLast? else none⟩], op := none }, true)
def popS (s : LSt) (r c : Nat) (q : Nat × List Ent) : LSt := { s with told := s.told ++ shuts r c q.1, pile := q.2.reverse }
def topIs (pile : List Ent) (c : Nat) : Bool := match pile.getLast? with
  | some e => e.b && decide (e.col = c)
  | none => false
def itemS (s : LSt) (r c : Nat) (w : Str) : LSt := if topIs s.pile c = true ∧ w ∉ UNM then { s with told := s.told ++ [mkT r c "item"] } else s
def lineS (s : LSt) (r c : Nat) (w : Str) : LSt := itemS (popS s r c (nlR c s.pile.reverse)) r c w
def letS (s : LSt) (r c : Nat) : LSt := match s.lets.getLast? with
  | none => s
  | some n => match letR n s.pile.reverse with
    | none => { s with lets := s.lets.dropLast }
    | some q => popS { s with lets := s.lets.dropLast } r c q
def brS (s : LSt) (r c : Nat) : LSt := match brR s.pile.reverse with
  | none => s
  | some q => popS s r c q
def s1S (s : LSt) (t : Tk) : LSt × Bool := if s.op.isSome = true then openS s t.row t.col else (s, false)
def s2S (p : LSt × Bool) (t : Tk) : LSt := { (if p.2 = false ∧ p.1.line < t.row then lineS p.1 t.row t.col t.word else p.1) with line := t.row }
def s3S (s : LSt) (t : Tk) : LSt := if t.word = "in" then letS s t.row t.col else if t.word = ")" then brS s t.row t.col else s
def s4S (s : LSt) (t : Tk) : LSt := { s with told := s.told ++ [t] }
def s5S (s : LSt) (t : Tk) : LSt := if t.word = "(" then { s with pile := s.pile ++ [⟨false, 0, none⟩] }
  else if t.word = "let" then { s with op := some "let", lets := s.lets ++ [s.told.length] } else if t.word = "of" then { s with op := some "of" } else s
def takeS (s : LSt) (t : Tk) : LSt := s5S (s4S (s3S (s2S (s1S s t) t) t) t) t
def initS : LSt := ⟨[], [], [], some "text", 0⟩
def nB (pile : List Ent) : Nat := (pile.filter (·.b)).length
def endS (s : LSt) (r c : Nat) : LSt :=
  { s with told := (if s.op = some "text" then s.told ++ [mkT r c "open"] ++ [mkT r c "shut"] else s.told) ++ shuts r c (nB s.pile) }
def endP : List Tk → Nat × Nat
  | [] => (1, 1)
  | t :: ts => match ts with
    | [] => (t.row, t.col + t.word.length)
    | _ => endP ts
def laidS (ts : List Tk) : List Tk := (endS (ts.foldl takeS initS) (endP ts).1 (endP ts).2).told
/-! ### what holds of it all along -/
/-- the count of blocks still open, none below none -/
def balF : Option Nat → Tk → Option Nat
  | none, _ => none
  | some n, t => if t.sort = "mark" then (if t.word = "open" then some (n + 1) else if t.word = "shut" then (match n with | 0 => none | n + 1 => some n) else some n) else some n
def bal (l : List Tk) : Option Nat := l.foldl balF (some 0)
def nums (pile : List Ent) : List Nat := pile.filterMap (·.num)
structure InvS (s : LSt) : Prop where
  nd : (nums s.pile).Nodup
  le : ∀ n ∈ nums s.pile, n ≤ s.told.length
  lle : ∀ n ∈ s.lets, 1 ≤ n ∧ n ≤ s.told.length
  op : s.op = some "let" → ∃ n, s.lets.getLast? = some n ∧ n ∉ nums s.pile
  bal : bal s.told = some (nB s.pile)
  ops : ∀ o, s.op = some o → o = "text" ∨ o = "let" ∨ o = "of"
theorem bal_app (l m : List Tk) : bal (l ++ m) = m.foldl balF (bal l) := List.foldl_append ..
theorem mark_ne : ("mark" : Str) = "mark" := rfl
theorem bal_open {l : List Tk} {n r c : Nat} (h : bal l = some n) : bal (l ++ [mkT r c "open"]) = some (n + 1) := by
  rw [bal_app, h]
  show balF (some n) (mkT r c "open") = _
  simp only [balF, mkT, if_true]
theorem open_ne_shut : ¬ ("shut" : Str) = "open" := by decide +kernel
theorem item_ne : ¬ ("item" : Str) = "open" ∧ ¬ ("item" : Str) = "shut" := by decide +kernel
theorem bal_shut {l : List Tk} {n r c : Nat} (h : bal l = some (n + 1)) : bal (l ++ [mkT r c "shut"]) = some n := by
  rw [bal_app, h]
  show balF (some (n + 1)) (mkT r c "shut") = _
  simp only [balF, mkT, if_true]
  rw [if_neg open_ne_shut]
theorem bal_item {l : List Tk} {n r c : Nat} (h : bal l = some n) : bal (l ++ [mkT r c "item"]) = some n := by
  rw [bal_app, h]
  show (if ("mark" : Str) = "mark" then (if ("item" : Str) = "open" then some (n + 1) else if ("item" : Str) = "shut" then (match n with | 0 => none | n + 1 => some n) else some n) else some n) = some n
  rw [if_pos rfl, if_neg item_ne.1, if_neg item_ne.2]
theorem bal_tok {l : List Tk} {n : Nat} {t : Tk} (ht : t.sort ≠ "mark") (h : bal l = some n) : bal (l ++ [t]) = some n := by
  rw [bal_app, h]
  show balF (some n) t = _
  simp only [balF]
  rw [if_neg ht]
theorem bal_shuts {r c : Nat} : ∀ (k : Nat) {l : List Tk} {n : Nat}, bal l = some (n + k) → bal (l ++ shuts r c k) = some n
  | 0, l, n, h => by
    rw [show shuts r c 0 = [] from rfl, List.append_nil]
    exact h
  | k + 1, l, n, h => by
    rw [show shuts r c (k + 1) = [mkT r c "shut"] ++ shuts r c k from rfl, ← List.append_assoc]
    exact bal_shuts k (bal_shut h)
theorem nB_app (a b : List Ent) : nB (a ++ b) = nB a + nB b := by unfold nB; rw [List.filter_append, List.length_append]
theorem nB_rev (a : List Ent) : nB a.reverse = nB a := by
  unfold nB
  rw [List.filter_reverse, List.length_reverse]
theorem nums_app (a b : List Ent) : nums (a ++ b) = nums a ++ nums b := List.filterMap_append
/-- a pop leaves the deeper part, q.1 blocks less -/
def Pops (a : List Ent) (q : Nat × List Ent) : Prop := ∃ u, a = u ++ q.2 ∧ nB u = q.1
theorem nlR_pops (c : Nat) : ∀ a : List Ent, Pops a (nlR c a)
  | [] => ⟨[], rfl, rfl⟩
  | e :: r => by
    unfold nlR
    split
    · rename_i h
      obtain ⟨u, h1, h2⟩ := nlR_pops c r
      refine ⟨e :: u, ?_, ?_⟩
      · show e :: r = e :: (u ++ (nlR c r).2)
        rw [← h1]
      · show nB (e :: u) = (nlR c r).1 + 1
        unfold nB at h2 ⊢
        rw [List.filter_cons_of_pos h.1, List.length_cons, h2]
    · exact ⟨[], rfl, rfl⟩
theorem letR_pops (n : Nat) : ∀ (a : List Ent) q, letR n a = some q → Pops a q
  | [], q, h => by cases h
  | e :: r, q, h => by
    unfold letR at h
    split at h
    · rename_i hb
      split at h
      · cases h
        exact ⟨[e], rfl, by unfold nB; rw [List.filter_cons_of_pos hb]; rfl⟩
      · cases hr : letR n r with
        | none => rw [hr] at h; cases h
        | some q' =>
          rw [hr] at h
          cases h
          obtain ⟨u, h1, h2⟩ := letR_pops n r q' hr
          refine ⟨e :: u, by rw [h1]; rfl, ?_⟩
          unfold nB at h2 ⊢
          rw [List.filter_cons_of_pos hb, List.length_cons, h2]
    · cases h
theorem brR_pops : ∀ (a : List Ent) q, brR a = some q → Pops a q
  | [], q, h => by cases h
  | e :: r, q, h => by
    unfold brR at h
    split at h
    · rename_i hb
      cases hr : brR r with
      | none => rw [hr] at h; cases h
      | some q' =>
        rw [hr] at h
        cases h
        obtain ⟨u, h1, h2⟩ := brR_pops r q' hr
        refine ⟨e :: u, by rw [h1]; rfl, ?_⟩
        unfold nB at h2 ⊢
        rw [List.filter_cons_of_pos hb, List.length_cons, h2]
    · rename_i hb
      cases h
      exact ⟨[e], rfl, by unfold nB; rw [List.filter_cons_of_neg hb]; rfl⟩
theorem popS_inv {s : LSt} (h : InvS s) (r c : Nat) {q : Nat × List Ent} (hq : Pops s.pile.reverse q) : InvS (popS s r c q) := by
  obtain ⟨u, h1, h2⟩ := hq
  have e : s.pile = q.2.reverse ++ u.reverse := by rw [← List.reverse_append, ← h1, List.reverse_reverse]
  have en : nums s.pile = nums q.2.reverse ++ nums u.reverse := by rw [e, nums_app]
  have sub : ∀ n ∈ nums q.2.reverse, n ∈ nums s.pile := fun n hn => by rw [en]; exact List.mem_append_left _ hn
  refine ⟨?_, fun n hn => ?_, fun n hn => ?_, fun ho => ?_, ?_, h.ops⟩
  · have := h.nd
    rw [en] at this
    exact (List.nodup_append.mp this).1
  · have := h.le n (sub n hn)
    show n ≤ (s.told ++ shuts r c q.1).length
    rw [List.length_append]
    omega
  · have := h.lle n hn
    show 1 ≤ n ∧ n ≤ (s.told ++ shuts r c q.1).length
    rw [List.length_append]
    omega
  · obtain ⟨n, h3, h4⟩ := h.op ho
    exact ⟨n, h3, fun z => h4 (sub n z)⟩
  · refine bal_shuts q.1 ?_
    show bal s.told = some (nB q.2.reverse + q.1)
    rw [h.bal, e, nB_app, nB_rev u, h2]
theorem openS_inv {s : LSt} (h : InvS s) (r c : Nat) : InvS (openS s r c).1 := by
  unfold openS
  split
  · refine ⟨h.nd, fun n hn => ?_, fun n hn => ?_, (fun z => by cases z), bal_shut (bal_open h.bal), (fun o z => by cases z)⟩
    · have := h.le n hn
      simp
      omega
    · have := h.lle n hn
      simp
      omega
  · have hn' : nums [(⟨true, c, if s.op = some "let" then s.lets.getLast? else none⟩ : Ent)] = [] ∨ ∃ n, s.lets.getLast? = some n ∧ n ∉ nums s.pile ∧ nums [(⟨true, c, if s.op = some "let" then s.lets.getLast? else none⟩ : Ent)] = [n] := by
      by_cases ho : s.op = some "let"
      · right
        obtain ⟨n, h1, h2⟩ := h.op ho
        refine ⟨n, h1, h2, ?_⟩
        unfold nums
        rw [if_pos ho, h1]
        rfl
      · left
        unfold nums
        rw [if_neg ho]
        rfl
    refine ⟨?_, fun n hn => ?_, fun n hn => ?_, (fun z => by cases z), ?_, (fun o z => by cases z)⟩
    · show (nums (s.pile ++ _)).Nodup
      rw [nums_app]
      rcases hn' with e | ⟨n, h1, h2, e⟩
      · rw [e, List.append_nil]
        exact h.nd
      · rw [e]
        rw [List.nodup_append]
        refine ⟨h.nd, by simp, fun a ha b hb => ?_⟩
        rw [List.mem_singleton.mp hb]
        intro z
        exact h2 (z ▸ ha)
    · show n ≤ (s.told ++ _).length
      rw [List.length_append]
      have hn2 : n ∈ nums (s.pile ++ _) := hn
      rw [nums_app] at hn2
      rcases List.mem_append.mp hn2 with hn | hn
      · have := h.le n hn
        omega
      · rcases hn' with e | ⟨m, h1, h2, e⟩
        · rw [e] at hn
          cases hn
        · rw [e] at hn
          have := h.lle m (List.mem_of_getLast? h1)
          rw [List.mem_singleton.mp hn]
          omega
    · have := h.lle n hn
      show 1 ≤ n ∧ n ≤ (s.told ++ _).length
      rw [List.length_append]
      omega
    · show bal (s.told ++ [mkT r c "open"]) = some (nB (s.pile ++ _))
      rw [nB_app]
      exact bal_open h.bal
theorem itemS_inv {s : LSt} (h : InvS s) (r c : Nat) (w : Str) : InvS (itemS s r c w) := by
  unfold itemS
  split
  · refine ⟨h.nd, fun n hn => ?_, fun n hn => ?_, h.op, bal_item h.bal, h.ops⟩
    · have := h.le n hn
      simp
      omega
    · have := h.lle n hn
      simp
      omega
  · exact h
theorem dropLast_inv {s : LSt} (h : InvS s) (hop : s.op = none) : InvS { s with lets := s.lets.dropLast } :=
  ⟨h.nd, h.le, fun n hn => h.lle n (List.dropLast_subset _ hn), (fun z => by rw [show s.op = some "let" from z] at hop; cases hop), h.bal, h.ops⟩
theorem s1S_op (s : LSt) (t : Tk) : (s1S s t).1.op = none := by
  unfold s1S
  split
  · unfold openS
    split <;> rfl
  · rename_i h
    cases e : s.op with
    | none => rfl
    | some o => rw [e] at h; exact absurd rfl h
theorem s2S_op (p : LSt × Bool) (t : Tk) (h : p.1.op = none) : (s2S p t).op = none := by
  unfold s2S
  split
  · unfold lineS itemS
    split <;> exact h
  · exact h
theorem takeS_inv {s : LSt} (h : InvS s) {t : Tk} (ht : t.sort ≠ "mark") : InvS (takeS s t) := by
  show InvS (s5S (s4S (s3S (s2S (s1S s t) t) t) t) t)
  have h1 : InvS (s1S s t).1 := by
    unfold s1S
    split
    · exact openS_inv h _ _
    · exact h
  have o1 := s1S_op s t
  have h2 : InvS (s2S (s1S s t) t) := by
    unfold s2S
    split
    · have := itemS_inv (popS_inv h1 t.row t.col (nlR_pops t.col _)) t.row t.col t.word
      exact ⟨this.nd, this.le, this.lle, this.op, this.bal, this.ops⟩
    · exact ⟨h1.nd, h1.le, h1.lle, h1.op, h1.bal, h1.ops⟩
  have o2 := s2S_op _ t o1
  generalize s2S (s1S s t) t = s2 at h2 o2 ⊢
  have h3 : InvS (s3S s2 t) ∧ (s3S s2 t).op = none := by
    unfold s3S
    split
    · unfold letS
      split
      · exact ⟨h2, o2⟩
      · split
        · exact ⟨dropLast_inv h2 o2, o2⟩
        · rename_i q hq
          exact ⟨popS_inv (dropLast_inv h2 o2) _ _ (letR_pops _ _ _ hq), o2⟩
    · split
      · unfold brS
        split
        · exact ⟨h2, o2⟩
        · rename_i q hq
          exact ⟨popS_inv h2 _ _ (brR_pops _ _ hq), o2⟩
      · exact ⟨h2, o2⟩
  obtain ⟨h3, o3⟩ := h3
  generalize s3S s2 t = s3 at h3 o3 ⊢
  have h4 : InvS (s4S s3 t) := by
    refine ⟨h3.nd, fun n hn => ?_, fun n hn => ?_, h3.op, bal_tok ht h3.bal, h3.ops⟩
    · have := h3.le n hn
      show n ≤ (s3.told ++ [t]).length
      simp
      omega
    · have := h3.lle n hn
      show 1 ≤ n ∧ n ≤ (s3.told ++ [t]).length
      simp
      omega
  have hlt : ∀ n ∈ nums s3.pile, n < (s3.told ++ [t]).length := fun n hn => by
    have := h3.le n hn
    simp
    omega
  have hpile : (s4S s3 t).pile = s3.pile := rfl
  have htold : (s4S s3 t).told = s3.told ++ [t] := rfl
  have o4 : (s4S s3 t).op = none := o3
  generalize s4S s3 t = s4 at h4 hpile htold o4 ⊢
  unfold s5S
  split
  · have e1 : nums (s4.pile ++ [(⟨false, 0, none⟩ : Ent)]) = nums s4.pile := by rw [nums_app]; exact List.append_nil _
    refine ⟨by rw [e1]; exact h4.nd, fun n hn => h4.le n (by rw [e1] at hn; exact hn), h4.lle, (fun z => by rw [show s4.op = some "let" from z] at o4; cases o4), ?_, h4.ops⟩
    rw [nB_app]
    exact h4.bal
  · split
    · refine ⟨h4.nd, h4.le, fun n hn => ?_, fun _ => ⟨s4.told.length, by simp, fun z => ?_⟩, h4.bal, fun o z => .inr (.inl (Option.some.inj z).symm)⟩
      · rcases List.mem_append.mp hn with hn | hn
        · exact h4.lle n hn
        · rw [List.mem_singleton.mp hn, htold]
          simp
      · have z1 : s4.told.length ∈ nums s3.pile := hpile ▸ z
        have := hlt _ z1
        rw [← htold] at this
        omega
    · split
      · exact ⟨h4.nd, h4.le, h4.lle, (fun z => absurd (Option.some.inj z) (by decide +kernel)), h4.bal, fun o z => .inr (.inr (Option.some.inj z).symm)⟩
      · exact h4
theorem initS_inv : InvS initS := ⟨List.nodup_nil, (fun n hn => by cases hn), (fun n hn => by cases hn), (fun z => absurd (Option.some.inj z) (by decide +kernel)), rfl, fun o z => .inl (Option.some.inj z).symm⟩
theorem foldS_inv : ∀ (ts : List Tk) {s : LSt}, InvS s → (∀ t ∈ ts, t.sort ≠ "mark") → InvS (ts.foldl takeS s)
  | [], _, h, _ => h
  | t :: ts, _, h, ht => foldS_inv ts (takeS_inv h (ht t (List.mem_cons_self ..))) fun x hx => ht x (List.mem_cons_of_mem _ hx)
theorem endS_bal {s : LSt} (h : InvS s) (r c : Nat) : bal (endS s r c).told = some 0 := by
  unfold endS
  refine bal_shuts (nB s.pile) ?_
  rw [Nat.zero_add]
  split
  · exact bal_shut (bal_open h.bal)
  · exact h.bal
theorem laidS_bal {ts : List Tk} (h : ∀ t ∈ ts, t.sort ≠ "mark") : bal (laidS ts) = some 0 := endS_bal (foldS_inv ts initS_inv h) _ _
/-! ### the lexemes among what is told -/
def toks (l : List Tk) : List Tk := l.filter fun t => decide (t.sort ≠ "mark")
theorem toks_app (a b : List Tk) : toks (a ++ b) = toks a ++ toks b := List.filter_append ..
theorem toks_mk (r c : Nat) (w : Str) : toks [mkT r c w] = [] := by
  simp [toks, mkT]
theorem toks_shuts (r c : Nat) : ∀ n, toks (shuts r c n) = []
  | 0 => rfl
  | n + 1 => by
    rw [show shuts r c (n + 1) = [mkT r c "shut"] ++ shuts r c n from rfl, toks_app, toks_shuts r c n, toks_mk]
    rfl
theorem toks_pop (s : LSt) (r c : Nat) (q : Nat × List Ent) : toks (popS s r c q).told = toks s.told := by
  show toks (s.told ++ shuts r c q.1) = _
  rw [toks_app, toks_shuts, List.append_nil]
theorem toks_take {s : LSt} {t : Tk} (ht : t.sort ≠ "mark") : toks (takeS s t).told = toks s.told ++ [t] := by
  show toks (s5S (s4S (s3S (s2S (s1S s t) t) t) t) t).told = _
  have h1 : toks (s1S s t).1.told = toks s.told := by
    unfold s1S
    split
    · unfold openS
      split
      · show toks (s.told ++ [_] ++ [_]) = _
        rw [toks_app, toks_app, toks_mk, toks_mk, List.append_nil, List.append_nil]
      · show toks (s.told ++ [_]) = _
        rw [toks_app, toks_mk, List.append_nil]
    · rfl
  have h2 : toks (s2S (s1S s t) t).told = toks s.told := by
    rw [← h1]
    unfold s2S
    split
    · show toks (lineS _ _ _ _).told = _
      unfold lineS itemS
      split
      · show toks ((popS _ _ _ _).told ++ [_]) = _
        rw [toks_app, toks_mk, List.append_nil, toks_pop]
      · rw [toks_pop]
    · rfl
  generalize s2S (s1S s t) t = s2 at h2 ⊢
  have h3 : toks (s3S s2 t).told = toks s.told := by
    rw [← h2]
    unfold s3S
    split
    · unfold letS
      split
      · rfl
      · split
        · rfl
        · rw [toks_pop]
    · split
      · unfold brS
        split
        · rfl
        · rw [toks_pop]
      · rfl
  generalize s3S s2 t = s3 at h3 ⊢
  have h4 : toks (s4S s3 t).told = toks s.told ++ [t] := by
    show toks (s3.told ++ [t]) = _
    rw [toks_app, h3, show toks [t] = [t] from by simp [toks, ht]]
  have h5 : (s5S (s4S s3 t) t).told = (s4S s3 t).told := by
    unfold s5S
    split
    · rfl
    · split
      · rfl
      · split <;> rfl
  rw [h5, h4]
theorem toks_fold : ∀ (ts : List Tk) {s : LSt}, (∀ t ∈ ts, t.sort ≠ "mark") → toks (ts.foldl takeS s).told = toks s.told ++ ts
  | [], s, _ => (List.append_nil _).symm
  | t :: ts, s, h => by
    show toks (ts.foldl takeS (takeS s t)).told = _
    rw [toks_fold ts fun x hx => h x (List.mem_cons_of_mem _ hx), toks_take (h t (List.mem_cons_self ..)), List.append_assoc]
    rfl
theorem toks_laid {ts : List Tk} (h : ∀ t ∈ ts, t.sort ≠ "mark") : toks (laidS ts) = ts := by
  unfold laidS endS
  show toks ((if _ then _ else _) ++ shuts _ _ _) = ts
  rw [toks_app, toks_shuts, List.append_nil]
  split
  · rw [toks_app, toks_app, toks_mk, toks_mk, List.append_nil, List.append_nil]
    exact toks_fold ts h
  · exact toks_fold ts h
end Sw
set_option Elab.async false
set_option linter.all false
set_option maxRecDepth 100000
set_option maxHeartbeats 4000000
namespace Sw
open PySem PySem.Spec PyProof.Rows L2 SX
def topS (i : Nat) : Stmt := PySem.Challenge.pw_slumberway_k03_layout.main.body.getD i (.Pass ⟨0, 0, 0, 0⟩)
abbrev s_L_mixed : Stmt := topS 18
theorem sc_L_mixed : FnScope ["_law_cell", "_law_k", "_law_number"] ["_law_cell", "_law_k"] (defScope s_L_mixed) := ⟨rfl, rfl, rfl, by decide +kernel, rfl, by decide +kernel, by decide +kernel⟩
abbrev s_L_purse : Stmt := topS 19
theorem sc_L_purse : FnScope ["_law_cell", "_law_k"] ["_law_cell", "_law_k"] (defScope s_L_purse) := ⟨rfl, rfl, rfl, by decide +kernel, rfl, by decide +kernel, by decide +kernel⟩
abbrev s_L_take : Stmt := topS 20
theorem sc_L_take : FnScope ["_law_purse_here", "_law_many", "_law_got"] ["_law_purse_here", "_law_many"] (defScope s_L_take) := ⟨rfl, rfl, rfl, by decide +kernel, rfl, by decide +kernel, by decide +kernel⟩
abbrev s_L_at : Stmt := topS 21
theorem sc_L_at : FnScope ["_law_script", "_law_k"] ["_law_script", "_law_k"] (defScope s_L_at) := ⟨rfl, rfl, rfl, by decide +kernel, rfl, by decide +kernel, by decide +kernel⟩
abbrev s_L_scattered : Stmt := topS 22
theorem sc_L_scattered : FnScope ["_law_purse_here", "_law_steps", "_law_lines", "_law_number", "_law_line", "_law_k", "_law_some", "_law_sign"] ["_law_purse_here", "_law_steps"] (defScope s_L_scattered) := ⟨rfl, rfl, rfl, by decide +kernel, rfl, by decide +kernel, by decide +kernel⟩
abbrev s_L_kept_lines : Stmt := topS 23
theorem sc_L_kept_lines : FnScope ["_law_purse_here", "_law_steps", "_law_lines", "_law_piles", "_law_number", "_law_way", "_law_at_here", "_law_line", "_law_sign"] ["_law_purse_here", "_law_steps"] (defScope s_L_kept_lines) := ⟨rfl, rfl, rfl, by decide +kernel, rfl, by decide +kernel, by decide +kernel⟩
abbrev s_L_top : Stmt := topS 24
theorem sc_L_top : FnScope ["_law_pile"] ["_law_pile"] (defScope s_L_top) := ⟨rfl, rfl, rfl, by decide +kernel, rfl, by decide +kernel, by decide +kernel⟩
abbrev s_L_shut_to : Stmt := topS 25
theorem sc_L_shut_to : FnScope ["_law_pile", "_law_least", "_law_place", "_law_found"] ["_law_pile", "_law_least", "_law_place", "_law_found"] (defScope s_L_shut_to) := ⟨rfl, rfl, rfl, by decide +kernel, rfl, by decide +kernel, by decide +kernel⟩
abbrev s_L_opens : Stmt := topS 26
theorem sc_L_opens : FnScope ["_law_pile", "_law_lets", "_law_opener", "_law_place", "_law_found", "_law_columns", "_law_block", "_law_mine"] ["_law_pile", "_law_lets", "_law_opener", "_law_place", "_law_found"] (defScope s_L_opens) := ⟨rfl, rfl, rfl, by decide +kernel, rfl, by decide +kernel, by decide +kernel⟩
abbrev s_L_begins : Stmt := topS 27
theorem sc_L_begins : FnScope ["_law_pile", "_law_place", "_law_said", "_law_found", "_law_top_here"] ["_law_pile", "_law_place", "_law_said", "_law_found"] (defScope s_L_begins) := ⟨rfl, rfl, rfl, by decide +kernel, rfl, by decide +kernel, by decide +kernel⟩
abbrev s_L_in : Stmt := topS 28
theorem sc_L_in : FnScope ["_law_pile", "_law_lets", "_law_place", "_law_found", "_law_mine", "_law_spots", "_law_at_here", "_law_block"] ["_law_pile", "_law_lets", "_law_place", "_law_found"] (defScope s_L_in) := ⟨rfl, rfl, rfl, by decide +kernel, rfl, by decide +kernel, by decide +kernel⟩
abbrev s_L_laid : Stmt := topS 29
theorem sc_L_laid : FnScope ["_law_lexed", "_law_found", "_law_pile", "_law_lets", "_law_opener", "_law_last", "_law_end", "_law_place", "_law_sort", "_law_said", "_law_opened", "_law_spots", "_law_at_here"] ["_law_lexed"] (defScope s_L_laid) := ⟨rfl, rfl, rfl, by decide +kernel, rfl, by decide +kernel, by decide +kernel⟩
abbrev s_L_even : Stmt := topS 30
theorem sc_L_even : FnScope ["_law_marks", "_law_still", "_law_mark"] ["_law_marks"] (defScope s_L_even) := ⟨rfl, rfl, rfl, by decide +kernel, rfl, by decide +kernel, by decide +kernel⟩
abbrev s_law : Stmt := topS 31
theorem sc_law : FnScope ["_law_script", "_law_cell", "_law_purse_here", "_law_lines", "_law_line", "_law_due", "_law_turn", "_law_told", "_law_mark"] ["_law_script"] (defScope s_law) := ⟨rfl, rfl, rfl, by decide +kernel, rfl, by decide +kernel, by decide +kernel⟩
abbrev s_run_end : Stmt := topS 11
theorem sc_run_end : FnScope ["row", "at", "signs", "most", "end"] ["row", "at", "signs", "most"] (defScope s_run_end) := ⟨rfl, rfl, rfl, by decide +kernel, rfl, by decide +kernel, by decide +kernel⟩
abbrev s_lexeme_end : Stmt := topS 12
theorem sc_lexeme_end : FnScope ["row", "at", "end", "sign"] ["row", "at"] (defScope s_lexeme_end) := ⟨rfl, rfl, rfl, by decide +kernel, rfl, by decide +kernel, by decide +kernel⟩
abbrev s_row_lexemes : Stmt := topS 13
theorem sc_row_lexemes : FnScope ["row", "number", "found", "at", "sort", "end"] ["row", "number"] (defScope s_row_lexemes) := ⟨rfl, rfl, rfl, by decide +kernel, rfl, by decide +kernel, by decide +kernel⟩
abbrev s_lexemes : Stmt := topS 14
theorem sc_lexemes : FnScope ["text", "found", "number", "row"] ["text"] (defScope s_lexemes) := ⟨rfl, rfl, rfl, by decide +kernel, rfl, by decide +kernel, by decide +kernel⟩
abbrev s_laid : Stmt := topS 16
theorem sc_laid : FnScope ["text", "laying", "found", "end", "lexeme", "row", "column", "sort", "word"] ["text"] (defScope s_laid) := ⟨rfl, rfl, rfl, by decide +kernel, rfl, by decide +kernel, by decide +kernel⟩
abbrev s_NoSign_init : Stmt := inClass (topS 2) 0
theorem sc_NoSign_init : FnScope ["self", "place"] ["self", "place"] (defScope s_NoSign_init) := ⟨rfl, rfl, rfl, by decide +kernel, rfl, by decide +kernel, by decide +kernel⟩
abbrev s_Laying_init : Stmt := inClass (topS 15) 0
theorem sc_Laying_init : FnScope ["self"] ["self"] (defScope s_Laying_init) := ⟨rfl, rfl, rfl, by decide +kernel, rfl, by decide +kernel, by decide +kernel⟩
abbrev s_Laying_mark : Stmt := inClass (topS 15) 1
theorem sc_Laying_mark : FnScope ["self", "place", "word"] ["self", "place", "word"] (defScope s_Laying_mark) := ⟨rfl, rfl, rfl, by decide +kernel, rfl, by decide +kernel, by decide +kernel⟩
abbrev s_Laying_column : Stmt := inClass (topS 15) 2
theorem sc_Laying_column : FnScope ["self", "columns", "sort", "column", "number"] ["self"] (defScope s_Laying_column) := ⟨rfl, rfl, rfl, by decide +kernel, rfl, by decide +kernel, by decide +kernel⟩
abbrev s_Laying_opened : Stmt := inClass (topS 15) 3
theorem sc_Laying_opened : FnScope ["self", "place", "number"] ["self", "place"] (defScope s_Laying_opened) := ⟨rfl, rfl, rfl, by decide +kernel, rfl, by decide +kernel, by decide +kernel⟩
abbrev s_Laying_shut_top : Stmt := inClass (topS 15) 4
theorem sc_Laying_shut_top : FnScope ["self", "place"] ["self", "place"] (defScope s_Laying_shut_top) := ⟨rfl, rfl, rfl, by decide +kernel, rfl, by decide +kernel, by decide +kernel⟩
abbrev s_Laying_new_line : Stmt := inClass (topS 15) 5
theorem sc_Laying_new_line : FnScope ["self", "place", "word"] ["self", "place", "word"] (defScope s_Laying_new_line) := ⟨rfl, rfl, rfl, by decide +kernel, rfl, by decide +kernel, by decide +kernel⟩
abbrev s_Laying_closes_let : Stmt := inClass (topS 15) 6
theorem sc_Laying_closes_let : FnScope ["self", "place", "number", "least", "at", "entry"] ["self", "place"] (defScope s_Laying_closes_let) := ⟨rfl, rfl, rfl, by decide +kernel, rfl, by decide +kernel, by decide +kernel⟩
abbrev s_Laying_closes_bracket : Stmt := inClass (topS 15) 7
theorem sc_Laying_closes_bracket : FnScope ["self", "place", "entry"] ["self", "place"] (defScope s_Laying_closes_bracket) := ⟨rfl, rfl, rfl, by decide +kernel, rfl, by decide +kernel, by decide +kernel⟩
abbrev s_Laying_take : Stmt := inClass (topS 15) 8
theorem sc_Laying_take : FnScope ["self", "lexeme", "place", "sort", "word", "opened"] ["self", "lexeme"] (defScope s_Laying_take) := ⟨rfl, rfl, rfl, by decide +kernel, rfl, by decide +kernel, by decide +kernel⟩
abbrev s_Laying_ends : Stmt := inClass (topS 15) 9
theorem sc_Laying_ends : FnScope ["self", "place", "sort", "column", "number"] ["self", "place"] (defScope s_Laying_ends) := ⟨rfl, rfl, rfl, by decide +kernel, rfl, by decide +kernel, by decide +kernel⟩
structure Txt (K : PySem.W.Frag) (mg : Str → Option Value) : Prop where
  d_L_mixed : Dfn K mg "_law_mixed" s_L_mixed ["_law_cell", "_law_k"]
  d_L_purse : Dfn K mg "_law_purse" s_L_purse ["_law_cell", "_law_k"]
  d_L_take : Dfn K mg "_law_take" s_L_take ["_law_purse_here", "_law_many"]
  d_L_at : Dfn K mg "_law_at" s_L_at ["_law_script", "_law_k"]
  d_L_scattered : Dfn K mg "_law_scattered" s_L_scattered ["_law_purse_here", "_law_steps"]
  d_L_kept_lines : Dfn K mg "_law_kept_lines" s_L_kept_lines ["_law_purse_here", "_law_steps"]
  d_L_top : Dfn K mg "_law_top" s_L_top ["_law_pile"]
  d_L_shut_to : Dfn K mg "_law_shut_to" s_L_shut_to ["_law_pile", "_law_least", "_law_place", "_law_found"]
  d_L_opens : Dfn K mg "_law_opens" s_L_opens ["_law_pile", "_law_lets", "_law_opener", "_law_place", "_law_found"]
  d_L_begins : Dfn K mg "_law_begins" s_L_begins ["_law_pile", "_law_place", "_law_said", "_law_found"]
  d_L_in : Dfn K mg "_law_in" s_L_in ["_law_pile", "_law_lets", "_law_place", "_law_found"]
  d_L_laid : Dfn K mg "_law_laid" s_L_laid ["_law_lexed"]
  d_L_even : Dfn K mg "_law_even" s_L_even ["_law_marks"]
  d_law : Dfn K mg "law" s_law ["_law_script"]
  d_run_end : Dfn K mg "run_end" s_run_end ["row", "at", "signs", "most"]
  d_lexeme_end : Dfn K mg "lexeme_end" s_lexeme_end ["row", "at"]
  d_row_lexemes : Dfn K mg "row_lexemes" s_row_lexemes ["row", "number"]
  d_lexemes : Dfn K mg "lexemes" s_lexemes ["text"]
  d_laid : Dfn K mg "laid" s_laid ["text"]
  x_NoSign : Exn K mg "NoSign" "NoSign.__init__" s_NoSign_init ["self", "place"]
  d_Laying_init : Mth K "Laying" "__init__" "Laying.__init__" s_Laying_init ["self"]
  d_Laying_mark : Mth K "Laying" "mark" "Laying.mark" s_Laying_mark ["self", "place", "word"]
  d_Laying_column : Mth K "Laying" "column" "Laying.column" s_Laying_column ["self"]
  d_Laying_opened : Mth K "Laying" "opened" "Laying.opened" s_Laying_opened ["self", "place"]
  d_Laying_shut_top : Mth K "Laying" "shut_top" "Laying.shut_top" s_Laying_shut_top ["self", "place"]
  d_Laying_new_line : Mth K "Laying" "new_line" "Laying.new_line" s_Laying_new_line ["self", "place", "word"]
  d_Laying_closes_let : Mth K "Laying" "closes_let" "Laying.closes_let" s_Laying_closes_let ["self", "place"]
  d_Laying_closes_bracket : Mth K "Laying" "closes_bracket" "Laying.closes_bracket" s_Laying_closes_bracket ["self", "place"]
  d_Laying_take : Mth K "Laying" "take" "Laying.take" s_Laying_take ["self", "lexeme"]
  d_Laying_ends : Mth K "Laying" "ends" "Laying.ends" s_Laying_ends ["self", "place"]
  k_laid : KBn K (fdAt K (He.ga K "laid")) ["text"] 0 ["text"] (fun us ws => us ++ ws) (fun vs zs => vs ++ zs)
  f_NoSign : PySem.W.findIn K (.ref (He.ga K "NoSign")) "place" = some none
  cl_Laying : Cls K (He.ga K "Laying")
  g_Laying : mg "Laying" = some (.ref (He.ga K "Laying"))
  mk_Laying : Mk K (He.ga K "Laying") (He.ma K (He.ga K "Laying") "__init__")
  na_Laying : ∀ f ∈ (["told", "pile", "lets", "opener", "line"] : List Str), NoAttr K (He.ga K "Laying") f
  c_SMALL : Glob mg "SMALL" (.str "abcdefghijklmnopqrstuvwxyz")
  c_GREAT : Glob mg "GREAT" (.str "ABCDEFGHIJKLMNOPQRSTUVWXYZ")
  c_FIGURES : Glob mg "FIGURES" (.str "0123456789")
  c_WORDS : Glob mg "WORDS" (.ref (He.ga K "WORDS"))
  t_WORDS : ∀ H, SqT K H (He.ga K "WORDS") [.str "data", .str "let", .str "in", .str "if", .str "then", .str "else", .str "case", .str "of", .str "fun"]
  c_SIGNS : Glob mg "SIGNS" (.ref (He.ga K "SIGNS"))
  t_SIGNS : ∀ H, SqT K H (He.ga K "SIGNS") [.str "->", .str "==", .str "=", .str "|", .str "(", .str ")", .str "+", .str "-", .str "*", .str "<", .str "_"]
  c_UNMARKED : Glob mg "UNMARKED" (.ref (He.ga K "UNMARKED"))
  t_UNMARKED : ∀ H, SqT K H (He.ga K "UNMARKED") [.str "in", .str "then", .str "else", .str "of", .str ")", .str "|"]
  c_MOST_LETTERS : Glob mg "MOST_LETTERS" (.int 8)
  b_len : mg "len" = none
  b_int : mg "int" = none
  b_list : mg "list" = none
  b_tuple : mg "tuple" = none
  b_str : mg "str" = none
  b_bool : mg "bool" = none
  b_range : mg "range" = none
  b_enumerate : mg "enumerate" = none
  b_isinstance : mg "isinstance" = none
end Sw
set_option Elab.async false
set_option pp.maxSteps 600
set_option pp.deepTerms false
set_option linter.all false
set_option maxRecDepth 100000
set_option maxHeartbeats 4000000
namespace Sw
open PySem PySem.Spec PyProof.Rows L2 SX
local macro_rules | `(tactic| walk_at "sd") => `(tactic| first | exact ⟨by decide, by decide, by decide⟩ | (show (0 : Int) < _; decide) | exact .inl ⟨by decide, by decide⟩ | exact .inr ⟨by decide, by decide⟩ | (refine szS ?_; simp only [List.length_cons, List.length_nil]; decide))
local macro_rules | `(tactic| walk_at "rd") => `(tactic| ((repeat (first | refine ⟨_, rfl, ?_⟩ | refine ⟨_, _, rfl, rfl, ?_⟩ | refine ⟨by walk_at "sd", ?_⟩)); try dsimp only))
/-! ### numbers drawn -/
theorem e18 : (10 : Int) ^ (18 : Int).toNat = 1000000000000000000 := by decide +kernel
theorem e60 : (10 : Int) ^ (60 : Int).toNat = 1000000000000000000000000000000000000000000000000000000000000 := by decide +kernel
theorem mul_ok {i j : Int} (a b : Nat) (h0 : 0 ≤ i) (h1 : i < 2 ^ a) (h2 : 0 ≤ j) (h3 : j < 2 ^ b) (ha : 0 < a) (hb : 0 < b) (h : a + b ≤ 1000000) : CMulW i j := by
  have p : ∀ (x : Int) (n : Nat), 0 ≤ x → x < 2 ^ n → x.natAbs < 2 ^ n := fun x n q1 q2 => by
    have e : (((2 : Nat) ^ n : Nat) : Int) = (2 : Int) ^ n := by rw [Int.natCast_pow] <;> rfl
    rw [← e] at q2
    omega
  exact wide_mul (p i a h0 h1) (p j b h2 h3) ha hb h
theorem mul_lt {i j : Int} (a b : Nat) (h0 : 0 ≤ i) (h1 : i < 2 ^ a) (h2 : 0 ≤ j) (h3 : j < 2 ^ b) : 0 ≤ i * j ∧ i * j < 2 ^ (a + b) := by
  refine ⟨Int.mul_nonneg h0 h2, ?_⟩
  rw [Int.pow_add]
  exact Int.lt_of_le_of_lt (Int.mul_le_mul_of_nonneg_right (Int.le_of_lt h1) h2) (Int.mul_lt_mul_of_pos_left h3 (Int.pow_pos (by decide)))
section
variable {P : Program} {w : World} {K : PySem.W.Frag} {mg : Str → Option Value} {base : Heap}
def spMixed : Sp := fun vs H Q _ => ∃ (c k : Int), vs = [.int c, .int k] ∧ 0 ≤ k ∧ k < 2 ^ 40 ∧ ∀ r : Int, 0 ≤ r → r < 2 ^ 200 → Q (.int r) H
theorem ok_L_mixed (T : Txt K mg) : FnOk P w K mg base (L2.CX P w) 1 (He.ga K "_law_mixed") (fdAt K (He.ga K "_law_mixed")) ["_law_cell", "_law_k"] spMixed := by
  refine T.d_L_mixed.fn.ok sc_L_mixed (fun vs H Q E h => ?_) (fun cdv A outer s H vs Q E hr h => ?_)
  · obtain ⟨c, k, rfl, _⟩ := h
    rfl
  · obtain ⟨c, k, rfl, k0, k1, q⟩ := h
    refine ⟨_, PSs.nox (pss_cons (ps_set (i := 2) sc_L_mixed.nd rfl (.inl rfl) (pe_op op_add (pe_op op_add (pe_op op_mulW (pe_op op_add (pe_op op_mod (pv 0) (pe_op op_add (pe_op op_pow pe_int pe_int) pe_int)) (pe_op op_mul pe_int (pv 1))) pe_int) (pe_op op_mul pe_int (pv 1))) pe_int))
      (pss_cons (ps_set (i := 2) sc_L_mixed.nd rfl (.inl rfl) (pe_op op_mod (pe_op op_mulW (pv 2) (pv 2)) (pe_op op_add (pe_op op_pow pe_int pe_int) pe_int)))
      (pss_one (ps_ret (pe_op op_mod (pe_op op_mulW (pe_op op_add (pv 2) pe_int) (pe_op op_add (pv 2) pe_int)) (pe_op op_add (pe_op op_pow pe_int pe_int) pe_int)))))), ?_⟩
    have hx0 : 0 ≤ c % (1000000000000000000 + 9) := Int.emod_nonneg _ (by decide)
    have hx1 : c % (1000000000000000000 + 9) < 1000000000000000009 := Int.emod_lt_of_pos _ (by decide)
    have e40 : (2 : Int) ^ 40 = 1099511627776 := by decide
    have e64 : (2 : Int) ^ 64 = 18446744073709551616 := by decide
    walk_at "rd"
    rw [e18]
    generalize c % (1000000000000000000 + 9) = x at hx0 hx1 ⊢
    refine ⟨mul_ok 64 100 (by omega) (by omega) (by decide) (by decide) (by decide) (by decide) (by decide), ?_⟩
    have hm := mul_lt (i := x + 7 * k) (j := 739108512309184756019283746561) 64 100 (by omega) (by omega) (by decide) (by decide)
    generalize (x + 7 * k) * 739108512309184756019283746561 = y at hm ⊢
    walk_at "rd"
    have e164 : (2 : Int) ^ (64 + 100) = 23384026197294446691258957323460528314494920687616 := by decide +kernel
    have e170 : (2 : Int) ^ 170 = 1496577676626844588240573268701473812127674924007424 := by decide +kernel
    rw [e164] at hm
    have hz : 0 ≤ y + 7919 * k + 1 ∧ y + 7919 * k + 1 < 2 ^ 170 := by rw [e170]; omega
    generalize y + 7919 * k + 1 = z at hz ⊢
    refine ⟨mul_ok 170 170 hz.1 hz.2 hz.1 hz.2 (by decide) (by decide) (by decide), ?_⟩
    walk_at "rd"
    rw [e60]
    have hu0 : 0 ≤ z * z % (1000000000000000000000000000000000000000000000000000000000000 + 7) := Int.emod_nonneg _ (by decide)
    have hu1 : z * z % (1000000000000000000000000000000000000000000000000000000000000 + 7) < 1000000000000000000000000000000000000000000000000000000000007 := Int.emod_lt_of_pos _ (by decide)
    generalize z * z % (1000000000000000000000000000000000000000000000000000000000000 + 7) = u at hu0 hu1 ⊢
    have e201 : (2 : Int) ^ 201 = 3213876088517980551083924184682325205044405987565585670602752 := by decide +kernel
    have e200 : (2 : Int) ^ 200 = 1606938044258990275541962092341162602522202993782792835301376 := by decide +kernel
    refine ⟨mul_ok 201 201 (by omega) (by rw [e201]; omega) (by omega) (by rw [e201]; omega) (by decide) (by decide) (by decide), ?_⟩
    walk_at "rd"
    rw [e60]
    refine q _ (Int.emod_nonneg _ (by decide)) (Int.lt_of_lt_of_le (Int.emod_lt_of_pos _ (by decide)) (by rw [e200]; decide))
/-! ### a purse -/
def PuOk (H : Hp) (pu : Addr) (n : Nat) : Prop := ∃ a b c : Int, H pu = some (.lst [.int a, .int b, .int c]) ∧ 0 ≤ a ∧ a < 2 ^ 2100 ∧ 0 ≤ b ∧ b ≤ (n : Int)
theorem PuOk.mono {H : Hp} {pu : Addr} {n m : Nat} (h : PuOk H pu n) (e : n ≤ m) : PuOk H pu m := by
  obtain ⟨a, b, c, h1, h2, h3, h4, h5⟩ := h
  exact ⟨a, b, c, h1, h2, h3, h4, by omega⟩
theorem PuOk.same {H H' : Hp} {pu : Addr} {n : Nat} (h : PuOk H pu n) (e : Same H H') : PuOk H' pu n := by
  obtain ⟨a, b, c, h1, h2⟩ := h
  exact ⟨a, b, c, e _ _ h1, h2⟩
theorem PuOk.but {H H' : Hp} {pu a : Addr} {n : Nat} (h : PuOk H pu n) (e : But a H H') (ne : pu ≠ a) : PuOk H' pu n := by
  obtain ⟨a, b, c, h1, h2⟩ := h
  exact ⟨a, b, c, e _ _ ne h1, h2⟩
theorem e2100 : (2 : Int) ^ 201 ≤ 2 ^ 2100 := by decide +kernel
theorem e600 : ((10 : Int) ^ (60 : Int).toNat) ^ (10 : Int).toNat ≤ 2 ^ 2100 := by decide +kernel
def spPurse : Sp := fun vs H Q _ => ∃ (c k : Int), vs = [.int c, .int k] ∧ 0 ≤ k ∧ k < 2 ^ 40 ∧ ∀ p H', H p = none → Same H H' → PuOk H' p 0 → Q (.ref p) H'
theorem ok_L_purse (T : Txt K mg) : FnOk P w K mg base (L2.CX P w) 2 (He.ga K "_law_purse") (fdAt K (He.ga K "_law_purse")) ["_law_cell", "_law_k"] spPurse := by
  refine T.d_L_purse.fn.ok sc_L_purse (fun vs H Q E h => ?_) (fun cdv A outer s H vs Q E hr h => ?_)
  · obtain ⟨c, k, rfl, _⟩ := h
    rfl
  · obtain ⟨c, k, rfl, k0, k1, q⟩ := h
    refine ⟨_, PSs.nox (pss_cons (ps_if (pt_cmpR op_ge (pv 0) (pe_op op_pow pe_int pe_int) (nomark _))
        (pss_one (ps_ret (pe_lst (pa_cons (pe_op op_mod (pe_op op_sub (pv 0) (pe_op op_pow pe_int pe_int)) (pe_op op_powW (pe_op op_pow pe_int pe_int) pe_int)) (pa_cons pe_int (pa_cons (pv 1) pa_nil))))))
        pss_nil)
      (pss_one (ps_ret (pe_lst (pa_cons (pe_call (ok_L_mixed T) (hr.mono (by decide)) (by rfl) T.d_L_mixed.g T.d_L_mixed.fn.kp T.d_L_mixed.b .nil passL (pa_cons (pv 0) (pa_cons (pv 1) pa_nil))) (pa_cons pe_int (pa_cons (pe_op op_add (pe_op op_mod (pv 0) (pe_op op_add (pe_op op_pow pe_int pe_int) pe_int)) (pv 1)) pa_nil))))))), ?_⟩
    walk_at "rd"
    refine ite2 (fun e => ?_) (fun e => ?_)
    · walk_at "rd"
      refine ⟨⟨by decide, by decide +kernel⟩, ?_⟩
      walk_at "rd"
      refine fun p hp => q p _ hp (same_new hp) ⟨_, _, _, upd_same, Int.emod_nonneg _ (by decide +kernel), Int.lt_of_lt_of_le (Int.emod_lt_of_pos _ (by decide +kernel)) e600, by decide, by decide⟩
    · refine ⟨_, rfl, _, rfl, c, k, rfl, k0, k1, fun r r0 r1 => ?_⟩
      walk_at "rd"
      refine fun p hp => q p _ hp (same_new hp) ⟨_, _, _, upd_same, r0, Int.lt_of_lt_of_le r1 (by decide +kernel), by decide, by decide⟩
def spTake : Sp := fun vs H Q _ => ∃ (pu : Addr) (st : Int) (n : Nat), vs = [.ref pu, .int st] ∧ 1 ≤ st ∧ st ≤ 1000000 ∧ PuOk H pu n ∧ n ≤ 10000000 ∧
  ∀ (r : Int) H', 0 ≤ r → r < st → But pu H H' → (∀ b, H b = none → H' b = none) → PuOk H' pu (n + 1) → Q (.int r) H'
theorem ok_L_take (T : Txt K mg) : FnOk P w K mg base (L2.CX P w) 2 (He.ga K "_law_take") (fdAt K (He.ga K "_law_take")) ["_law_purse_here", "_law_many"] spTake := by
  refine T.d_L_take.fn.ok sc_L_take (fun vs H Q E h => ?_) (fun cdv A outer s H vs Q E hr h => ?_)
  · obtain ⟨pu, st, n, rfl, _⟩ := h
    rfl
  · obtain ⟨pu, st, n, rfl, s1, s2, ⟨a, b, c, hp, a0, a1, b0, b1⟩, hn, q⟩ := h
    refine ⟨_, PSs.nox (C8.pss_cut (ps_if (pt_cmpR op_lt (pe_ix ix_list (pv 0) pe_int (fun _ _ => rfl)) (pv 1) (nomark _))
        (pss_cons (ps_asg (pe_op op_add (pe_ix ix_list (pv 0) pe_int (fun _ _ => rfl)) pe_int) (pg_sub (pv 0) pe_int set_list))
      (pss_one (ps_asg (pe_op op_add (pe_ix ix_list (pv 0) pe_int (fun _ _ => rfl)) (pe_op op_mulW (pv 1) (pe_call (ok_L_mixed T) (hr.mono (by decide)) (by rfl) T.d_L_mixed.g T.d_L_mixed.fn.kp T.d_L_mixed.b .nil passL (pa_cons (pe_ix ix_list (pv 0) pe_int (fun _ _ => rfl)) (pa_cons (pe_op op_add (pe_op op_mul pe_int (pe_ix ix_list (pv 0) pe_int (fun _ _ => rfl))) pe_int) pa_nil))))) (pg_sub (pv 0) pe_int set_list))))
        pss_nil)
      (pss_cons (ps_set (i := 2) sc_L_take.nd rfl (.inl rfl) (pe_op op_mod (pe_ix ix_list (pv 0) pe_int (fun _ _ => rfl)) (pv 1)))
      (pss_cons (ps_asg (pe_op op_fdiv (pe_ix ix_list (pv 0) pe_int (fun _ _ => rfl)) (pv 1)) (pg_sub (pv 0) pe_int set_list))
      (pss_one (ps_ret (pv 2)))))), ?_⟩
    have e40 : (2 : Int) ^ 40 = 1099511627776 := by decide
    have e20 : (2 : Int) ^ 20 = 1048576 := by decide
    refine ⟨fun σ' H1 => ∃ a b : Int, σ' = [some (.ref pu), some (.int st), none] ∧ H1 pu = some (.lst [.int a, .int b, .int c]) ∧ 0 ≤ a ∧ a < 2 ^ 2100 ∧ 0 ≤ b ∧ b ≤ ((n + 1 : Nat) : Int) ∧ But pu H H1 ∧ (∀ b, H b = none → H1 b = none), ?_, ?_⟩
    · refine ⟨_, rfl, pu, _, 0, .int a, rfl, rfl, .of hp, rfl, _, rfl, a, st, rfl, rfl, _, rfl, ite2 (fun e => ?_) (fun e => ?_)⟩
      · have ea : a < st := of_decide_eq_true e
        refine ⟨_, rfl, pu, _, 1, .int b, rfl, rfl, .of hp, rfl, b, 1, rfl, rfl, ?_⟩
        refine ⟨_, rfl, pu, _, 1, 1, rfl, rfl, hp, rfl, ?_⟩
        refine ⟨_, rfl, pu, _, 0, .int a, rfl, rfl, .of upd_same, rfl, ?_⟩
        refine ⟨_, rfl, _, rfl, pu, _, 2, .int c, rfl, rfl, .of upd_same, rfl, _, rfl, pu, _, 1, .int (b + 1), rfl, rfl, .of upd_same, rfl, 11, b + 1, rfl, rfl, .inl ⟨by decide, by decide⟩, 11 * (b + 1), 5, rfl, rfl, ?_⟩
        refine ⟨c, 11 * (b + 1) + 5, rfl, by omega, by rw [e40]; omega, fun r r0 r1 => ?_⟩
        have s3 : st < 2 ^ 20 := by rw [e20]; omega
        refine ⟨st, r, rfl, rfl, mul_ok 20 200 (by omega) s3 r0 r1 (by decide) (by decide) (by decide), a, st * r, rfl, rfl, ?_⟩
        refine ⟨_, rfl, pu, _, 0, 0, rfl, rfl, upd_same, rfl, ?_⟩
        have hm := mul_lt (i := st) (j := r) 20 200 (by omega) s3 r0 r1
        have e220 : (2 : Int) ^ (20 + 200) = 1684996666696914987166688442938726917102321526408785780068975640576 := by decide +kernel
        have e221 : (1684996666696914987166688442938726917102321526408785780068975640577 + 1000000 : Int) ≤ 2 ^ 2100 := by decide +kernel
        rw [e220] at hm
        refine ⟨a + st * r, b + 1, rfl, by rw [upd_upd]; exact upd_same, by omega, ?_, by omega, by omega, But.upd (But.upd (But.refl _ _)), fun x hx => ?_⟩
        · exact Int.lt_of_lt_of_le (by omega) e221
        · rw [upd_upd, upd_ne (fun e => by rw [e, hp] at hx; cases hx)]
          exact hx
      · exact ⟨a, b, rfl, hp, a0, a1, b0, by omega, But.refl _ _, fun _ h => h⟩
    · rintro σ' H1 ⟨a, b, rfl, hp, a0, a1, b0, b1, bt, fr⟩
      refine ⟨_, rfl, pu, _, 0, .int a, rfl, rfl, .of hp, rfl, _, rfl, a, st, rfl, rfl, by show 0 < st; omega, ?_⟩
      refine ⟨_, rfl, pu, _, 0, .int a, rfl, rfl, .of hp, rfl, _, rfl, a, st, rfl, rfl, ⟨by omega, by omega⟩, ?_⟩
      refine ⟨_, rfl, pu, _, 0, 0, rfl, rfl, hp, rfl, _, rfl, ?_⟩
      refine q (a % st) _ (Int.emod_nonneg _ (by omega)) (Int.emod_lt_of_pos _ (by omega)) bt.upd (fun x hx => ?_) ⟨a / st, b, c, upd_same, Int.ediv_nonneg a0 (by omega), ?_, b0, b1⟩
      · have h1 := fr x hx
        rw [upd_ne (fun e => by rw [e, hp] at h1; cases h1)]
        exact h1
      · exact Int.lt_of_le_of_lt (Int.ediv_le_self _ a0) a1
/-! ### the script -/
def spAt (K : PySem.W.Frag) : Sp := fun vs H Q _ => ∃ (a : Addr) (ns : List Int) (k : Nat), vs = [.ref a, .int (k : Int)] ∧ SqL K H a (ns.map V.int) ∧ ∀ r : Int, Q (.int r) H
theorem ok_L_at (T : Txt K mg) : FnOk P w K mg base (L2.CX P w) 1 (He.ga K "_law_at") (fdAt K (He.ga K "_law_at")) ["_law_script", "_law_k"] (spAt K) := by
  refine T.d_L_at.fn.ok sc_L_at (fun vs H Q E h => ?_) (fun cdv A outer s H vs Q E hr h => ?_)
  · obtain ⟨a, ns, k, rfl, _⟩ := h
    rfl
  · obtain ⟨a, ns, k, rfl, hS, q⟩ := h
    refine ⟨_, PSs.nox (pss_cons (ps_if (pt_cmpR op_lt (pv 1) (pe_callB call_len_seq (by rfl) T.b_len PySem.boot_len (pa_cons (pv 0) pa_nil)) (nomark _))
        (pss_one (ps_ret (pe_ix ix_list (pv 0) (pv 1) (fun _ _ => rfl))))
        pss_nil)
      (pss_one (ps_ret (pe_op op_add (pe_op op_mul pe_int (pv 1)) pe_int)))), ?_⟩
    refine ⟨_, rfl, _, rfl, a, _, rfl, .inl hS, k, _, rfl, rfl, _, rfl, ite2 (fun e => ?_) (fun e => ?_)⟩
    · have e1 := of_decide_eq_true e
      rw [List.length_map] at e1
      have hk : k < ns.length := by omega
      refine ⟨_, rfl, _, rfl, a, _, k, .int ns[k], rfl, rfl, hS, atI_nat ?_, q _⟩
      rw [List.getElem?_map, List.getElem?_eq_getElem hk]
      rfl
    · walk_at "rd"
      exact q _
end
end Sw
set_option Elab.async false
set_option pp.maxSteps 600
set_option pp.deepTerms false
set_option linter.all false
set_option maxRecDepth 100000
set_option maxHeartbeats 4000000
namespace Sw
open PySem PySem.Spec PyProof.Rows L2 SX
local macro_rules | `(tactic| walk_at "sd") => `(tactic| first | exact ⟨by decide, by decide, by decide⟩ | (show (0 : Int) < _; decide) | exact .inl ⟨by decide, by decide⟩ | exact .inr ⟨by decide, by decide⟩ | (refine szS ?_; simp only [List.length_cons, List.length_nil]; decide))
local macro_rules | `(tactic| walk_at "rd") => `(tactic| ((repeat (first | refine ⟨_, rfl, ?_⟩ | refine ⟨_, _, rfl, rfl, ?_⟩ | refine ⟨by walk_at "sd", ?_⟩)); try dsimp only))
section
variable {P : Program} {w : World} {K : PySem.W.Frag} {mg : Str → Option Value} {base : Heap}
def mostV : Option Nat → V
  | none => .non
  | some k => .int (k : Int)
def capOf (m : Option Nat) (n : Nat) : Nat := m.getD n
theorem at_some {row : Str} {i : Nat} (h : i < (tl row).length) : ∃ c, (tl row)[i]? = some c ∧ atI (tl row) (i : Int) = some c := ⟨_, List.getElem?_eq_getElem h, atI_nat (List.getElem?_eq_getElem h)⟩
def spRunEnd : Sp := fun vs H Q _ => ∃ (row signs : Str) (i : Nat) (m : Option Nat) (p : Nat → Bool), vs = [.str row, .int (i : Int), .str signs, mostV m] ∧ i ≤ (tl row).length ∧ (tl row).length ≤ 100000 ∧ (∀ c, decide (c ∈ tl signs) = p c) ∧
  Q (.int ((i + runLen p (capOf m ((tl row).length - i)) ((tl row).drop i) : Nat) : Int)) H
theorem ok_run_end (T : Txt K mg) : FnOk P w K mg base (L2.CX P w) 1 (He.ga K "run_end") (fdAt K (He.ga K "run_end")) ["row", "at", "signs", "most"] spRunEnd := by
  refine T.d_run_end.fn.ok sc_run_end (fun vs H Q E h => ?_) (fun cdv A outer s H vs Q E hr h => ?_)
  · obtain ⟨_, _, _, _, _, rfl, _⟩ := h
    rfl
  · obtain ⟨row, signs, i, m, p, rfl, hi, hz, hp, q⟩ := h
    refine ⟨_, PSs.nox (pss_cons (ps_set (i := 4) sc_run_end.nd rfl (.inl rfl) (pv 1))
      (pss_cons (ps_while PassesOwn.never (pw_and (pt_cmpR op_lt (pv 4) (pe_callB call_len_str (by rfl) T.b_len PySem.boot_len (pa_cons (pv 0) pa_nil)) (nomark _)) (pw_and (pt_cmpR op_in_sign (pe_ix ix_str (pv 0) (pv 4) (fun _ _ => rfl)) (pv 2) rfl) (pw_and1 (pw_or (pt_cmpR op_isN (pv 3) pe_non (nomark _)) (pw_or1 (pt_cmpR op_lt (pv 4) (pe_op op_add (pv 1) (pv 3)) (nomark _)))).pt))).pt
        (pss_one (ps_aug (i := 4) sc_run_end.nd rfl (.inl rfl) pe_int ip_add)))
      (pss_one (ps_ret (pv 4))))), ?_⟩
    have hrl : row.length = (tl row).length := (tl_len row).symm
    have hsz : row.length ≤ sizeLine := by rw [hrl]; exact szS hz
    refine ⟨_, rfl, fun mm σ H' => ∃ k : Nat, σ = [some (.str row), some (.int (i : Int)), some (.str signs), some (mostV m), some (.int ((i + k : Nat) : Int))] ∧ H' = H ∧ k ≤ capOf m ((tl row).length - i) ∧ i + k ≤ (tl row).length ∧ (∀ j c, j < k → ((tl row).drop i)[j]? = some c → p c = true) ∧ mm = (tl row).length - (i + k),
      ⟨_, 0, rfl, rfl, Nat.zero_le _, by omega, fun j c hj => by omega, rfl⟩, ?_⟩
    rintro mm σ H' ⟨k, rfl, rfl, hk, hik, ha, rfl⟩
    have fin : (k = capOf m ((tl row).length - i) ∨ k = ((tl row).drop i).length ∨ ∃ c, ((tl row).drop i)[k]? = some c ∧ p c = false) → Q (.int ((i + k : Nat) : Int)) H' := fun h => by
      rw [runLen_is (p := p) hk ha (by rw [List.length_drop]; omega) h] at q
      exact q
    refine ⟨_, rfl, _, rfl, row, rfl, hsz, _, _, rfl, rfl, _, rfl, ite2 (fun e => ?_) (fun e => ?_)⟩
    · have e1 := of_decide_eq_true e
      have hlt : i + k < (tl row).length := by rw [hrl] at e1; omega
      obtain ⟨c, hc, hc2⟩ := at_some hlt
      have hc3 : ((tl row).drop i)[k]? = some c := by rw [List.getElem?_drop]; exact hc
      refine ⟨_, rfl, _, rfl, row, _, c, rfl, rfl, hsz, hc2, _, rfl, c, signs, rfl, rfl, _, rfl, ?_⟩
      rw [show decide (c ∈ signs.cps.toList) = p c from hp c]
      refine ite2 (fun ep => ?_) (fun ep => ?_)
      · have go : k < capOf m ((tl row).length - i) → ∃ N : L2.St → Hp → Prop, (∀ σ' H'', N σ' H'' → ∃ m', m' < (tl row).length - (i + k) ∧ ∃ k' : Nat, σ' = [some (.str row), some (.int (i : Int)), some (.str signs), some (mostV m), some (.int ((i + k' : Nat) : Int))] ∧ H'' = H' ∧ k' ≤ capOf m ((tl row).length - i) ∧ i + k' ≤ (tl row).length ∧ (∀ j c, j < k' → ((tl row).drop i)[j]? = some c → p c = true) ∧ m' = (tl row).length - (i + k')) ∧
            tAug 4 (tC (.int 1)) (ipI fun i j => i + j) { nx := N, rt := Q, ct := N, bk := fun σ' H'' => tRet (tVar 4) { nx := fun _ H' => Q .non H', rt := Q } σ' H'' } [some (.str row), some (.int (i : Int)), some (.str signs), some (mostV m), some (.int ((i + k : Nat) : Int))] H' := fun hlt2 => by
          refine ⟨fun σ' H'' => σ' = [some (.str row), some (.int (i : Int)), some (.str signs), some (mostV m), some (.int ((i + (k + 1) : Nat) : Int))] ∧ H'' = H', fun σ' H'' hN => ?_, ?_⟩
          · obtain ⟨rfl, rfl⟩ := hN
            refine ⟨_, ?_, k + 1, rfl, rfl, by omega, by omega, fun j d hj hd => ?_, rfl⟩
            · omega
            · by_cases hjk : j = k
              · subst hjk
                rw [hc3] at hd
                rw [← Option.some.inj hd]
                exact ep
              · exact ha j d (by omega) hd
          · refine ⟨_, rfl, _, _, rfl, rfl, ?_, rfl⟩
            rfl
        cases m with
        | none =>
          refine ⟨_, rfl, rfl, _, rfl, iteT (iteT ?_)⟩
          exact go (by show k < (tl row).length - i; omega)
        | some mx =>
          refine ⟨_, rfl, rfl, _, rfl, iteF ?_⟩
          refine ⟨_, rfl, _, rfl, _, rfl, _, _, rfl, rfl, _, _, rfl, rfl, _, rfl, ite2 (fun e2 => ?_) (fun e2 => ?_)⟩
          · have e3 := of_decide_eq_true e2
            exact go (by show k < mx; omega)
          · have e3 : ¬ ((i + k : Nat) : Int) < (i : Int) + (mx : Int) := fun z => e2 (decide_eq_true z)
            exact ⟨_, rfl, fin (.inl (by show k = mx; have : k ≤ mx := hk; omega))⟩
      · exact iteF ⟨_, rfl, fin (.inr (.inr ⟨c, hc3, by simpa using ep⟩))⟩
    · have e1 : ¬ ((i + k : Nat) : Int) < (row.length : Int) := fun z => e (decide_eq_true z)
      exact iteF ⟨_, rfl, fin (.inr (.inl (by rw [List.length_drop]; rw [hrl] at e1; omega)))⟩
theorem in_strs (w : Str) : ∀ l : List Str, inV (.str w) (l.map V.str) = decide (w ∈ l)
  | [] => rfl
  | x :: l => by
    show (eqV (.str x) (.str w) || inV (.str w) (l.map V.str)) = _
    rw [in_strs w l, Bool.eq_iff_iff]
    simp only [Bool.or_eq_true, decide_eq_true_eq, List.mem_cons]
    have e : eqV (.str x) (.str w) = true ↔ w = x := by
      show (x == w) = true ↔ w = x
      rw [beq_iff_eq]
      exact ⟨Eq.symm, Eq.symm⟩
    rw [e]
theorem find_at {α : Type} {p : α → Bool} : ∀ {l : List α} {i : Nat} {g : α}, l[i]? = some g → p g = true → (∀ j h, j < i → l[j]? = some h → p h = false) → l.find? p = some g
  | [], i, g, h, _, _ => by simp at h
  | x :: l, 0, g, h, hg, _ => by
    have e : x = g := Option.some.inj h
    subst e
    rw [List.find?_cons, hg]
  | x :: l, i + 1, g, h, hg, hb => by
    have e : p x = false := hb 0 x (by omega) rfl
    rw [List.find?_cons, e]
    exact find_at (l := l) (i := i) h hg (fun j y hj hy => hb (j + 1) y (by omega) hy)
theorem find_no {α : Type} {p : α → Bool} {l : List α} (h : ∀ (j : Nat) x, l[j]? = some x → p x = false) : l.find? p = none := by
  rw [List.find?_eq_none]
  intro x hx
  obtain ⟨j, hj⟩ := List.getElem?_of_mem hx
  rw [h j x hj]
  decide
theorem drop_cons {l : List Nat} {i c : Nat} (h : l[i]? = some c) : l.drop i = c :: l.drop (i + 1) := by
  obtain ⟨hi, e⟩ := List.getElem?_eq_some_iff.mp h
  rw [List.drop_eq_getElem_cons hi, e]
def spLexEnd : Sp := fun vs H Q _ => ∃ (row : Str) (i : Nat), vs = [.str row, .int (i : Int)] ∧ i < (tl row).length ∧ (tl row).length ≤ 100000 ∧
  ∀ so n p H', lexOne ((tl row).drop i) = (so, n) → H p = none → Same H H' → H' p = some (.tup [.str so, .int ((i + n : Nat) : Int)]) → Q (.ref p) H'
theorem ok_lexeme_end (T : Txt K mg) : FnOk P w K mg base (L2.CX P w) 2 (He.ga K "lexeme_end") (fdAt K (He.ga K "lexeme_end")) ["row", "at"] spLexEnd := by
  refine T.d_lexeme_end.fn.ok sc_lexeme_end (fun vs H Q E h => ?_) (fun cdv A outer s H vs Q E hr h => ?_)
  · obtain ⟨_, _, rfl, _⟩ := h
    rfl
  · obtain ⟨row, i, rfl, hi, hz, q⟩ := h
    refine ⟨_, PSs.nox (pss_cons (ps_if (pt_cmpR op_in_sign (pe_ix ix_str (pv 0) (pv 1) (fun _ _ => rfl)) (pe_g T.c_SMALL) rfl)
        (pss_cons (ps_set (i := 2) sc_lexeme_end.nd rfl (.inl rfl) (pe_call (ok_run_end T) (hr.mono (by decide)) (by rfl) T.d_run_end.g T.d_run_end.fn.kp T.d_run_end.b .nil passL (pa_cons (pv 0) (pa_cons (pv 1) (pa_cons (pe_g T.c_SMALL) (pa_cons (pe_g T.c_MOST_LETTERS) pa_nil))))))
      (pss_one (ps_ret (pe_tup (pa_cons (pe_ifExp (pt_cmpR op_in_seq (pe_slice sl_str (pv 0) (po_some (pv 1)) (po_some (pv 2))) (pe_g T.c_WORDS) rfl) pe_str pe_str) (pa_cons (pv 2) pa_nil))))))
        pss_nil)
      (pss_cons (ps_if (pt_cmpR op_in_sign (pe_ix ix_str (pv 0) (pv 1) (fun _ _ => rfl)) (pe_g T.c_GREAT) rfl)
        (pss_one (ps_ret (pe_tup (pa_cons pe_str (pa_cons (pe_call (ok_run_end T) (hr.mono (by decide)) (by rfl) T.d_run_end.g T.d_run_end.fn.kp T.d_run_end.b .nil passL (pa_cons (pv 0) (pa_cons (pe_op op_add (pv 1) pe_int) (pa_cons (pe_g T.c_SMALL) (pa_cons (pe_op op_sub (pe_g T.c_MOST_LETTERS) pe_int) pa_nil))))) pa_nil)))))
        pss_nil)
      (pss_cons (ps_if (pt_cmpR op_eq (pe_ix ix_str (pv 0) (pv 1) (fun _ _ => rfl)) pe_str (nomark _))
        (pss_one (ps_ret (pe_tup (pa_cons pe_str (pa_cons (pe_op op_add (pv 1) pe_int) pa_nil)))))
        pss_nil)
      (pss_cons (ps_if (pt_cmpR op_in_sign (pe_ix ix_str (pv 0) (pv 1) (fun _ _ => rfl)) (pe_g T.c_FIGURES) rfl)
        (pss_one (ps_ret (pe_tup (pa_cons pe_str (pa_cons (pe_call (ok_run_end T) (hr.mono (by decide)) (by rfl) T.d_run_end.g T.d_run_end.fn.kp T.d_run_end.b .nil passL (pa_cons (pv 0) (pa_cons (pv 1) (pa_cons (pe_g T.c_FIGURES) (pa_cons pe_non pa_nil))))) pa_nil)))))
        pss_nil)
      (pss_cons (ps_for PassesOwn.never rfl (pi_tup (pe_g T.c_SIGNS)) (pg_name (i := 3) sc_lexeme_end.nd rfl (.inl rfl))
        (pss_one (ps_if (pt_val (pe_bm PySem.F.plainAttrs_str PySem.F.slot_str_startswith PySem.F.type_str_startswith mt_startswith3 (pv 0) (pa_cons (pv 3) (pa_cons (pv 1) pa_nil))))
        (pss_one (ps_ret (pe_tup (pa_cons pe_str (pa_cons (pe_op op_add (pv 1) (pe_callB call_len_str (by rfl) T.b_len PySem.boot_len (pa_cons (pv 3) pa_nil))) pa_nil)))))
        pss_nil)))
      (pss_one (ps_ret (pe_tup (pa_cons pe_str (pa_cons (pv 1) pa_nil)))))))))), ?_⟩
    have hrl : row.length = (tl row).length := (tl_len row).symm
    have hsz : row.length ≤ sizeLine := by rw [hrl]; exact szS hz
    obtain ⟨c, hc, hc2⟩ := at_some hi
    have hd := drop_cons hc
    have ret : ∀ (so : Str) (n : Nat) (p : Addr) (m : Int), lexOne ((tl row).drop i) = (so, n) → m = ((i + n : Nat) : Int) → H p = none → Q (.ref p) (upd H p (.tup [.str so, .int m])) := fun so n p m e1 e2 e3 => by
      subst e2
      exact q so n p _ e1 e3 (same_new e3) upd_same
    -- a small letter
    refine ⟨_, rfl, _, rfl, row, _, c, rfl, rfl, hsz, hc2, c, _, rfl, rfl, _, rfl, ?_⟩
    rw [show decide (c ∈ _) = isSm c from in_sm c]
    refine ite2 (fun e1 => ?_) (fun e1 => ?_)
    · refine ⟨_, rfl, _, rfl, row, _, i, some 8, isSm, rfl, by omega, hz, in_sm, ?_⟩
      have hle := runLen_le isSm 8 ((tl row).drop i)
      rw [List.length_drop] at hle
      refine ⟨_, rfl, _, rfl, _, rfl, _, rfl, _, rfl, row, rfl, hsz, ?_⟩
      rw [cut_at row i _ (by omega) (by show i + runLen isSm 8 ((tl row).drop i) ≤ _; omega)]
      refine ⟨_, _, rfl, .inr (T.t_WORDS _), rfl, rfl, _, rfl, ?_⟩
      have hl : lexOne ((tl row).drop i) = (if S (((tl row).drop i).take (runLen isSm 8 ((tl row).drop i))) ∈ WORDS then ("word" : Str) else "name", runLen isSm 8 ((tl row).drop i)) := by
        rw [hd]
        unfold lexOne
        simp only
        rw [if_pos e1]
      have hw := in_strs (S (((tl row).drop i).take (i + runLen isSm 8 ((tl row).drop i) - i))) WORDS
      rw [show i + runLen isSm 8 ((tl row).drop i) - i = runLen isSm 8 ((tl row).drop i) by omega] at hw
      refine ite2 (fun e2 => ?_) (fun e2 => ?_)
      · refine ⟨_, rfl, szS (by simp), fun p hp => ret _ _ p _ ?_ rfl hp⟩
        rw [hl, if_pos]
        · rfl
        · have z : inV (.str (S (((tl row).drop i).take (i + runLen isSm 8 ((tl row).drop i) - i)))) (WORDS.map V.str) = true := e2
          rw [show i + runLen isSm 8 ((tl row).drop i) - i = runLen isSm 8 ((tl row).drop i) by omega, hw] at z
          exact of_decide_eq_true z
      · refine ⟨_, rfl, szS (by simp), fun p hp => ret _ _ p _ ?_ rfl hp⟩
        rw [hl, if_neg]
        · rfl
        · intro z
          refine e2 ?_
          show inV (.str (S (((tl row).drop i).take (i + runLen isSm 8 ((tl row).drop i) - i)))) (WORDS.map V.str) = true
          rw [show i + runLen isSm 8 ((tl row).drop i) - i = runLen isSm 8 ((tl row).drop i) by omega, hw]
          exact decide_eq_true z
    -- a great letter
    refine ⟨_, rfl, _, rfl, row, _, c, rfl, rfl, hsz, hc2, c, _, rfl, rfl, _, rfl, ?_⟩
    rw [show decide (c ∈ _) = isGr c from in_gr c]
    refine ite2 (fun e2 => ?_) (fun e2 => ?_)
    · refine ⟨_, rfl, _, rfl, _, _, rfl, rfl, _, _, rfl, rfl, row, _, i + 1, some 7, isSm, rfl, by omega, hz, in_sm, ?_⟩
      refine ⟨szS (by simp), fun p hp => ret "maker" (1 + runLen isSm 7 ((tl row).drop (i + 1))) p _ ?_ ?_ hp⟩
      · rw [hd]
        unfold lexOne
        simp only
        rw [if_neg e1, if_pos e2]
      · show ((i + 1 + runLen isSm 7 ((tl row).drop (i + 1)) : Nat) : Int) = _
        omega
    -- nought
    refine ⟨_, rfl, _, rfl, row, _, c, rfl, rfl, hsz, hc2, rfl, _, rfl, ?_⟩
    have h0 : decide (V.str ⟨#[c]⟩ = V.str "0") = decide (c = 48) := by
      have e0 : (Str.ofString "0") = ⟨#[48]⟩ := by decide +kernel
      rw [e0, Bool.eq_iff_iff, decide_eq_true_eq, decide_eq_true_eq]
      constructor
      · intro h
        injection h with h
        injection h with h
        have := congrArg Array.toList h
        simpa using this
      · rintro rfl
        rfl
    rw [h0]
    refine ite2 (fun e3 => ?_) (fun e3 => ?_)
    · refine ⟨_, rfl, _, _, rfl, rfl, szS (by simp), fun p hp => ret "number" 1 p _ ?_ (by omega) hp⟩
      rw [hd]
      unfold lexOne
      simp only
      rw [if_neg e1, if_neg e2, if_pos (of_decide_eq_true e3)]
    have e3' : ¬ c = 48 := fun z => e3 (decide_eq_true z)
    -- a figure
    refine ⟨_, rfl, _, rfl, row, _, c, rfl, rfl, hsz, hc2, c, _, rfl, rfl, _, rfl, ?_⟩
    rw [show decide (c ∈ _) = isFi c from in_fi c]
    refine ite2 (fun e4 => ?_) (fun e4 => ?_)
    · refine ⟨_, rfl, _, rfl, row, _, i, none, isFi, rfl, by omega, hz, in_fi, ?_⟩
      refine ⟨szS (by simp), fun p hp => ret "number" _ p _ ?_ rfl hp⟩
      have el : (tl row).length - i = ((tl row).drop i).length := by rw [List.length_drop]
      show lexOne ((tl row).drop i) = (_, runLen isFi ((tl row).length - i) ((tl row).drop i))
      rw [el, hd]
      unfold lexOne
      simp only
      rw [if_neg e1, if_neg e2, if_neg e3', if_pos e4]
    -- signs
    have hfall : lexOne ((tl row).drop i) = match SIGNS.find? fun g => isP (tl g) ((tl row).drop i) with | some g => (("sign" : Str), g.length) | none => (("none" : Str), 0) := by
      rw [hd]
      unfold lexOne
      simp only
      rw [if_neg e1, if_neg e2, if_neg e3', if_neg e4] <;> rfl
    refine ⟨_, rfl, ⟨_, T.t_SIGNS H⟩, for_tup (xs := SIGNS.map V.str) (fun j σ H' => ∃ v, σ = [some (.str row), some (.int (i : Int)), none, v] ∧ H' = H ∧ ∀ (k : Nat) g, k < j → SIGNS[k]? = some g → isP (tl g) ((tl row).drop i) = false)
      ⟨none, rfl, rfl, fun k g hk => by omega⟩ (fun j σ H' _ _ => T.t_SIGNS H') (fun j x σ H' hx hP => ?_) (fun σ H' hP => ?_)⟩
    · obtain ⟨v, rfl, rfl, hall⟩ := hP
      rw [List.getElem?_map] at hx
      obtain ⟨g, hg, rfl⟩ := Option.map_eq_some_iff.mp hx
      refine ⟨_, rfl, rfl, _, rfl, _, rfl, row, g, _, rfl, rfl, ?_⟩
      rw [starts3 row g i (by omega)]
      refine ⟨_, rfl, ite2 (fun e5 => ?_) (fun e5 => ?_)⟩
      · have hfind := find_at (p := fun g => isP (tl g) ((tl row).drop i)) hg e5 (fun k h hk hh => hall k h hk hh)
        have hgl : g.length ≤ sizeLine := by
          have hm := List.mem_of_getElem? hg
          have hall2 : ∀ x ∈ SIGNS, x.length ≤ 100 := by decide +kernel
          exact szS (Nat.le_trans (hall2 g hm) (by decide))
        refine ⟨_, rfl, _, rfl, g, rfl, hgl, _, _, rfl, rfl, szS (by simp), fun p hp => ret "sign" g.length p _ ?_ rfl hp⟩
        rw [hfall, hfind]
      · refine ⟨some (.str g), rfl, rfl, fun k h hk hh => ?_⟩
        by_cases hkj : k = j
        · subst hkj
          rw [hg] at hh
          rw [← Option.some.inj hh]
          simpa using e5
        · exact hall k h (by omega) hh
    · obtain ⟨v, rfl, rfl, hall⟩ := hP
      have hnone := find_no (p := fun g => isP (tl g) ((tl row).drop i)) (l := SIGNS) (fun k x hx => hall k x (by
        have := (List.getElem?_eq_some_iff.mp hx).1
        rw [List.length_map]
        exact this) hx)
      refine ⟨_, rfl, szS (by simp), fun p hp => ret "none" 0 p _ ?_ rfl hp⟩
      rw [hfall, hnone]
end
end Sw
set_option Elab.async false
set_option pp.maxSteps 600
set_option pp.deepTerms false
set_option linter.all false
set_option maxRecDepth 100000
set_option maxHeartbeats 4000000
namespace Sw
open PySem PySem.Spec PyProof.Rows L2 SX
section
variable {P : Program} {w : World} {K : PySem.W.Frag} {mg : Str → Option Value} {base : Heap}
/-! ### lexemes as objects -/
/-- a tuple ((row, column), sort, word) -/
def TkT (H : Hp) (v : V) (t : Tk) : Prop := ∃ a b, v = .ref a ∧ H a = some (.tup [.ref b, .str t.sort, .str t.word]) ∧ H b = some (.tup [.int (t.row : Int), .int (t.col : Int)])
theorem TkT.same {H H' : Hp} {v : V} {t : Tk} (h : TkT H v t) (e : Same H H') : TkT H' v t := by
  obtain ⟨a, b, h1, h2, h3⟩ := h
  exact ⟨a, b, h1, e _ _ h2, e _ _ h3⟩
theorem TkT.but {H H' : Hp} {v : V} {t : Tk} {f : Addr} {xs : List V} (h : TkT H v t) (e : But f H H') (hf : H f = some (.lst xs)) : TkT H' v t := by
  obtain ⟨a, b, h1, h2, h3⟩ := h
  exact ⟨a, b, h1, e _ _ (ne_of h2 hf (by intro z; cases z)) h2, e _ _ (ne_of h3 hf (by intro z; cases z)) h3⟩
theorem pt_same {H H' : Hp} {us : List V} {ts : List Tk} (h : Paired (TkT H) us ts) (e : Same H H') : Paired (TkT H') us ts := h.mono fun _ _ q => q.same e
theorem pt_but {H H' : Hp} {us : List V} {ts : List Tk} {f : Addr} {xs : List V} (h : Paired (TkT H) us ts) (e : But f H H') (hf : H f = some (.lst xs)) : Paired (TkT H') us ts := h.mono fun _ _ q => q.but e hf
theorem pt_app {α β : Type} {F : α → β → Prop} : ∀ {a : List α} {b : List β} {c : List α} {d : List β}, Paired F a b → Paired F c d → Paired F (a ++ c) (b ++ d)
  | _, _, _, _, .nil, h => h
  | _, _, _, _, .cons h t, q => .cons h (pt_app t q)
/-- Same holds on through a change of an object that was not there -/
theorem same_mut {H H1 : Hp} {f : Addr} {o : HO} (e : Same H H1) (n : H f = none) : Same H (upd H1 f o) := fun b u h => by
  rw [upd_ne (ne_of_none h n)]
  exact e b u h
theorem blank_is (c : Nat) : decide (V.str ⟨#[c]⟩ = V.str " ") = decide (c = 32) := by
  have e0 : (Str.ofString " ") = ⟨#[32]⟩ := by decide +kernel
  rw [e0, Bool.eq_iff_iff, decide_eq_true_eq, decide_eq_true_eq]
  constructor
  · intro h
    injection h with h
    injection h with h
    have := congrArg Array.toList h
    simpa using this
  · rintro rfl
    rfl
theorem dash_tl : tl "--" = [45, 45] := by decide +kernel
/-! ### what refuses a row -/
theorem lex_inv {num i : Nat} {c : Nat} {r : List Nat} {e : Option (Nat × Nat)} {ts : List Tk} (h : LexR num i (c :: r) e ts) (hr : isP [45, 45] (c :: r) = false) :
    (c = 32 ∧ LexR num (i + 1) r e ts) ∨ (c ≠ 32 ∧ ∃ so n, lexOne (c :: r) = (so, n) ∧ ((so = "none" ∧ e = some (num, i + 1) ∧ ts = []) ∨ (so ≠ "none" ∧ n ≤ (c :: r).length ∧
      ((so ≠ "sign" ∧ (∃ d, ((c :: r).drop n).head? = some d ∧ isAl d = true) ∧ e = some (num, i + n + 1) ∧ ts = []) ∨
      (1 ≤ n ∧ (so ≠ "sign" → ∀ d, ((c :: r).drop n).head? = some d → isAl d = false) ∧ ∃ us, LexR num (i + n) ((c :: r).drop n) e us ∧ ts = ⟨num, i + 1, so, S ((c :: r).take n)⟩ :: us))))) := by
  have nb : ∀ {c : Nat} {r : List Nat}, (c :: r).head? ≠ some 32 → c ≠ 32 := fun h2 e => h2 (by rw [e]; rfl)
  cases h with
  | fin h =>
    rcases h with h | h
    · cases h
    · rw [hr] at h
      cases h
  | blank h => exact .inl ⟨rfl, h⟩
  | tok h1 h2 h3 h4 h5 h6 h7 h8 h9 => exact .inr ⟨nb h2, _, _, h4, .inr ⟨h5, h7, .inr ⟨h6, h8, _, h9, rfl⟩⟩⟩
  | none h1 h2 h3 h4 => exact .inr ⟨nb h2, _, _, h4, .inl ⟨rfl, rfl, rfl⟩⟩
  | glued h1 h2 h3 h4 h5 h6 h7 h8 h9 => exact .inr ⟨nb h2, _, _, h4, .inr ⟨h5, h6, .inl ⟨h7, ⟨_, h8, h9⟩, rfl, rfl⟩⟩⟩
/-- each row has its lexemes, or the place at which none goes on -/
theorem lexOne_le (s : List Nat) : (lexOne s).2 ≤ s.length := by
  cases s with
  | nil => exact Nat.le_refl 0
  | cons c r =>
    unfold lexOne
    simp only
    split
    · exact runLen_le _ _ _
    · split
      · show 1 + runLen isSm 7 r ≤ (c :: r).length
        have := runLen_le isSm 7 r
        rw [List.length_cons]
        omega
      · split
        · show 1 ≤ (c :: r).length
          simp
        · split
          · exact runLen_le _ _ _
          · split
            · rename_i g hg
              have h := List.find?_some hg
              rw [isP_take] at h
              have h2 := (of_decide_eq_true h).1
              rw [tl_len] at h2
              exact h2
            · exact Nat.zero_le _
theorem lexOne_pos {s : List Nat} {so : Str} {n : Nat} (h : lexOne s = (so, n)) (hs : s ≠ []) (hn : so ≠ "none") : 1 ≤ n := by
  cases s with
  | nil => exact absurd rfl hs
  | cons c r =>
    have one : ∀ {p : Nat → Bool} {m : Nat}, p c = true → 1 ≤ m → 1 ≤ runLen p m (c :: r) := fun {p m} hp hm => by
      cases m with
      | zero => omega
      | succ m =>
        show 1 ≤ (if p c = true then runLen p m r + 1 else 0)
        rw [if_pos hp]
        omega
    unfold lexOne at h
    simp only at h
    split at h
    · rename_i e
      have := (Prod.mk.inj h).2
      rw [← this]
      exact one e (by decide)
    · split at h
      · have := (Prod.mk.inj h).2
        omega
      · split at h
        · have := (Prod.mk.inj h).2
          omega
        · split at h
          · rename_i e
            have := (Prod.mk.inj h).2
            rw [← this]
            exact one e (by simp)
          · split at h
            · rename_i g hg
              have h2 := (Prod.mk.inj h).2
              have hm := List.mem_of_find?_eq_some hg
              have h3 : ∀ x ∈ SIGNS, 1 ≤ x.length := by decide +kernel
              rw [← h2]
              exact h3 g hm
            · exact absurd (Prod.mk.inj h).1.symm hn
theorem lex_some (num : Nat) : ∀ (k i : Nat) (s : List Nat), s.length ≤ k → ∃ e ts, LexR num i s e ts
  | 0, i, s, h => ⟨none, [], .fin (.inl (List.length_eq_zero_iff.mp (by omega)))⟩
  | k + 1, i, [], h => ⟨none, [], .fin (.inl rfl)⟩
  | k + 1, i, c :: r, h => by
    cases hd : isP [45, 45] (c :: r) with
    | true => exact ⟨none, [], .fin (.inr hd)⟩
    | false =>
      by_cases hc : c = 32
      · subst hc
        obtain ⟨e, ts, q⟩ := lex_some num k (i + 1) r (by simpa using h)
        exact ⟨e, ts, .blank q⟩
      · have nb : (c :: r).head? ≠ some 32 := fun z => hc (Option.some.inj z)
        have hle := lexOne_le (c :: r)
        obtain ⟨so, n⟩ : Str × Nat := lexOne (c :: r)
        cases ho : lexOne (c :: r) with
        | mk so n =>
          rw [ho] at hle
          by_cases hn : so = "none"
          · subst hn
            exact ⟨_, _, .none (by simp) nb hd ho⟩
          · have hp := lexOne_pos ho (by simp) hn
            by_cases hg : so ≠ "sign" ∧ ∃ d, ((c :: r).drop n).head? = some d ∧ isAl d = true
            · obtain ⟨h1, d, h2, h3⟩ := hg
              exact ⟨_, _, .glued (by simp) nb hd ho hn hle h1 h2 h3⟩
            · have hl : ((c :: r).drop n).length ≤ k := by
                rw [List.length_drop]
                simp at h ⊢
                omega
              obtain ⟨e, ts, q⟩ := lex_some num k (i + n) _ hl
              refine ⟨e, _, .tok (by simp) nb hd ho hn hp hle (fun z d hd2 => ?_) q⟩
              cases ha : isAl d with
              | false => rfl
              | true => exact absurd ⟨z, d, hd2, ha⟩ hg
/-- the lexemes of rows, the first of which has this number, or the first place at which none goes on -/
inductive LexE : Nat → List Str → Option (Nat × Nat) → List Tk → Prop
  | nil {n : Nat} : LexE n [] none []
  | cons {n : Nat} {r : Str} {rs : List Str} {e : Option (Nat × Nat)} {t1 t2 : List Tk} : LexR n 0 (tl r) none t1 → LexE (n + 1) rs e t2 → LexE n (r :: rs) e (t1 ++ t2)
  | bad {n : Nat} {r : Str} {rs : List Str} {q : Nat × Nat} {t1 : List Tk} : LexR n 0 (tl r) (some q) t1 → LexE n (r :: rs) (some q) []
theorem lexE_some : ∀ (rows : List Str) (n : Nat), ∃ e ts, LexE n rows e ts
  | [], n => ⟨none, [], .nil⟩
  | r :: rows, n => by
    obtain ⟨e, t1, h⟩ := lex_some n (tl r).length 0 (tl r) (Nat.le_refl _)
    cases e with
    | some q => exact ⟨_, _, .bad h⟩
    | none =>
      obtain ⟨e, t2, h2⟩ := lexE_some rows (n + 1)
      exact ⟨_, _, .cons h h2⟩
/-! ### the refusal as an object -/
/-- the error's own dict d holds the place -/
def PlaceAt (H : Hp) (d : Addr) (q : Nat × Nat) : Prop := ∃ pl, H d = some (.xd [("place", .ref pl)]) ∧ H pl = some (.tup [.int (q.1 : Int), .int (q.2 : Int)])
theorem ok_NoSign_init (T : Txt K mg) : FnOk P w K mg base (L2.CX P w) 1 (He.ma K (He.ga K "NoSign") "__init__") (fdAt K (He.ma K (He.ga K "NoSign") "__init__")) ["self", "place"] (spIni1 (He.ga K "NoSign") "place") := by
  refine T.x_NoSign.fn.ok sc_NoSign_init (fun vs H Q E h => ?_) (fun cdv A outer s H vs Q E hr h => ?_)
  · obtain ⟨_, _, rfl, _⟩ := h
    rfl
  · obtain ⟨a, v, rfl, ha, q⟩ := h
    refine ⟨_, PSs.nox (pss_one (ps_ost (pv 0) (pv 1))), ?_⟩
    exact ⟨_, rfl, _, rfl, a, _, rfl, T.x_NoSign.cx, T.f_NoSign, .inl ⟨ha, q⟩⟩
def spRowLex (K : PySem.W.Frag) : Sp := fun vs H Q E => ∃ (row : Str) (num : Nat) (e : Option (Nat × Nat)) (ts : List Tk), vs = [.str row, .int (num : Int)] ∧ (tl row).length ≤ 10000 ∧ LexR num 0 (tl row) e ts ∧
  (e = none → ∀ p H' us, H p = none → Same H H' → H' p = some (.lst us) → Paired (TkT H') us ts → us.length ≤ (tl row).length → Q (.ref p) H') ∧
  (∀ q, e = some q → ∀ d H', H d = none → Same H H' → PlaceAt H' d q → E (.ref (He.ga K "NoSign")) (some d) H')
theorem ok_row_lexemes (T : Txt K mg) : FnOk P w K mg base (L2.CX P w) 3 (He.ga K "row_lexemes") (fdAt K (He.ga K "row_lexemes")) ["row", "number"] (spRowLex K) := by
  refine T.d_row_lexemes.fn.ok sc_row_lexemes (fun vs H Q E h => ?_) (fun cdv A outer s H vs Q E hr h => ?_)
  · obtain ⟨_, _, _, _, rfl, _⟩ := h
    rfl
  · obtain ⟨row, num, err, ts, rfl, hz, hL, q, qe⟩ := h
    refine ⟨_, (pss_cons (ps_set (i := 2) sc_row_lexemes.nd rfl (.inl rfl) (pe_lst pa_nil))
      (pss_cons (ps_set (i := 3) sc_row_lexemes.nd rfl (.inl rfl) pe_int)
      (pss_cons (ps_while (passes_of rfl) (pw_and (pt_cmpR op_lt (pv 3) (pe_callB call_len_str (by rfl) T.b_len PySem.boot_len (pa_cons (pv 0) pa_nil)) (nomark _)) (pw_and1 (pt_not (pt_val (pe_bm PySem.F.plainAttrs_str PySem.F.slot_str_startswith PySem.F.type_str_startswith mt_startswith3 (pv 0) (pa_cons pe_str (pa_cons (pv 3) pa_nil))))))).pt
        (pss_one (ps_if (pt_cmpR op_eq (pe_ix ix_str (pv 0) (pv 3) (fun _ _ => rfl)) pe_str (nomark _))
        (pss_one (ps_aug (i := 3) sc_row_lexemes.nd rfl (.inl rfl) pe_int ip_add))
        (pss_cons (ps_asg (pe_call (ok_lexeme_end T) (hr.mono (by decide)) (by rfl) T.d_lexeme_end.g T.d_lexeme_end.fn.kp T.d_lexeme_end.b .nil passL (pa_cons (pv 0) (pa_cons (pv 3) pa_nil))) (pg_tup rfl (pgs_cons (pg_name (i := 4) sc_row_lexemes.nd rfl (.inl rfl)) (pgs_cons (pg_name (i := 5) sc_row_lexemes.nd rfl (.inl rfl)) pgs_nil))))
      (pss_cons (ps_if (pt_cmpR op_eq (pv 4) pe_str (nomark _))
        (pss_one (ps_raise rfl (takes_of rfl rfl rfl rfl) (pmk_oex T.x_NoSign.cx T.x_NoSign.ini T.x_NoSign.ity (ok_NoSign_init T) (hr.mono (by decide)) T.x_NoSign.b .nil passL (by rfl) T.x_NoSign.g (pa_cons (pe_tup (pa_cons (pv 1) (pa_cons (pe_op op_add (pv 3) pe_int) pa_nil))) pa_nil))))
        pss_nil)
      (pss_cons (ps_if (pw_and (pt_cmpR op_ne (pv 4) pe_str (nomark _)) (pw_and (pt_cmpR op_lt (pv 5) (pe_callB call_len_str (by rfl) T.b_len PySem.boot_len (pa_cons (pv 0) pa_nil)) (nomark _)) (pw_and1 (pt_cmpR op_in_sign (pe_ix ix_str (pv 0) (pv 5) (fun _ _ => rfl)) (pe_op op_add_str (pe_op op_add_str (pe_g T.c_SMALL) (pe_g T.c_GREAT)) (pe_g T.c_FIGURES)) rfl)))).pt
        (pss_one (ps_raise rfl (takes_of rfl rfl rfl rfl) (pmk_oex T.x_NoSign.cx T.x_NoSign.ini T.x_NoSign.ity (ok_NoSign_init T) (hr.mono (by decide)) T.x_NoSign.b .nil passL (by rfl) T.x_NoSign.g (pa_cons (pe_tup (pa_cons (pv 1) (pa_cons (pe_op op_add (pv 5) pe_int) pa_nil))) pa_nil))))
        pss_nil)
      (pss_cons (ps_expr (pe_bm PySem.F.plainAttrs_list PySem.F.slot_list_append PySem.F.type_list_append mt_append (pv 2) (pa_cons (pe_tup (pa_cons (pe_tup (pa_cons (pv 1) (pa_cons (pe_op op_add (pv 3) pe_int) pa_nil))) (pa_cons (pv 4) (pa_cons (pe_slice sl_str (pv 0) (po_some (pv 3)) (po_some (pv 5))) pa_nil)))) pa_nil)))
      (pss_one (ps_set (i := 3) sc_row_lexemes.nd rfl (.inl rfl) (pv 5))))))))))
      (pss_one (ps_ret (pv 2)))))), ?_⟩
    have hrl : row.length = (tl row).length := (tl_len row).symm
    have hsz : row.length ≤ sizeLine := by rw [hrl]; exact szS (by omega)
    refine ⟨szS (by simp), fun fo hfo => ?_⟩
    refine ⟨fun m σ H' => ∃ (i : Nat) (y4 y5 : Option V) (us : List V) (t1 t2 : List Tk), σ = [some (.str row), some (.int (num : Int)), some (.ref fo), some (.int (i : Int)), y4, y5] ∧ Same H H' ∧ H' fo = some (.lst us) ∧ Paired (TkT H') us t1 ∧ LexR num i ((tl row).drop i) err t2 ∧ (err = none → ts = t1 ++ t2) ∧ i ≤ (tl row).length ∧ us.length ≤ i ∧ m = (tl row).length - i,
      ⟨_, 0, none, none, [], [], ts, rfl, same_new hfo, upd_same, .nil, hL, fun _ => rfl, by omega, by simp, rfl⟩, ?_⟩
    rintro m σ H' ⟨i, y4, y5, us, t1, t2, rfl, sm, hf, hp, hl, hts, hi, hu, rfl⟩
    refine ⟨_, rfl, _, rfl, row, rfl, hsz, _, _, rfl, rfl, _, rfl, ite2 (fun e => ?_) (fun e => ?_)⟩
    · have e1 := of_decide_eq_true e
      have hlt : i < (tl row).length := by rw [hrl] at e1; omega
      refine ⟨_, rfl, rfl, _, rfl, row, _, _, rfl, rfl, ?_⟩
      rw [starts3 row "--" i (by omega), dash_tl]
      obtain ⟨c, hc, hc2⟩ := at_some hlt
      have hd := drop_cons hc
      refine ⟨_, rfl, ?_⟩
      rw [hd] at hl ⊢
      cases hdash : isP [45, 45] (c :: (tl row).drop (i + 1)) with
      | true =>
        refine iteF ⟨_, rfl, ?_⟩
        have et2 : err = none ∧ t2 = [] := by
          cases hl with
          | fin => exact ⟨rfl, rfl⟩
          | blank h => simp [isP] at hdash
          | tok h1 h2 h3 => rw [hdash] at h3; cases h3
          | none h1 h2 h3 => rw [hdash] at h3; cases h3
          | glued h1 h2 h3 => rw [hdash] at h3; cases h3
        have hts2 := hts et2.1
        rw [et2.2, List.append_nil] at hts2
        subst hts2
        exact q et2.1 fo H' us hfo sm hf hp (by omega)
      | false =>
        refine iteT ?_
        refine ⟨fun σ' H'' => ∃ (i' : Nat) (y4 y5 : Option V) (us : List V) (t1' t2' : List Tk), i < i' ∧ σ' = [some (.str row), some (.int (num : Int)), some (.ref fo), some (.int (i' : Int)), y4, y5] ∧ Same H H'' ∧ H'' fo = some (.lst us) ∧ Paired (TkT H'') us t1' ∧ LexR num i' ((tl row).drop i') err t2' ∧ (err = none → ts = t1' ++ t2') ∧ i' ≤ (tl row).length ∧ us.length ≤ i',
          fun σ' H'' hN => ?_, ?_⟩
        · obtain ⟨i', y4, y5, us, t1', t2', hlt', h1, h2, h3, h4, h5, h6, h7, h8⟩ := hN
          exact ⟨(tl row).length - i', by omega, i', y4, y5, us, t1', t2', h1, h2, h3, h4, h5, h6, h7, h8, rfl⟩
        · refine ⟨_, rfl, _, rfl, row, _, c, rfl, rfl, hsz, hc2, rfl, _, rfl, ?_⟩
          rw [blank_is]
          rcases lex_inv hl hdash with ⟨rfl, hl2⟩ | ⟨hne, so, n, h1, hcase⟩
          · refine iteT ⟨_, rfl, _, _, rfl, rfl, i + 1, y4, y5, us, t1, t2, by omega, rfl, sm, hf, hp, hl2, hts, by omega, by omega⟩
          · rw [decide_eq_false hne]
            have hlen : (c :: (tl row).drop (i + 1)).length = (tl row).length - i := by rw [← hd, List.length_drop]
            refine iteF ⟨_, rfl, _, rfl, row, i, rfl, hlt, by omega, fun so' n' tp H1 hone htp sm1 htt => ?_⟩
            have eon : (so', n') = (so, n) := hone.symm.trans (by rw [hd]; exact h1)
            obtain ⟨rfl, rfl⟩ := Prod.mk.inj eon
            refine ⟨tp, _, rfl, .of htt, rfl, _, _, rfl, _, _, rfl, rfl, ?_⟩
            refine ⟨_, rfl, rfl, _, rfl, ?_⟩
            rcases hcase with ⟨hno, herr, _⟩ | ⟨h2, h4, hrest⟩
            · -- no lexeme begins
              rw [decide_eq_true (congrArg V.str hno)]
              refine iteT ⟨_, rfl, _, rfl, _, _, rfl, rfl, szS (by simp), fun pl hpl => raise1 fun d H2 hd2 sm2 hx2 => ?_⟩
              have snew := same_new (o := HO.tup [V.int (num : Int), V.int ((i : Int) + 1)]) hpl
              exact qe _ herr d H2 ((sm.trans (sm1.trans snew)).free hd2) (sm.trans (sm1.trans (snew.trans sm2))) ⟨pl, hx2, sm2 _ _ upd_same⟩
            rw [decide_eq_false (fun z => h2 (V.str.inj z))]
            refine iteF ?_
            have rest : 1 ≤ n' → (so' ≠ "sign" → ∀ d, ((c :: (tl row).drop (i + 1)).drop n').head? = some d → isAl d = false) → (∃ us, LexR num (i + n') ((c :: (tl row).drop (i + 1)).drop n') err us ∧ t2 = ⟨num, i + 1, so', S ((c :: (tl row).drop (i + 1)).take n')⟩ :: us) →
                tSeq (tDrop (tBM K "list" rAppend (tVar 2) (tCons (tTup (tCons (tTup (tCons (tVar 1) (tCons (tOp (rI0 fun i j => V.int (i + j)) (tVar 3) (tC (.int 1))) tNil))) (tCons (tVar 4) (tCons (tSl rSlS (tVar 0) (tPart (tVar 3)) (tPart (tVar 5))) tNil)))) tNil))) (tAsg (tVar 5) (gName 3))
                { nx := fun σ' H'' => ∃ (i' : Nat) (y4 y5 : Option V) (us : List V) (t1' t2' : List Tk), i < i' ∧ σ' = [some (.str row), some (.int (num : Int)), some (.ref fo), some (.int (i' : Int)), y4, y5] ∧ Same H H'' ∧ H'' fo = some (.lst us) ∧ Paired (TkT H'') us t1' ∧ LexR num i' ((tl row).drop i') err t2' ∧ (err = none → ts = t1' ++ t2') ∧ i' ≤ (tl row).length ∧ us.length ≤ i', rt := Q,
                  bk := fun σ' H'' => tRet (tVar 2) { nx := fun _ H' => Q .non H', rt := Q } σ' H'', ct := fun σ' H'' => ∃ (i' : Nat) (y4 y5 : Option V) (us : List V) (t1' t2' : List Tk), i < i' ∧ σ' = [some (.str row), some (.int (num : Int)), some (.ref fo), some (.int (i' : Int)), y4, y5] ∧ Same H H'' ∧ H'' fo = some (.lst us) ∧ Paired (TkT H'') us t1' ∧ LexR num i' ((tl row).drop i') err t2' ∧ (err = none → ts = t1' ++ t2') ∧ i' ≤ (tl row).length ∧ us.length ≤ i' }
                [some (.str row), some (.int (num : Int)), some (.ref fo), some (.int (i : Int)), some (.str so'), some (.int ((i + n' : Nat) : Int))] H1 := by
              rintro h3 h5 ⟨vs, h6, rfl⟩
              have hf1 : H1 fo = some (.lst us) := sm1 _ _ hf
              refine ⟨_, rfl, .inl ⟨rfl, _, .of hf1⟩, _, rfl, _, rfl, _, _, rfl, rfl, szS (by simp), fun b hb => ?_⟩
              refine ⟨_, rfl, _, rfl, _, rfl, _, rfl, _, rfl, _, rfl, row, rfl, hsz, szS (by simp), fun a ha => ?_⟩
              have nfb : fo ≠ b := ne_of_none hf1 hb
              have hf2 := (same_new (o := HO.tup [V.int (num : Int), V.int ((i : Int) + 1)]) hb) _ _ hf1
              have nfa : fo ≠ a := ne_of_none hf2 ha
              have hf3 : upd (upd H1 b (.tup [V.int (num : Int), V.int ((i : Int) + 1)])) a (.tup [V.ref b, V.str so', V.str (cutS row (some (i : Int)) (some ((i + n' : Nat) : Int)))]) fo = some (.lst us) := (same_new ha) _ _ hf2
              have smA : Same H1 (upd (upd H1 b (.tup [V.int (num : Int), V.int ((i : Int) + 1)])) a (.tup [V.ref b, V.str so', V.str (cutS row (some (i : Int)) (some ((i + n' : Nat) : Int)))])) := (same_new hb).trans (same_new ha)
              have nba : b ≠ a := fun z => by
                rw [← z, upd_same] at ha
                cases ha
              refine ⟨fo, us, .ref a, rfl, rfl, hf3, szL (by omega), _, rfl, i + n', _, _, us ++ [.ref a], t1 ++ [⟨num, i + 1, so', S ((c :: (tl row).drop (i + 1)).take n')⟩], vs, by omega, rfl, same_mut (sm.trans (sm1.trans smA)) hfo, upd_same, ?_, ?_, fun z => by rw [hts z]; simp, by omega, by rw [List.length_append]; simp; omega⟩
              · refine Paired.snoc (pt_but (pt_same (pt_same hp sm1) smA) (But.upd (But.refl _ _)) hf3) ⟨a, b, rfl, ?_, ?_⟩
                · rw [upd_ne nfa.symm, upd_same, cut_at row i (i + n') (by omega) (by omega), hd, show i + n' - i = n' by omega]
                · rw [upd_ne nfb.symm, upd_ne nba, upd_same]
                  rfl
              · rw [← hd, List.drop_drop] at h6
                exact h6
            refine ⟨_, rfl, rfl, _, rfl, ?_⟩
            by_cases hsg : so' = "sign"
            · rw [show (!decide (V.str so' = V.str "sign")) = false by rw [hsg]; simp]
              rcases hrest with ⟨hz2, _⟩ | ⟨r1, r2, r3⟩
              · exact absurd hsg hz2
              · exact iteF (iteF (rest r1 r2 r3))
            · rw [show (!decide (V.str so' = V.str "sign")) = true by rw [decide_eq_false (fun z => hsg (V.str.inj z))]; rfl]
              refine iteT ⟨_, rfl, _, rfl, row, rfl, hsz, _, _, rfl, rfl, _, rfl, ite2 (fun e5 => ?_) (fun e5 => ?_)⟩
              · have e6 := of_decide_eq_true e5
                have hlt2 : i + n' < (tl row).length := by rw [hrl] at e6; omega
                obtain ⟨d, hd1, hd2⟩ := at_some hlt2
                have hhead : ((c :: (tl row).drop (i + 1)).drop n').head? = some d := by rw [← hd, List.drop_drop, drop_cons hd1]; rfl
                refine ⟨_, rfl, _, rfl, row, _, d, rfl, rfl, hsz, hd2, _, _, rfl, rfl, szS (by decide), _, _, rfl, rfl, szS (by decide), d, _, rfl, rfl, _, rfl, ?_⟩
                rw [show decide (d ∈ _) = isAl d from in_al d]
                rcases hrest with ⟨_, ⟨d', hd3, hd4⟩, herr, _⟩ | ⟨r1, r2, r3⟩
                · rw [hhead] at hd3
                  cases hd3
                  rw [hd4]
                  refine iteT ⟨_, rfl, _, rfl, _, _, rfl, rfl, szS (by simp), fun pl hpl => raise1 fun d H2 hd2 sm2 hx2 => ?_⟩
                  have snew := same_new (o := HO.tup [V.int (num : Int), V.int (((i + n' : Nat) : Int) + 1)]) hpl
                  exact qe _ herr d H2 ((sm.trans (sm1.trans snew)).free hd2) (sm.trans (sm1.trans (snew.trans sm2))) ⟨pl, hx2, sm2 _ _ upd_same⟩
                · rw [r2 hsg d hhead]
                  exact iteF (rest r1 r2 r3)
              · rcases hrest with ⟨_, ⟨d', hd3, hd4⟩, herr, _⟩ | ⟨r1, r2, r3⟩
                · exfalso
                  have e6 : ¬ ((i + n' : Nat) : Int) < (row.length : Int) := fun z => e5 (decide_eq_true z)
                  rw [← hd, List.drop_drop, List.drop_eq_nil_of_le (by rw [hrl] at e6; omega)] at hd3
                  cases hd3
                · exact iteF (rest r1 r2 r3)
    · have e1 : ¬ (i : Int) < (row.length : Int) := fun z => e (decide_eq_true z)
      have ei : i = (tl row).length := by rw [hrl] at e1; omega
      refine iteF ⟨_, rfl, ?_⟩
      have et2 : err = none ∧ t2 = [] := by
        rw [ei, List.drop_length] at hl
        cases hl with
        | fin => exact ⟨rfl, rfl⟩
        | tok h1 => exact absurd rfl h1
        | none h1 => exact absurd rfl h1
        | glued h1 => exact absurd rfl h1
      have hts2 := hts et2.1
      rw [et2.2, List.append_nil] at hts2
      subst hts2
      exact q et2.1 fo H' us hfo sm hf hp (by omega)
def spLexemes (K : PySem.W.Frag) : Sp := fun vs H Q E => ∃ (a : Addr) (rows : List Str) (e : Option (Nat × Nat)) (ts : List Tk), vs = [.ref a] ∧ SqL K H a (rows.map V.str) ∧ rows.length ≤ 200 ∧ (∀ r ∈ rows, (tl r).length ≤ 300) ∧ LexE 1 rows e ts ∧
  (e = none → ∀ p H' us, H p = none → Same H H' → H' p = some (.lst us) → Paired (TkT H') us ts → us.length ≤ 300 * rows.length → Q (.ref p) H') ∧
  (∀ q, e = some q → ∀ d H', H d = none → Same H H' → PlaceAt H' d q → E (.ref (He.ga K "NoSign")) (some d) H')
theorem ok_lexemes (T : Txt K mg) : FnOk P w K mg base (L2.CX P w) 4 (He.ga K "lexemes") (fdAt K (He.ga K "lexemes")) ["text"] (spLexemes K) := by
  refine T.d_lexemes.fn.ok sc_lexemes (fun vs H Q E h => ?_) (fun cdv A outer s H vs Q E hr h => ?_)
  · obtain ⟨_, _, _, _, rfl, _⟩ := h
    rfl
  · obtain ⟨a, rows, err, ts, rfl, hS, hn, hz, hL, q, qe⟩ := h
    refine ⟨_, (pss_cons (ps_set (i := 1) sc_lexemes.nd rfl (.inl rfl) (pe_lst pa_nil))
      (pss_cons (ps_for (passes_of rfl) rfl (pi_enum (by rfl) T.b_enumerate (pa_cons (pv 0) pa_nil)) (pg_tup rfl (pgs_cons (pg_name (i := 2) sc_lexemes.nd rfl (.inl rfl)) (pgs_cons (pg_name (i := 3) sc_lexemes.nd rfl (.inl rfl)) pgs_nil)))
        (pss_one (ps_expr (pe_bm PySem.F.plainAttrs_list PySem.F.slot_list_extend PySem.F.type_list_extend mt_extend (pv 1) (pa_cons (pe_call (ok_row_lexemes T) (hr.mono (by decide)) (by rfl) T.d_row_lexemes.g T.d_row_lexemes.fn.kp T.d_row_lexemes.b .nil (passes_call (takes_of rfl rfl rfl rfl) (fun _ _ _ _ h => h)) (pa_cons (pv 3) (pa_cons (pe_op op_add (pv 2) pe_int) pa_nil))) pa_nil)))))
      (pss_one (ps_ret (pv 1))))), ?_⟩
    refine ⟨szS (by simp), fun fo hfo => ?_⟩
    refine ⟨_, rfl, a, _, rfl, (same_new hfo).seq hS, for_it (walk_enum (xs := rows.map V.str)) (fun i σ H' => ∃ (y2 y3 : Option V) (us : List V) (t1 t2 : List Tk), σ = [some (.ref a), some (.ref fo), y2, y3] ∧ Same H H' ∧ H' fo = some (.lst us) ∧ Paired (TkT H') us t1 ∧ LexE (i + 1) (rows.drop i) err t2 ∧ (err = none → ts = t1 ++ t2) ∧ us.length ≤ 300 * i)
      ⟨none, none, [], [], ts, rfl, same_new hfo, upd_same, .nil, hL, fun _ => rfl, by simp⟩ (fun i σ H' _ ⟨_, _, _, _, _, _, sm, _⟩ => sm.seq hS) (fun i x σ H1 H2 hi hP hY => ?_) (fun σ H' hP => ?_)⟩
    · obtain ⟨y2, y3, us, t1, t2, rfl, sm, hf, hp, hl, hts, hu⟩ := hP
      obtain ⟨T0, x1, x2, rfl, hT0, rfl, ex1, ex2⟩ := hY
      rw [List.length_map] at hi
      have hg : rows[i]? = some rows[i] := List.getElem?_eq_getElem hi
      have ex2' : x2 = .str rows[i] := by
        dsimp only at ex2
        rw [List.getElem?_map, hg] at ex2
        exact (Option.some.inj ex2).symm
      have ex1' : x1 = .int (i : Int) := (Option.some.inj ex1).symm
      subst ex1' ex2'
      refine ⟨T0, _, rfl, .of upd_same, rfl, _, _, rfl, _, _, rfl, rfl, ?_⟩
      have sm1 := same_new (o := HO.tup [.int (i : Int), .str rows[i]]) hT0
      have hf1 := sm1 _ _ hf
      rw [List.drop_eq_getElem_cons hi] at hl
      have hpz := hz _ (List.getElem_mem hi)
      cases hl with
      | @cons n r rs e u1 u2 hl1 hl2 =>
        refine ⟨_, rfl, .inl ⟨rfl, _, .of hf1⟩, _, rfl, _, rfl, _, _, rfl, rfl, rows[i], i + 1, none, u1, rfl, by omega, hl1, fun _ p H3 vs hp0 sm3 hp3 hpp hvl => ?_, fun q z => by cases z⟩
        have hf3 := sm3 _ _ hf1
        refine ⟨fo, p, us, vs, rfl, rfl, hf3, hp3, szS (by omega), _, _, us ++ vs, t1 ++ u1, u2, rfl, same_mut (sm.trans (sm1.trans sm3)) hfo, upd_same, ?_, hl2, fun z => by rw [hts z, List.append_assoc], by rw [List.length_append]; omega⟩
        exact pt_app (pt_but (pt_same (pt_same hp sm1) sm3) (But.upd (But.refl _ _)) hf3) (pt_but hpp (But.upd (But.refl _ _)) hf3)
      | @bad n r rs q0 u1 hl1 =>
        refine ⟨_, rfl, .inl ⟨rfl, _, .of hf1⟩, _, rfl, _, rfl, _, _, rfl, rfl, rows[i], i + 1, some q0, u1, rfl, by omega, hl1, (fun z => by cases z), fun q z d H3 hd3 sm3 hx3 => ?_⟩
        cases z
        exact qe q0 rfl d H3 ((sm.trans sm1).free hd3) (sm.trans (sm1.trans sm3)) hx3
    · obtain ⟨y2, y3, us, t1, t2, rfl, sm, hf, hp, hl, hts, hu⟩ := hP
      rw [List.length_map, List.drop_length] at hl
      cases hl
      have hts2 := hts rfl
      rw [List.append_nil] at hts2
      subst hts2
      exact ⟨_, rfl, q rfl fo H' us hfo sm hf hp (by rw [List.length_map] at hu; exact hu)⟩
end
end Sw
set_option Elab.async false
set_option pp.maxSteps 600
set_option pp.deepTerms false
set_option linter.all false
set_option maxRecDepth 100000
set_option maxHeartbeats 4000000
namespace Sw
open PySem PySem.Spec PyProof.Rows L2 SX
/-! ### the layout object -/
structure LA where
  x : Addr
  dx : Addr
  t : Addr
  p : Addr
  l : Addr
def opV : Option Str → V
  | none => .non
  | some o => .str o
def nV (n : Nat) : V := .int (n : Int)
def numV : Option Nat → V
  | none => .non
  | some n => .int (n : Int)
theorem op_str {o : Option Str} {z : Str} (h : opV o = V.str z) : o = some z := by
  cases o with
  | none => cases h
  | some o => rw [V.str.inj h]
theorem scal_op (o : Option Str) (z : Str) : scal (opV o) (V.str z) = true := by cases o <;> rfl
def bW (b : Bool) : Str := if b = true then "block" else "bracket"
def EntT (H : Hp) (v : V) (e : Ent) : Prop := ∃ a, v = .ref a ∧ H a = some (.tup [.str (bW e.b), .int (e.col : Int), numV e.num])
def fsL (L : LA) (op : Option Str) (line : Nat) : List (Str × V) := [(("told" : Str), V.ref L.t), ("pile", .ref L.p), ("lets", .ref L.l), ("opener", opV op), ("line", .int (line : Int))]
structure Lay (K : PySem.W.Frag) (H : Hp) (L : LA) (s : LSt) : Prop where
  ob : H L.x = some (.ins (He.ga K "Laying") L.dx (fsL L s.op s.line))
  told : ∃ us, H L.t = some (.lst us) ∧ Paired (TkT H) us s.told
  pile : ∃ ps, H L.p = some (.lst ps) ∧ Paired (EntT H) ps s.pile
  lets : H L.l = some (.lst (s.lets.map nV))
  tp : L.t ≠ L.p
  tl : L.t ≠ L.l
  pl : L.p ≠ L.l
/-- all but the layout object's own parts is as it was -/
def Fr (L : LA) (H H' : Hp) : Prop := ∀ b o, b ≠ L.x → b ≠ L.t → b ≠ L.p → b ≠ L.l → H b = some o → H' b = some o
def KT (H H' : Hp) : Prop := ∀ b xs, H b = some (.tup xs) → H' b = some (.tup xs)
theorem KT.of {H H' : Hp} (h : Same H H') : KT H H' := fun b xs e => h b _ e
theorem KT.upd {H : Hp} {a : Addr} {o : HO} (h : ∀ xs, H a ≠ some (.tup xs)) : KT H (upd H a o) := fun b xs e => by
  rw [upd_ne (fun z => h xs (by rw [← z]; exact e))]
  exact e
theorem KT.trans {H H1 H2 : Hp} (a : KT H H1) (b : KT H1 H2) : KT H H2 := fun x xs e => b x xs (a x xs e)
theorem TkT.kt {H H' : Hp} {v : V} {t : Tk} (h : TkT H v t) (k : KT H H') : TkT H' v t := by
  obtain ⟨a, b, h1, h2, h3⟩ := h
  exact ⟨a, b, h1, k _ _ h2, k _ _ h3⟩
theorem EntT.kt {H H' : Hp} {v : V} {e : Ent} (h : EntT H v e) (k : KT H H') : EntT H' v e := by
  obtain ⟨a, h1, h2⟩ := h
  exact ⟨a, h1, k _ _ h2⟩
theorem Fr.refl (L : LA) (H : Hp) : Fr L H H := fun _ _ _ _ _ _ h => h
theorem Fr.trans {L : LA} {H H1 H2 : Hp} (a : Fr L H H1) (b : Fr L H1 H2) : Fr L H H2 := fun x o h1 h2 h3 h4 h => b x o h1 h2 h3 h4 (a x o h1 h2 h3 h4 h)
theorem Fr.of {L : LA} {H H' : Hp} (h : Same H H') : Fr L H H' := fun x o _ _ _ _ e => h x o e
theorem Fr.updX {L : LA} {H : Hp} {o : HO} : Fr L H (upd H L.x o) := fun b u h1 _ _ _ e => by rw [upd_ne h1]; exact e
theorem Fr.updT {L : LA} {H : Hp} {o : HO} : Fr L H (upd H L.t o) := fun b u _ h1 _ _ e => by rw [upd_ne h1]; exact e
theorem Fr.updP {L : LA} {H : Hp} {o : HO} : Fr L H (upd H L.p o) := fun b u _ _ h1 _ e => by rw [upd_ne h1]; exact e
theorem Fr.updL {L : LA} {H : Hp} {o : HO} : Fr L H (upd H L.l o) := fun b u _ _ _ h1 e => by rw [upd_ne h1]; exact e
section
variable {K : PySem.W.Frag} {H H' : Hp} {L : LA} {s : LSt}
theorem Lay.xt (h : Lay K H L s) : L.x ≠ L.t := fun z => by
  obtain ⟨us, h1, _⟩ := h.told
  rw [← z, h.ob] at h1
  cases h1
theorem Lay.xp (h : Lay K H L s) : L.x ≠ L.p := fun z => by
  obtain ⟨us, h1, _⟩ := h.pile
  rw [← z, h.ob] at h1
  cases h1
theorem Lay.xl (h : Lay K H L s) : L.x ≠ L.l := fun z => by
  have h1 := h.lets
  rw [← z, h.ob] at h1
  cases h1
theorem Lay.ntX (h : Lay K H L s) : ∀ xs, H L.x ≠ some (.tup xs) := fun xs z => by rw [h.ob] at z; cases z
theorem Lay.ntT (h : Lay K H L s) : ∀ xs, H L.t ≠ some (.tup xs) := fun xs z => by
  obtain ⟨us, h1, _⟩ := h.told
  rw [h1] at z
  cases z
theorem Lay.ntP (h : Lay K H L s) : ∀ xs, H L.p ≠ some (.tup xs) := fun xs z => by
  obtain ⟨us, h1, _⟩ := h.pile
  rw [h1] at z
  cases z
theorem Lay.ntL (h : Lay K H L s) : ∀ xs, H L.l ≠ some (.tup xs) := fun xs z => by
  rw [h.lets] at z
  cases z
theorem Fr.kt (h : Lay K H L s) (f : Fr L H H') : KT H H' := fun b xs e => f b _ (fun z => h.ntX xs (z ▸ e)) (fun z => h.ntT xs (z ▸ e)) (fun z => h.ntP xs (z ▸ e)) (fun z => h.ntL xs (z ▸ e)) e
theorem Lay.same (h : Lay K H L s) (e : Same H H') : Lay K H' L s := by
  obtain ⟨us, h1, h2⟩ := h.told
  obtain ⟨ps, h3, h4⟩ := h.pile
  exact ⟨e _ _ h.ob, ⟨us, e _ _ h1, h2.mono fun _ _ q => q.kt (.of e)⟩, ⟨ps, e _ _ h3, h4.mono fun _ _ q => q.kt (.of e)⟩, e _ _ h.lets, h.tp, h.tl, h.pl⟩
theorem Lay.pushT (h : Lay K H L s) {us : List V} (hu : H L.t = some (.lst us)) {v : V} {tk : Tk} (hv : TkT H v tk) : Lay K (upd H L.t (.lst (us ++ [v]))) L { s with told := s.told ++ [tk] } := by
  obtain ⟨us', h1, h2⟩ := h.told
  obtain ⟨ps, h3, h4⟩ := h.pile
  have e : us = us' := by rw [hu] at h1; injection (Option.some.inj h1)
  subst e
  have k := KT.upd (o := HO.lst (us ++ [v])) h.ntT
  refine ⟨by rw [upd_ne h.xt]; exact h.ob, ⟨_, upd_same, Paired.snoc (h2.mono fun _ _ q => q.kt k) (hv.kt k)⟩, ⟨ps, by rw [upd_ne h.tp.symm]; exact h3, h4.mono fun _ _ q => q.kt k⟩, by rw [upd_ne h.tl.symm]; exact h.lets, h.tp, h.tl, h.pl⟩
theorem Lay.pushP (h : Lay K H L s) {ps : List V} (hu : H L.p = some (.lst ps)) {v : V} {e : Ent} (hv : EntT H v e) : Lay K (upd H L.p (.lst (ps ++ [v]))) L { s with pile := s.pile ++ [e] } := by
  obtain ⟨us, h1, h2⟩ := h.told
  obtain ⟨ps', h3, h4⟩ := h.pile
  have e : ps = ps' := by rw [hu] at h3; injection (Option.some.inj h3)
  subst e
  have k := KT.upd (o := HO.lst (ps ++ [v])) h.ntP
  refine ⟨by rw [upd_ne h.xp]; exact h.ob, ⟨us, by rw [upd_ne h.tp]; exact h1, h2.mono fun _ _ q => q.kt k⟩, ⟨_, upd_same, Paired.snoc (h4.mono fun _ _ q => q.kt k) (hv.kt k)⟩, by rw [upd_ne h.pl.symm]; exact h.lets, h.tp, h.tl, h.pl⟩
theorem Lay.setP (h : Lay K H L s) {ps : List V} {es : List Ent} (hp : Paired (EntT H) ps es) : Lay K (upd H L.p (.lst ps)) L { s with pile := es } := by
  obtain ⟨us, h1, h2⟩ := h.told
  have k := KT.upd (o := HO.lst ps) h.ntP
  exact ⟨by rw [upd_ne h.xp]; exact h.ob, ⟨us, by rw [upd_ne h.tp]; exact h1, h2.mono fun _ _ q => q.kt k⟩, ⟨_, upd_same, hp.mono fun _ _ q => q.kt k⟩, by rw [upd_ne h.pl.symm]; exact h.lets, h.tp, h.tl, h.pl⟩
theorem Lay.setL (h : Lay K H L s) (ns : List Nat) : Lay K (upd H L.l (.lst (ns.map nV))) L { s with lets := ns } := by
  obtain ⟨us, h1, h2⟩ := h.told
  obtain ⟨ps, h3, h4⟩ := h.pile
  have k := KT.upd (o := HO.lst (ns.map nV)) h.ntL
  exact ⟨by rw [upd_ne h.xl]; exact h.ob, ⟨us, by rw [upd_ne h.tl]; exact h1, h2.mono fun _ _ q => q.kt k⟩, ⟨ps, by rw [upd_ne h.pl]; exact h3, h4.mono fun _ _ q => q.kt k⟩, upd_same, h.tp, h.tl, h.pl⟩
theorem Lay.setX (h : Lay K H L s) (op : Option Str) (line : Nat) : Lay K (upd H L.x (.ins (He.ga K "Laying") L.dx (fsL L op line))) L { s with op := op, line := line } := by
  obtain ⟨us, h1, h2⟩ := h.told
  obtain ⟨ps, h3, h4⟩ := h.pile
  have k := KT.upd (o := HO.ins (He.ga K "Laying") L.dx (fsL L op line)) h.ntX
  exact ⟨upd_same, ⟨us, by rw [upd_ne h.xt.symm]; exact h1, h2.mono fun _ _ q => q.kt k⟩, ⟨ps, by rw [upd_ne h.xp.symm]; exact h3, h4.mono fun _ _ q => q.kt k⟩, by rw [upd_ne h.xl.symm]; exact h.lets, h.tp, h.tl, h.pl⟩
end
/-! fields -/
section
variable {L : LA} {op : Option Str} {line : Nat}
theorem lk_told : List.lookup ("told" : Str) (fsL L op line) = some (.ref L.t) := look_hit
theorem lk_pile : List.lookup ("pile" : Str) (fsL L op line) = some (.ref L.p) := (look_skip (by decide +kernel)).trans look_hit
theorem lk_lets : List.lookup ("lets" : Str) (fsL L op line) = some (.ref L.l) := (look_skip (by decide +kernel)).trans ((look_skip (by decide +kernel)).trans look_hit)
theorem lk_op : List.lookup ("opener" : Str) (fsL L op line) = some (opV op) := (look_skip (by decide +kernel)).trans ((look_skip (by decide +kernel)).trans ((look_skip (by decide +kernel)).trans look_hit))
theorem lk_line : List.lookup ("line" : Str) (fsL L op line) = some (.int (line : Int)) := (look_skip (by decide +kernel)).trans ((look_skip (by decide +kernel)).trans ((look_skip (by decide +kernel)).trans ((look_skip (by decide +kernel)).trans look_hit)))
theorem lk_no {m : Str} (h : m ∉ (["told", "pile", "lets", "opener", "line"] : List Str)) : (fsL L op line).lookup m = none := by
  simp only [List.mem_cons, List.mem_nil_iff, or_false, not_or] at h
  obtain ⟨h1, h2, h3, h4, h5⟩ := h
  exact (look_skip h1).trans ((look_skip h2).trans ((look_skip h3).trans ((look_skip h4).trans (look_skip h5))))
theorem pf_op (o : Option Str) : putF "opener" (opV o) (fsL L op line) = fsL L o line := by
  unfold fsL
  rw [putF_skip (by decide +kernel), putF_skip (by decide +kernel), putF_skip (by decide +kernel), putF_hit]
theorem pf_line (n : Nat) : putF "line" (.int (n : Int)) (fsL L op line) = fsL L op n := by
  unfold fsL
  rw [putF_skip (by decide +kernel), putF_skip (by decide +kernel), putF_skip (by decide +kernel), putF_skip (by decide +kernel), putF_hit]
end
section
variable {P : Program} {w : World} {K : PySem.W.Frag} {mg : Str → Option Value} {base : Heap}
abbrev LC (K : PySem.W.Frag) : Addr := He.ga K "Laying"
/-- a place -/
def PlT (H : Hp) (b : Addr) (r c : Nat) : Prop := H b = some (.tup [.int (r : Int), .int (c : Int)])
/-- a method of the layout object that hands back v -/
def Af (K : PySem.W.Frag) (L : LA) (H : Hp) (s : LSt) (Q : VK) (v : V) : Prop := ∀ H', Fr L H H' → Lay K H' L s → Q v H'
def spMark (K : PySem.W.Frag) : Sp := fun vs H Q _ => ∃ (L : LA) (s : LSt) (b : Addr) (r c : Nat) (wd : Str), vs = [.ref L.x, .ref b, .str wd] ∧ Lay K H L s ∧ PlT H b r c ∧ s.told.length < 90000 ∧ Af K L H { s with told := s.told ++ [mkT r c wd] } Q .non
theorem ok_Laying_mark (T : Txt K mg) : FnOk P w K mg base (L2.CX P w) 1 (He.ma K (He.ga K "Laying") "mark") (fdAt K (He.ma K (He.ga K "Laying") "mark")) ["self", "place", "word"] (spMark K) := by
  refine T.d_Laying_mark.fn.ok sc_Laying_mark (fun vs H Q E h => ?_) (fun cdv A outer s H vs Q E hr h => ?_)
  · obtain ⟨_, _, _, _, _, _, rfl, _⟩ := h
    rfl
  · obtain ⟨L, s, b, r, c, wd, rfl, hL, hb, hn, q⟩ := h
    refine ⟨_, PSs.nox (pss_one (ps_expr (pe_bm PySem.F.plainAttrs_list PySem.F.slot_list_append PySem.F.type_list_append mt_append (pe_fld (pv 0) rfl) (pa_cons (pe_tup (pa_cons (pv 1) (pa_cons pe_str (pa_cons (pv 2) pa_nil)))) pa_nil)))), ?_⟩
    obtain ⟨us, h1, h2⟩ := hL.told
    refine ⟨_, rfl, L.x, _, _, _, _, rfl, hL.ob, T.cl_Laying, T.na_Laying _ (by simp), lk_told, .inl ⟨rfl, _, .of h1⟩, _, rfl, _, rfl, szS (by simp), fun a ha => ?_⟩
    have s1 := same_new (o := HO.tup [V.ref b, V.str "mark", V.str wd]) ha
    have hl : us.length = s.told.length := h2.length
    refine ⟨L.t, us, .ref a, rfl, rfl, s1 _ _ h1, szL (by omega), q _ ((Fr.of s1).trans Fr.updT) ((hL.same s1).pushT (s1 _ _ h1) ⟨a, b, rfl, upd_same, s1 _ _ hb⟩)⟩
def spColumn (K : PySem.W.Frag) : Sp := fun vs H Q _ => ∃ (L : LA) (s : LSt), vs = [.ref L.x] ∧ Lay K H L s ∧ s.pile.length < 90000 ∧ ∀ H', Same H H' → Q (.int (colOf s.pile : Int)) H'
theorem ok_Laying_column (T : Txt K mg) : FnOk P w K mg base (L2.CX P w) 1 (He.ma K (He.ga K "Laying") "column") (fdAt K (He.ma K (He.ga K "Laying") "column")) ["self"] (spColumn K) := by
  refine T.d_Laying_column.fn.ok sc_Laying_column (fun vs H Q E h => ?_) (fun cdv A outer s H vs Q E hr h => ?_)
  · obtain ⟨_, _, rfl, _⟩ := h
    rfl
  · obtain ⟨L, s, rfl, hL, hn, q⟩ := h
    refine ⟨_, PSs.nox (pss_cons (ps_setLc (i := 1) (own := [("sort", 2), ("column", 3), ("number", 4)]) (g := gTup K 3 (gCons (gName 2) (gCons (gName 3) (gCons (gName 4) gNil)))) rfl sc_Laying_column.nd rfl rfl (sw_true rfl rfl rfl (by decide +kernel)) (pi_list (pe_fld (pv 0) rfl)) (blkOk_by (own := [("sort", 2), ("column", 3), ("number", 4)]) (N := ["self", "columns", "sort", "column", "number"]) (sc := defScope s_Laying_column) (by decide +kernel)) (fun _ _ _ _ _ => (pg_tup rfl (pgs_cons (pg_name (i := 2) sc_Laying_column.nd rfl (.inl rfl)) (pgs_cons (pg_name (i := 3) sc_Laying_column.nd rfl (.inl rfl)) (pgs_cons (pg_name (i := 4) sc_Laying_column.nd rfl (.inl rfl)) pgs_nil))))) (fun _ _ _ _ _ => pts_one (pt_cmpR op_eq (pv 2) pe_str (nomark _))) (fun _ _ _ _ _ => (pv 3)))
      (pss_one (ps_ret (pe_ifExp (pt_cmpR (op_neNil (u64 hr)) (pv 1) (pe_lst pa_nil) (nomark _)) (pe_ix ix_list (pv 1) (pe_un un_neg pe_int) (fun _ _ => rfl)) pe_int)))), ?_⟩
    obtain ⟨ps, h3, h4⟩ := hL.pile
    refine ⟨_, rfl, L.x, _, _, _, _, rfl, hL.ob, T.cl_Laying, T.na_Laying _ (by simp), lk_pile, L.p, rfl, ⟨_, .of h3⟩, fun D hD => ?_⟩
    refine lc_list (K := K) (a := L.p) (xs := ps) (fun i H' => H' D = some (.lst ((((s.pile.take i).filter (·.b)).map (·.col)).map nV)) ∧ Same H H')
      ⟨upd_same, same_new hD⟩ (fun i H' _ ⟨_, sm⟩ => .of (sm _ _ h3)) ?_ ?_
    · rintro i x H' hx ⟨hD', sm⟩
      obtain ⟨e, he, a, rfl, ha⟩ := L2.paired_get h4 hx
      refine ⟨a, _, rfl, .of (sm _ _ ha), rfl, _, _, rfl, _, _, rfl, _, _, rfl, rfl, rfl, _, rfl, rfl, _, rfl, ?_⟩
      have hi : i < s.pile.length := (List.getElem?_eq_some_iff.mp he).1
      cases hb : e.b with
      | true =>
        refine iteT ⟨_, rfl, _, hD', ?_, ?_, same_mut sm hD⟩
        · refine szL ?_
          rw [List.length_map, List.length_map]
          have h5 := List.length_filter_le (·.b) (s.pile.take i)
          have h6 := List.length_take_le i s.pile
          omega
        · rw [upd_same, List.take_add_one, he]
          simp [hb, nV]
      | false =>
        refine iteF ⟨?_, sm⟩
        rw [hD', List.take_add_one, he]
        simp [hb]
    · rintro H' ⟨hD', sm⟩
      have e1 : s.pile.take ps.length = s.pile := List.take_of_length_le (by rw [h4.length]; exact Nat.le_refl _)
      rw [e1] at hD'
      have ec : colOf s.pile = (((s.pile.filter (·.b)).map (·.col)).getLast?).getD 0 := rfl
      generalize (s.pile.filter (·.b)).map (·.col) = cols at hD' ec
      refine ⟨_, rfl, szS (by simp), fun p2 hp2 => ?_⟩
      have s2 := same_new (o := HO.lst []) hp2
      refine ⟨D, p2, _, rfl, rfl, .of (s2 _ _ hD'), .of upd_same, _, rfl, ?_⟩
      rcases List.eq_nil_or_concat cols with rfl | ⟨l, z, rfl⟩
      · refine iteF ?_
        rw [show (0 : Int) = (colOf s.pile : Int) by rw [ec]; rfl]
        exact q _ (sm.trans s2)
      · rw [List.concat_eq_append] at hD' ec ⊢
        rw [show (if true = true then !(List.map nV (l ++ [z])).isEmpty else (List.map nV (l ++ [z])).isEmpty) = true by rw [List.map_append]; simp]
        refine iteT ⟨_, rfl, _, rfl, D, _, _, .int (z : Int), rfl, rfl, .of (s2 _ _ hD'), ?_, ?_⟩
        · rw [List.map_append]
          exact atI_last _ _
        · rw [show (z : Int) = (colOf s.pile : Int) by rw [ec, List.getLast?_append]; rfl]
          exact q _ (sm.trans s2)
def spOpened (K : PySem.W.Frag) : Sp := fun vs H Q _ => ∃ (L : LA) (s : LSt) (b : Addr) (r c : Nat), vs = [.ref L.x, .ref b] ∧ Lay K H L s ∧ PlT H b r c ∧ s.told.length + 2 < 90000 ∧ s.pile.length < 90000 ∧ (s.op = some "let" → s.lets ≠ []) ∧ Af K L H (openS s r c).1 Q (.bl (openS s r c).2)
theorem ok_Laying_opened (T : Txt K mg) : FnOk P w K mg base (L2.CX P w) 2 (He.ma K (He.ga K "Laying") "opened") (fdAt K (He.ma K (He.ga K "Laying") "opened")) ["self", "place"] (spOpened K) := by
  refine T.d_Laying_opened.fn.ok sc_Laying_opened (fun vs H Q E h => ?_) (fun cdv A outer s H vs Q E hr h => ?_)
  · obtain ⟨_, _, _, _, _, rfl, _⟩ := h
    rfl
  · obtain ⟨L, s, b, r, c, rfl, hL, hb, hn, hn2, hop, q⟩ := h
    refine ⟨_, PSs.nox (C8.pss_cut (ps_set (i := 2) sc_Laying_opened.nd rfl (.inl rfl) (pe_ifExp (pt_cmpR op_eq (pe_fld (pv 0) rfl) pe_str (nomark _)) (pe_ix ix_list (pe_fld (pv 0) rfl) (pe_un un_neg pe_int) (fun _ _ => rfl)) pe_non))
      (pss_cons (ps_fld (pv 0) pe_non rfl)
      (pss_cons (ps_expr (pe_meth (C := He.ga K "Laying") (pv 0) T.cl_Laying T.d_Laying_mark.mt (ok_Laying_mark T) (hr.mono (by decide)) T.d_Laying_mark.b .nil passL (pa_cons (pv 1) (pa_cons pe_str pa_nil))))
      (pss_cons (ps_if (pt_cmpR op_le (pe_ix ix_tup (pv 1) pe_int (fun _ _ => rfl)) (pe_meth0 (C := He.ga K "Laying") (pv 0) T.cl_Laying T.d_Laying_column.mt (ok_Laying_column T) (hr.mono (by decide)) T.d_Laying_column.b .nil passL) (nomark _))
        (pss_cons (ps_expr (pe_meth (C := He.ga K "Laying") (pv 0) T.cl_Laying T.d_Laying_mark.mt (ok_Laying_mark T) (hr.mono (by decide)) T.d_Laying_mark.b .nil passL (pa_cons (pv 1) (pa_cons pe_str pa_nil))))
      (pss_one (ps_ret pe_bl)))
        pss_nil)
      (pss_cons (ps_expr (pe_bm PySem.F.plainAttrs_list PySem.F.slot_list_append PySem.F.type_list_append mt_append (pe_fld (pv 0) rfl) (pa_cons (pe_tup (pa_cons pe_str (pa_cons (pe_ix ix_tup (pv 1) pe_int (fun _ _ => rfl)) (pa_cons (pv 2) pa_nil)))) pa_nil)))
      (pss_one (ps_ret pe_bl))))))), ?_⟩
    have C := T.cl_Laying
    have A1 := T.na_Laying
    have P1 := hL.ob
    refine ⟨fun σ' H' => σ' = [some (.ref L.x), some (.ref b), some (numV (if s.op = some "let" then s.lets.getLast? else none))] ∧ H' = H, ?_, ?_⟩
    · refine ⟨_, rfl, L.x, _, _, _, _, rfl, hL.ob, C, A1 _ (by simp), lk_op, scal_op s.op _, _, rfl, ?_⟩
      by_cases ho : s.op = some "let"
      · rw [decide_eq_true (show opV s.op = V.str "let" by rw [ho]; rfl)]
        rcases List.eq_nil_or_concat s.lets with e | ⟨l, z, e⟩
        · exact absurd e (hop ho)
        · rw [List.concat_eq_append] at e
          have h1 := hL.lets
          rw [e, List.map_append] at h1
          refine iteT ⟨_, rfl, L.x, _, _, _, _, rfl, hL.ob, C, A1 _ (by simp), lk_lets, _, rfl, L.l, _, _, _, rfl, rfl, .of h1, atI_last _ _, ?_⟩
          rw [if_pos ho, e, List.getLast?_append]
          exact ⟨rfl, rfl⟩
      · rw [decide_eq_false (fun z => ho (op_str z))]
        rw [if_neg ho]
        exact iteF ⟨rfl, rfl⟩
    · rintro σ' H' ⟨rfl, rfl⟩
      refine ⟨_, rfl, L.x, _, _, _, rfl, hL.ob, C, A1 _ (by simp), (show 5 < 1000 by decide), ?_⟩
      rw [show putF "opener" V.non (fsL L s.op s.line) = fsL L none s.line from pf_op none]
      have hL1 := hL.setX none s.line
      have hb1 := (Fr.kt hL (Fr.updX (o := HO.ins (He.ga K "Laying") L.dx (fsL L none s.line)))) _ _ hb
      refine ⟨_, rfl, L.x, _, _, rfl, hL1.ob, lk_no (by decide +kernel), _, rfl, L, _, b, r, c, _, rfl, hL1, hb1, by show s.told.length < 90000; omega, fun H2 f2 hL2 => ?_⟩
      have f02 : Fr L H' H2 := Fr.updX.trans f2
      have hb2 := (Fr.kt hL f02) _ _ hb
      refine ⟨_, rfl, b, _, _, _, rfl, rfl, .of hb2, rfl, _, rfl, L.x, _, _, rfl, hL2.ob, lk_no (by decide +kernel), L, _, rfl, hL2, hn2, fun H3 s3 => ?_⟩
      have hL3 := hL2.same s3
      have f03 : Fr L H' H3 := f02.trans (Fr.of s3)
      have hb3 := (Fr.kt hL f03) _ _ hb
      refine ⟨_, _, rfl, rfl, _, rfl, ?_⟩
      by_cases hc : c ≤ colOf s.pile
      · rw [decide_eq_true (show (c : Int) ≤ (colOf s.pile : Int) by omega)]
        have eo : openS s r c = ({ s with told := s.told ++ [mkT r c "open"] ++ [mkT r c "shut"], op := none }, false) := if_pos hc
        rw [eo] at q
        refine iteT ⟨_, rfl, L.x, _, _, rfl, hL3.ob, lk_no (by decide +kernel), _, rfl, L, _, b, r, c, _, rfl, hL3, hb3, ?_, fun H4 f4 hL4 => q _ (f03.trans f4) hL4⟩
        show (s.told ++ [mkT r c "open"]).length < 90000
        rw [List.length_append]
        show s.told.length + 1 < 90000
        omega
      · rw [decide_eq_false (show ¬ (c : Int) ≤ (colOf s.pile : Int) by omega)]
        have eo : openS s r c = ({ s with told := s.told ++ [mkT r c "open"], pile := s.pile ++ [⟨true, c, if s.op = some "let" then s.lets.getLast? else none⟩], op := none }, true) := if_neg hc
        rw [eo] at q
        obtain ⟨ps, h3, h4⟩ := hL3.pile
        refine iteF ⟨_, rfl, L.x, _, _, _, _, rfl, hL3.ob, C, A1 _ (by simp), lk_pile, .inl ⟨rfl, _, .of h3⟩, _, rfl, b, _, _, _, rfl, rfl, .of hb3, rfl, _, rfl, szS (by simp), fun a ha => ?_⟩
        have s5 := same_new (o := HO.tup [V.str "block", V.int (c : Int), numV (if s.op = some "let" then s.lets.getLast? else none)]) ha
        have hpl : ps.length = s.pile.length := h4.length
        refine ⟨L.p, ps, .ref a, rfl, rfl, s5 _ _ h3, szL (by omega), q _ (f03.trans ((Fr.of s5).trans Fr.updP)) ?_⟩
        exact (hL3.same s5).pushP (s5 _ _ h3) ⟨a, rfl, upd_same⟩
end
end Sw
set_option Elab.async false
set_option pp.maxSteps 600
set_option pp.deepTerms false
set_option linter.all false
set_option maxRecDepth 100000
set_option maxHeartbeats 4000000
namespace Sw
open PySem PySem.Spec PyProof.Rows L2 SX
theorem paired_snoc {α : Type} {R : V → α → Prop} : ∀ {ps : List V} {es : List α} {e : α}, Paired R ps (es ++ [e]) → ∃ ps' v, ps = ps' ++ [v] ∧ Paired R ps' es ∧ R v e
  | _, [], e, h => by
    cases h with
    | cons h1 h2 =>
      cases h2
      exact ⟨[], _, rfl, .nil, h1⟩
  | _, x :: es, e, h => by
    cases h with
    | cons h1 h2 =>
      obtain ⟨ps', v, h3, h4, h5⟩ := paired_snoc h2
      exact ⟨_ :: ps', v, by rw [h3]; rfl, .cons h1 h4, h5⟩
theorem shuts_succ (r c n : Nat) : shuts r c (n + 1) = shuts r c n ++ [mkT r c "shut"] := List.replicate_succ'
theorem shuts_len (r c n : Nat) : (shuts r c n).length = n := List.length_replicate
theorem last_get {α : Type} (l : List α) (v : α) : (l ++ [v])[(l ++ [v]).length - 1]? = some v := by simp
theorem bW_block (b : Bool) : decide (V.str (bW b) = V.str "block") = b := by
  cases b
  · exact decide_eq_false (fun z => absurd (V.str.inj z) (by decide +kernel))
  · exact decide_eq_true rfl
/-! ### pops -/
section
variable {P : Program} {w : World} {K : PySem.W.Frag} {mg : Str → Option Value} {base : Heap}
def spShutTop (K : PySem.W.Frag) : Sp := fun vs H Q _ => ∃ (L : LA) (s : LSt) (b : Addr) (r c : Nat) (es : List Ent) (e : Ent), vs = [.ref L.x, .ref b] ∧ Lay K H L s ∧ PlT H b r c ∧ s.pile = es ++ [e] ∧ s.told.length < 90000 ∧ Af K L H { s with told := s.told ++ [mkT r c "shut"], pile := es } Q .non
theorem ok_Laying_shut_top (T : Txt K mg) : FnOk P w K mg base (L2.CX P w) 2 (He.ma K (He.ga K "Laying") "shut_top") (fdAt K (He.ma K (He.ga K "Laying") "shut_top")) ["self", "place"] (spShutTop K) := by
  refine T.d_Laying_shut_top.fn.ok sc_Laying_shut_top (fun vs H Q E h => ?_) (fun cdv A outer s H vs Q E hr h => ?_)
  · obtain ⟨_, _, _, _, _, _, _, rfl, _⟩ := h
    rfl
  · obtain ⟨L, s, b, r, c, es, e, rfl, hL, hb, hp, hn, q⟩ := h
    refine ⟨_, PSs.nox (pss_cons (ps_expr (pe_meth (C := He.ga K "Laying") (pv 0) T.cl_Laying T.d_Laying_mark.mt (ok_Laying_mark T) (hr.mono (by decide)) T.d_Laying_mark.b .nil passL (pa_cons (pv 1) (pa_cons pe_str pa_nil))))
      (pss_one (ps_expr (pe_bm0 PySem.F.plainAttrs_list PySem.F.slot_list_pop PySem.F.type_list_pop mt_pop (pe_fld (pv 0) rfl))))), ?_⟩
    have C := T.cl_Laying
    have A1 := T.na_Laying
    refine ⟨_, rfl, L.x, _, _, rfl, hL.ob, lk_no (by decide +kernel), _, rfl, L, _, b, r, c, _, rfl, hL, hb, hn, fun H2 f2 hL2 => ?_⟩
    obtain ⟨ps, h3, h4⟩ := hL2.pile
    have h4' : Paired (EntT H2) ps (es ++ [e]) := by rw [← hp]; exact h4
    obtain ⟨ps', v, rfl, h5, h6⟩ := paired_snoc h4'
    refine ⟨_, rfl, L.x, _, _, _, _, rfl, hL2.ob, C, A1 _ (by simp), lk_pile, .inl ⟨rfl, _, .of h3⟩, L.p, _, v, rfl, rfl, h3, last_get _ _, ?_⟩
    rw [List.dropLast_concat]
    exact q _ (f2.trans Fr.updP) (hL2.setP h5)
/-- the top of the pile, its sort and column -/
theorem nlR_stop {c : Nat} {e : Ent} {r : List Ent} (h : ¬ (e.b = true ∧ c < e.col)) : nlR c (e :: r) = (0, e :: r) := if_neg h
theorem nlR_go {c : Nat} {e : Ent} {r : List Ent} (h : e.b = true ∧ c < e.col) : nlR c (e :: r) = ((nlR c r).1 + 1, (nlR c r).2) := if_pos h
theorem eqv_top (b : Bool) (col c : Nat) : PyData.eqv (.tuple [.str (bW b), .int (col : Int)]) (.tuple [.str "block", .int (c : Int)]) = (b && decide (col = c)) := by
  show ((bW b == ("block" : Str)) && (((col : Int) == (c : Int)) && true)) = _
  have h1 : (bW b == ("block" : Str)) = b := by cases b <;> decide +kernel
  have h2 : ((col : Int) == (c : Int)) = decide (col = c) := by
    by_cases h : col = c
    · rw [h]
      simp
    · rw [decide_eq_false h]
      exact beq_eq_false_iff_ne.mpr (fun z => h (by omega))
  rw [h1, h2, Bool.and_true]
theorem shp_pair (w : Str) (i : Int) (h : PyData.strOk w = true) : SeqAt.shaped (.tuple [.str w, .int i]) = true := by
  show (PyData.canLay0 (.tuple [.str w, .int i]) && decide (PyData.depth (.tuple [.str w, .int i]) ≤ 64)) = true
  rw [Bool.and_eq_true, decide_eq_true_iff]
  refine ⟨by simp [PyData.canLay0, PyData.canLayAll0, h], ?_⟩
  simp only [PyData.depth, PyData.depthAll]
  omega
theorem bW_ok (b : Bool) : PyData.strOk (bW b) = true := by cases b <;> decide +kernel
def spNewLine (K : PySem.W.Frag) : Sp := fun vs H Q _ => ∃ (L : LA) (s : LSt) (b : Addr) (r c : Nat) (wd : Str), vs = [.ref L.x, .ref b, .str wd] ∧ Lay K H L s ∧ PlT H b r c ∧ s.told.length + s.pile.length + 2 < 90000 ∧ Af K L H (lineS s r c wd) Q .non
theorem ok_Laying_new_line (T : Txt K mg) : FnOk P w K mg base (L2.CX P w) 3 (He.ma K (He.ga K "Laying") "new_line") (fdAt K (He.ma K (He.ga K "Laying") "new_line")) ["self", "place", "word"] (spNewLine K) := by
  refine T.d_Laying_new_line.fn.ok sc_Laying_new_line (fun vs H Q E h => ?_) (fun cdv A outer s H vs Q E hr h => ?_)
  · obtain ⟨_, _, _, _, _, _, rfl, _⟩ := h
    rfl
  · obtain ⟨L, s, b, r, c, wd, rfl, hL, hb, hn, q⟩ := h
    refine ⟨_, PSs.nox (C8.pss_cut (ps_while PassesOwn.never (pw_and (pt_cmpR (op_neNil (u64 hr)) (pe_fld (pv 0) rfl) (pe_lst pa_nil) (nomark _)) (pw_and (pt_cmpR op_eq (pe_ix ix_tup (pe_ix ix_list (pe_fld (pv 0) rfl) (pe_un un_neg pe_int) (fun _ _ => rfl)) pe_int (fun _ _ => rfl)) pe_str (nomark _)) (pw_and1 (pt_cmpR op_lt (pe_ix ix_tup (pv 1) pe_int (fun _ _ => rfl)) (pe_ix ix_tup (pe_ix ix_list (pe_fld (pv 0) rfl) (pe_un un_neg pe_int) (fun _ _ => rfl)) pe_int (fun _ _ => rfl)) (nomark _))))).pt
        (pss_one (ps_expr (pe_meth (C := He.ga K "Laying") (pv 0) T.cl_Laying T.d_Laying_shut_top.mt (ok_Laying_shut_top T) (hr.mono (by decide)) T.d_Laying_shut_top.b .nil passL (pa_cons (pv 1) pa_nil)))))
      (pss_one (ps_if (pw_and (pt_cmpR (op_neNil (u64 hr)) (pe_fld (pv 0) rfl) (pe_lst pa_nil) (nomark _)) (pw_and (pt_cmpR (op_eqD (u64 hr)) (pe_slice sl_tup (pe_ix ix_list (pe_fld (pv 0) rfl) (pe_un un_neg pe_int) (fun _ _ => rfl)) po_none (po_some pe_int)) (pe_tup (pa_cons pe_str (pa_cons (pe_ix ix_tup (pv 1) pe_int (fun _ _ => rfl)) pa_nil))) (nomark _)) (pw_and1 (pt_cmpR op_notIn_seq (pv 2) (pe_g T.c_UNMARKED) rfl)))).pt
        (pss_one (ps_expr (pe_meth (C := He.ga K "Laying") (pv 0) T.cl_Laying T.d_Laying_mark.mt (ok_Laying_mark T) (hr.mono (by decide)) T.d_Laying_mark.b .nil passL (pa_cons (pv 1) (pa_cons pe_str pa_nil)))))
        pss_nil))), ?_⟩
    have C := T.cl_Laying
    have A1 := T.na_Laying
    refine ⟨fun σ' H' => σ' = [some (.ref L.x), some (.ref b), some (.str wd)] ∧ Fr L H H' ∧ Lay K H' L (popS s r c (nlR c s.pile.reverse)), ?_, ?_⟩
    · refine ⟨fun m σ H' => ∃ (k : Nat) (rest : List Ent), σ = [some (.ref L.x), some (.ref b), some (.str wd)] ∧ Fr L H H' ∧ Lay K H' L (popS s r c (k, rest)) ∧ nlR c s.pile.reverse = (k + (nlR c rest).1, (nlR c rest).2) ∧ k + rest.length = s.pile.length ∧ m = rest.length,
        ⟨_, 0, s.pile.reverse, rfl, Fr.refl _ _, ?_, by simp, by simp, rfl⟩, ?_⟩
      · show Lay K H L { s with told := s.told ++ [], pile := s.pile.reverse.reverse }
        rw [List.append_nil, List.reverse_reverse]
        exact hL
      · rintro m σ H' ⟨k, rest, rfl, f1, hL1, hnl, hlen, rfl⟩
        obtain ⟨ps, h3, h4⟩ := hL1.pile
        have hb1 := (Fr.kt hL f1) _ _ hb
        refine ⟨_, rfl, L.x, _, _, _, _, rfl, hL1.ob, C, A1 _ (by simp), lk_pile, szS (by simp), fun p2 hp2 => ?_⟩
        have s2 := same_new (o := HO.lst []) hp2
        refine ⟨L.p, p2, ps, rfl, rfl, .of (s2 _ _ h3), .of upd_same, _, rfl, ?_⟩
        have hL2 := hL1.same s2
        have f2 : Fr L H (upd H' p2 (.lst [])) := f1.trans (Fr.of s2)
        have hb2 := s2 _ _ hb1
        have h32 := s2 _ _ h3
        have h42 : Paired (EntT (upd H' p2 (.lst []))) ps rest.reverse := h4.mono fun _ _ q => q.kt (.of s2)
        generalize upd H' p2 (.lst []) = H2 at s2 hL2 f2 hb2 h32 h42 ⊢
        cases rest with
        | nil =>
          cases h42
          exact iteF ⟨rfl, f2, by rw [hnl]; exact hL2⟩
        | cons e rest =>
          rw [List.reverse_cons] at h42
          obtain ⟨ps', v, rfl, h5, a, rfl, ha⟩ := paired_snoc h42
          rw [show (if true = true then !(ps' ++ [V.ref a]).isEmpty else (ps' ++ [V.ref a]).isEmpty) = true by simp]
          refine iteT ⟨_, rfl, L.x, _, _, _, _, rfl, hL2.ob, C, A1 _ (by simp), lk_pile, _, rfl, L.p, _, _, _, rfl, rfl, .of h32, atI_last _ _, a, _, 0, _, rfl, rfl, .of ha, rfl, rfl, _, rfl, ?_⟩
          rw [bW_block]
          have stop : ¬ (e.b = true ∧ c < e.col) → (σ : L2.St) → (σ = [some (.ref L.x), some (.ref b), some (.str wd)] ∧ Fr L H H2 ∧ Lay K H2 L (popS s r c (nlR c s.pile.reverse))) ∨ True := fun _ _ => .inr trivial
          cases hb0 : e.b with
          | false =>
            refine iteF ⟨rfl, f2, ?_⟩
            rw [hnl, nlR_stop (by rw [hb0]; simp)]
            exact hL2
          | true =>
            refine iteT ⟨_, rfl, b, _, _, _, rfl, rfl, .of hb2, rfl, _, rfl, L.x, _, _, _, _, rfl, hL2.ob, C, A1 _ (by simp), lk_pile, _, rfl, L.p, _, _, _, rfl, rfl, .of h32, atI_last _ _, a, _, 1, _, rfl, rfl, .of ha, rfl, _, _, rfl, rfl, _, rfl, ?_⟩
            by_cases hc : c < e.col
            · rw [decide_eq_true (show (c : Int) < (e.col : Int) by omega)]
              refine iteT ⟨fun σ' H'' => σ' = [some (.ref L.x), some (.ref b), some (.str wd)] ∧ Fr L H H'' ∧ Lay K H'' L (popS s r c (k + 1, rest)), fun σ' H'' hN => ?_, ?_⟩
              · obtain ⟨rfl, f3, hL3⟩ := hN
                refine ⟨rest.length, by simp, k + 1, rest, rfl, f3, hL3, ?_, by simp at hlen; omega, rfl⟩
                rw [hnl, nlR_go ⟨hb0, hc⟩]
                simp
                omega
              · refine ⟨_, rfl, L.x, _, _, rfl, hL2.ob, lk_no (by decide +kernel), _, rfl, L, _, b, r, c, rest.reverse, e, rfl, hL2, hb2, List.reverse_cons, ?_, fun H3 f3 hL3 => ⟨rfl, f2.trans f3, ?_⟩⟩
                · show (s.told ++ shuts r c k).length < 90000
                  rw [List.length_append, shuts_len]
                  simp at hlen
                  omega
                · have e1 : (popS s r c (k + 1, rest)) = { popS s r c (k, e :: rest) with told := (popS s r c (k, e :: rest)).told ++ [mkT r c "shut"], pile := rest.reverse } := by
                    unfold popS
                    rw [shuts_succ, List.append_assoc]
                  rw [e1]
                  exact hL3
            · rw [decide_eq_false (show ¬ (c : Int) < (e.col : Int) by omega)]
              refine iteF ⟨rfl, f2, ?_⟩
              rw [hnl, nlR_stop (fun z => hc z.2)]
              exact hL2
    · rintro σ' H' ⟨rfl, f1, hL1⟩
      have eS : lineS s r c wd = itemS (popS s r c (nlR c s.pile.reverse)) r c wd := rfl
      have hsz : (popS s r c (nlR c s.pile.reverse)).told.length + 1 < 90000 := by
        obtain ⟨u, h1, h2⟩ := nlR_pops c s.pile.reverse
        show (s.told ++ shuts r c (nlR c s.pile.reverse).1).length + 1 < 90000
        have h3 : nB u ≤ u.length := List.length_filter_le _ _
        have h4 : s.pile.reverse.length = u.length + (nlR c s.pile.reverse).2.length := by rw [← List.length_append, ← h1]
        rw [List.length_reverse] at h4
        rw [List.length_append, shuts_len]
        omega
      rw [eS] at q
      generalize popS s r c (nlR c s.pile.reverse) = s1 at hL1 q hsz
      obtain ⟨ps, h3, h4⟩ := hL1.pile
      have hb1 := (Fr.kt hL f1) _ _ hb
      refine ⟨_, rfl, L.x, _, _, _, _, rfl, hL1.ob, C, A1 _ (by simp), lk_pile, szS (by simp), fun p2 hp2 => ?_⟩
      have s2 := same_new (o := HO.lst []) hp2
      refine ⟨L.p, p2, ps, rfl, rfl, .of (s2 _ _ h3), .of upd_same, _, rfl, ?_⟩
      have hL2 := hL1.same s2
      have f2 : Fr L H (upd H' p2 (.lst [])) := f1.trans (Fr.of s2)
      have hb2 := s2 _ _ hb1
      have h32 := s2 _ _ h3
      have h42 : Paired (EntT (upd H' p2 (.lst []))) ps s1.pile := h4.mono fun _ _ q => q.kt (.of s2)
      generalize upd H' p2 (.lst []) = H2 at s2 hL2 f2 hb2 h32 h42 ⊢
      rcases List.eq_nil_or_concat s1.pile with e0 | ⟨es, e, e0⟩
      · rw [e0] at h42
        cases h42
        have : itemS s1 r c wd = s1 := if_neg (fun z => by have := z.1; unfold topIs at this; rw [e0] at this; cases this)
        rw [this] at q
        exact iteF (q _ f2 hL2)
      · rw [List.concat_eq_append] at e0
        rw [e0] at h42
        obtain ⟨ps', v, rfl, h5, a, rfl, ha⟩ := paired_snoc h42
        have et : topIs s1.pile c = (e.b && decide (e.col = c)) := by
          unfold topIs
          rw [e0, List.getLast?_append]
          rfl
        rw [show (if true = true then !(ps' ++ [V.ref a]).isEmpty else (ps' ++ [V.ref a]).isEmpty) = true by simp]
        refine iteT ⟨_, rfl, L.x, _, _, _, _, rfl, hL2.ob, C, A1 _ (by simp), lk_pile, _, rfl, L.p, _, _, _, rfl, rfl, .of h32, atI_last _ _, _, rfl, a, _, rfl, .of ha, (show ¬ ((0 : Nat) = 0 ∧ (2 : Nat) = 3) by decide), fun p3 hp3 => ?_⟩
        have s3 := same_new (o := HO.tup (cutV [V.str (bW e.b), V.int (e.col : Int), numV e.num] none (some 2))) hp3
        refine ⟨_, rfl, b, _, _, _, rfl, rfl, .of (s3 _ _ hb2), rfl, szS (by simp), fun p4 hp4 => ?_⟩
        have s4 := same_new (o := HO.tup [V.str "block", V.int (c : Int)]) hp4
        refine ⟨.tuple [.str (bW e.b), .int (e.col : Int)], .tuple [.str "block", .int (c : Int)], .tup (.of (s4 _ _ upd_same)) (.cons (.str _) (.cons (.int _) .nil)), .tup (.of upd_same) (.cons (.str _) (.cons (.int _) .nil)), shp_pair _ _ (bW_ok _), shp_pair _ _ (by decide +kernel), _, rfl, ?_⟩
        rw [eqv_top, ← et]
        have f4 := f2.trans ((Fr.of s3).trans (Fr.of s4))
        have hL4 := (hL2.same s3).same s4
        have hb4 := s4 _ _ (s3 _ _ hb2)
        cases ht : topIs s1.pile c with
        | false =>
          have : itemS s1 r c wd = s1 := if_neg (fun z => by have := z.1; rw [ht] at this; cases this)
          rw [this] at q
          exact iteF (q _ f4 hL4)
        | true =>
          refine iteT ⟨_, rfl, _, _, rfl, .inr (T.t_UNMARKED _), rfl, rfl, _, rfl, ?_⟩
          have hin : (if true = true then !inV (V.str wd) [V.str "in", V.str "then", V.str "else", V.str "of", V.str ")", V.str "|"] else inV (V.str wd) [V.str "in", V.str "then", V.str "else", V.str "of", V.str ")", V.str "|"]) = (!decide (wd ∈ UNM)) := by
            show (!inV (.str wd) (UNM.map V.str)) = _
            rw [in_strs]
          rw [hin]
          by_cases hm : wd ∈ UNM
          · rw [decide_eq_true hm]
            have : itemS s1 r c wd = s1 := if_neg (fun z => z.2 hm)
            rw [this] at q
            exact iteF (q _ f4 hL4)
          · rw [decide_eq_false hm]
            have : itemS s1 r c wd = { s1 with told := s1.told ++ [mkT r c "item"] } := if_pos ⟨ht, hm⟩
            rw [this] at q
            exact iteT ⟨_, rfl, L.x, _, _, rfl, hL4.ob, lk_no (by decide +kernel), _, rfl, L, _, b, r, c, _, rfl, hL4, hb4, by omega, fun H5 f5 hL5 => q _ (f4.trans f5) hL5⟩
end
end Sw
set_option Elab.async false
set_option pp.maxSteps 600
set_option pp.deepTerms false
set_option linter.all false
set_option maxRecDepth 100000
set_option maxHeartbeats 4000000
namespace Sw
open PySem PySem.Spec PyProof.Rows L2 SX
def pOf (n : Nat) (e : Ent) : Bool := e.b && decide (e.num = some n)
theorem letR_none {n : Nat} : ∀ {a : List Ent}, (∀ e ∈ a, pOf n e = false) → letR n a = none
  | [], _ => rfl
  | e :: r, h => by
    have h1 := h e (List.mem_cons_self ..)
    unfold letR
    split
    · rename_i hb
      have h2 : ¬ e.num = some n := fun z => by
        unfold pOf at h1
        rw [hb, decide_eq_true z] at h1
        cases h1
      rw [if_neg h2, letR_none fun x hx => h x (List.mem_cons_of_mem _ hx)]
      rfl
    · rfl
theorem letR_hit {n : Nat} {e : Ent} {r : List Ent} (he : pOf n e = true) : ∀ {v : List Ent}, (∀ x ∈ v, x.b = true ∧ x.num ≠ some n) → letR n (v ++ e :: r) = some (v.length + 1, r)
  | [], _ => by
    unfold pOf at he
    have h1 := Bool.and_eq_true_iff.mp he
    show letR n (e :: r) = _
    unfold letR
    rw [if_pos h1.1, if_pos (of_decide_eq_true h1.2)]
    rfl
  | x :: v, h => by
    have h1 := h x (List.mem_cons_self ..)
    show letR n (x :: (v ++ e :: r)) = _
    unfold letR
    rw [if_pos h1.1, if_neg h1.2, letR_hit he fun y hy => h y (List.mem_cons_of_mem _ hy)]
    rfl
theorem letR_br {n : Nat} {r : List Ent} : ∀ {v : List Ent}, (∀ x ∈ v, x.num ≠ some n) → (∃ x ∈ v, x.b = false) → letR n (v ++ r) = none
  | [], _, ⟨x, hx, _⟩ => by cases hx
  | x :: v, h, hb => by
    show letR n (x :: (v ++ r)) = _
    unfold letR
    split
    · rename_i hx
      rw [if_neg (h x (List.mem_cons_self ..)), letR_br (fun y hy => h y (List.mem_cons_of_mem _ hy)) ?_]
      · rfl
      · obtain ⟨y, hy, hy2⟩ := hb
        rcases List.mem_cons.mp hy with rfl | hy
        · rw [hy2] at hx
          cases hx
        · exact ⟨y, hy, hy2⟩
    · rfl
def ixs (n : Nat) (pile : List Ent) (i : Nat) : List Nat := (List.range i).filter fun j => (pile[j]?.map (pOf n)).getD false
theorem ixs_succ {n : Nat} {pile : List Ent} {i : Nat} {e : Ent} (h : pile[i]? = some e) : ixs n pile (i + 1) = ixs n pile i ++ (if pOf n e = true then [i] else []) := by
  unfold ixs
  rw [List.range_succ, List.filter_append]
  congr 1
  cases hp : pOf n e with
  | true => rw [List.filter_cons_of_pos (by rw [h]; exact hp)]; rfl
  | false => rw [List.filter_cons_of_neg (by rw [h]; show ¬ pOf n e = true; rw [hp]; decide)]; rfl
theorem ixs_nil {n : Nat} {pile : List Ent} (h : ixs n pile pile.length = []) : ∀ e ∈ pile, pOf n e = false := by
  intro e he
  obtain ⟨j, hj, e2⟩ := List.getElem_of_mem he
  cases hp : pOf n e with
  | false => rfl
  | true =>
    have : j ∈ ixs n pile pile.length := by
      unfold ixs
      rw [List.mem_filter]
      refine ⟨List.mem_range.mpr hj, ?_⟩
      rw [List.getElem?_eq_getElem hj, e2]
      exact hp
    rw [h] at this
    cases this
theorem ixs_mem {n : Nat} {pile : List Ent} {i : Nat} (h : i ∈ ixs n pile pile.length) : ∃ e, pile[i]? = some e ∧ pOf n e = true := by
  unfold ixs at h
  obtain ⟨h1, h2⟩ := List.mem_filter.mp h
  have hi := List.mem_range.mp h1
  rw [List.getElem?_eq_getElem hi] at h2
  exact ⟨_, List.getElem?_eq_getElem hi, h2⟩
theorem split_at {pile : List Ent} {i : Nat} {e : Ent} (h : pile[i]? = some e) : pile = pile.take i ++ e :: pile.drop (i + 1) := by
  obtain ⟨hi, h2⟩ := List.getElem?_eq_some_iff.mp h
  rw [← h2, ← List.drop_eq_getElem_cons hi, List.take_append_drop]
theorem num_of {n : Nat} {e : Ent} (h : pOf n e = true) : e.b = true ∧ e.num = some n := by
  unfold pOf at h
  have := Bool.and_eq_true_iff.mp h
  exact ⟨this.1, of_decide_eq_true this.2⟩
theorem above_ne {n : Nat} {a u : List Ent} {e : Ent} (h : (nums (a ++ e :: u)).Nodup) (he : e.num = some n) : ∀ x ∈ u, x.num ≠ some n := by
  intro x hx z
  rw [nums_app] at h
  have h1 := (List.nodup_append.mp h).2.1
  have e1 : nums (e :: u) = n :: nums u := by unfold nums; rw [List.filterMap_cons, he]
  rw [e1] at h1
  exact (List.nodup_cons.mp h1).1 (List.mem_filterMap.mpr ⟨x, hx, z⟩)
theorem scal_num (o : Option Nat) (n : Nat) : scal (numV o) (nV n) = true := by cases o <;> rfl
theorem num_dec (o : Option Nat) (n : Nat) : decide (numV o = nV n) = decide (o = some n) := by
  cases o with
  | none => rw [decide_eq_false (fun z => by cases z), decide_eq_false (fun z => by cases z)]
  | some m =>
    by_cases h : m = n
    · rw [h, decide_eq_true (show numV (some n) = nV n from rfl), decide_eq_true rfl]
    · rw [decide_eq_false (fun z => h (by have := V.int.inj z; omega)), decide_eq_false (fun z => h (Option.some.inj z))]
theorem cutV_drop (xs : List V) (i : Nat) (h : i ≤ xs.length) : cutV xs (some (i : Int)) none = xs.drop i := by
  unfold cutV
  rw [HT.sIx_nat, HT.sIx_none, Nat.min_eq_left h]
  exact List.take_of_length_le (by rw [List.length_drop]; exact Nat.le_refl _)
theorem paired_drop {α : Type} {R : V → α → Prop} : ∀ {ps : List V} {es : List α} (i : Nat), Paired R ps es → Paired R (ps.drop i) (es.drop i)
  | _, _, 0, h => h
  | _, _, _ + 1, .nil => .nil
  | _, _, i + 1, .cons _ t => paired_drop i t
theorem drop_past {α : Type} : ∀ (v : List α) (e : α) (r : List α), (v ++ e :: r).drop (v.length + 1) = r
  | [], _, _ => rfl
  | _ :: v, e, r => drop_past v e r
theorem inBr (es : List Ent) : inV (V.str "bracket") (es.map fun e => V.str (bW e.b)) = es.any fun e => !e.b := by
  induction es with
  | nil => rfl
  | cons e es ih =>
    show (eqV (V.str (bW e.b)) (V.str "bracket") || inV _ _) = (!e.b || _)
    rw [ih]
    congr 1
    show (bW e.b == ("bracket" : Str)) = !e.b
    cases e.b <;> decide +kernel
section
variable {P : Program} {w : World} {K : PySem.W.Frag} {mg : Str → Option Value} {base : Heap}
def spClosesLet (K : PySem.W.Frag) : Sp := fun vs H Q _ => ∃ (L : LA) (s : LSt) (b : Addr) (r c : Nat), vs = [.ref L.x, .ref b] ∧ Lay K H L s ∧ PlT H b r c ∧ s.told.length + s.pile.length + 2 < 90000 ∧ (nums s.pile).Nodup ∧ Af K L H (letS s r c) Q .non
theorem ok_Laying_closes_let (T : Txt K mg) : FnOk P w K mg base (L2.CX P w) 3 (He.ma K (He.ga K "Laying") "closes_let") (fdAt K (He.ma K (He.ga K "Laying") "closes_let")) ["self", "place"] (spClosesLet K) := by
  refine T.d_Laying_closes_let.fn.ok sc_Laying_closes_let (fun vs H Q E h => ?_) (fun cdv A outer s H vs Q E hr h => ?_)
  · obtain ⟨_, _, _, _, _, rfl, _⟩ := h
    rfl
  · obtain ⟨L, s, b, r, c, rfl, hL, hb, hn, hnd, q⟩ := h
    refine ⟨_, PSs.nox (pss_cons (ps_if (pt_cmpR (op_eqNil (u64 hr)) (pe_fld (pv 0) rfl) (pe_lst pa_nil) (nomark _))
        (pss_one ps_retN)
        pss_nil)
      (pss_cons (ps_set (i := 2) sc_Laying_closes_let.nd rfl (.inr rfl) (pe_bm0 PySem.F.plainAttrs_list PySem.F.slot_list_pop PySem.F.type_list_pop mt_pop (pe_fld (pv 0) rfl)))
      (pss_cons (ps_setLc (i := 3) (own := [("at", 4), ("entry", 5)]) (g := gTup K 2 (gCons (gName 4) (gCons (gName 5) gNil))) rfl sc_Laying_closes_let.nd rfl rfl (sw_true rfl rfl rfl (by decide +kernel)) (pi_enum (by rfl) T.b_enumerate (pa_cons (pe_fld (pv 0) rfl) pa_nil)) (blkOk_by (own := [("at", 4), ("entry", 5)]) (N := ["self", "place", "number", "least", "at", "entry"]) (sc := defScope s_Laying_closes_let) (by decide +kernel)) (fun _ _ _ _ _ => (pg_tup rfl (pgs_cons (pg_name (i := 4) sc_Laying_closes_let.nd rfl (.inl rfl)) (pgs_cons (pg_name (i := 5) sc_Laying_closes_let.nd rfl (.inl rfl)) pgs_nil)))) (fun _ _ _ _ _ => pts_one (pw_and (pt_cmpR op_eq (pe_ix (r := rIxT K) ix_tup (pv 5) pe_int (fun _ _ => rfl)) pe_str (nomark _)) (pw_and1 (pt_cmpR op_eq (pe_ix (r := rIxT K) ix_tup (pv 5) pe_int (fun _ _ => rfl)) (pv 2) (nomark _)))).pt) (fun _ _ _ _ _ => (pv 4)))
      (pss_one (ps_if (pw_and (pt_cmpR (op_neNil (u64 hr)) (pv 3) (pe_lst pa_nil) (nomark _)) (pw_and1 (pt_cmpR op_notIn_seq pe_str (pe_lc (own := [("entry", 5)]) (g := gName 5) rfl sc_Laying_closes_let.nd (pi_list (pe_slice sl_list (pe_fld (pv 0) rfl) (po_some (pe_ix ix_list (pv 3) pe_int (fun _ _ => rfl))) po_none)) (blkOk_by (own := [("entry", 5)]) (N := ["self", "place", "number", "least", "at", "entry"]) (sc := defScope s_Laying_closes_let) (by decide +kernel)) (fun _ _ _ _ _ => (pg_name (i := 5) sc_Laying_closes_let.nd rfl (.inl rfl))) (fun _ _ _ _ _ => pts_nil) (fun _ _ _ _ _ => (pe_ix (r := rIxT K) ix_tup (pv 5) pe_int (fun _ _ => rfl)))) rfl))).pt
        (pss_one (ps_for PassesOwn.never rfl (pi_list (pe_slice sl_list (pe_fld (pv 0) rfl) (po_some (pe_ix ix_list (pv 3) pe_int (fun _ _ => rfl))) po_none)) (pg_name (i := 5) sc_Laying_closes_let.nd rfl (.inl rfl))
        (pss_one (ps_expr (pe_meth (C := He.ga K "Laying") (pv 0) T.cl_Laying T.d_Laying_shut_top.mt (ok_Laying_shut_top T) (hr.mono (by decide)) T.d_Laying_shut_top.b .nil passL (pa_cons (pv 1) pa_nil))))))
        pss_nil))))), ?_⟩
    have C := T.cl_Laying
    have A1 := T.na_Laying
    refine ⟨_, rfl, L.x, _, _, _, _, rfl, hL.ob, C, A1 _ (by simp), lk_lets, szS (by simp), fun p0 hp0 => ?_⟩
    have s0 := same_new (o := HO.lst []) hp0
    refine ⟨L.l, p0, _, rfl, rfl, .of (s0 _ _ hL.lets), .of upd_same, _, rfl, ?_⟩
    have hL0 := hL.same s0
    have f0 : Fr L H (upd H p0 (.lst [])) := Fr.of s0
    generalize upd H p0 (.lst []) = H0 at hL0 f0 ⊢
    unfold letS at q
    rcases List.eq_nil_or_concat s.lets with e0 | ⟨l, n, e0⟩
    · rw [e0] at q ⊢
      exact iteT (q _ f0 hL0)
    · rw [List.concat_eq_append] at e0
      have hlast : s.lets.getLast? = some n := by rw [e0, List.getLast?_append]; rfl
      rw [hlast] at q
      dsimp only at q
      rw [show (if false = true then !(List.map nV s.lets).isEmpty else (List.map nV s.lets).isEmpty) = false by rw [e0, List.map_append]; simp]
      have hlets := hL0.lets
      rw [e0, List.map_append] at hlets
      refine iteF ⟨_, rfl, L.x, _, _, _, _, rfl, hL0.ob, C, A1 _ (by simp), lk_lets, .inl ⟨rfl, _, .of hlets⟩, L.l, _, nV n, rfl, rfl, hlets, last_get _ _, ?_⟩
      have hdl : s.lets.dropLast = l := by rw [e0, List.dropLast_concat]
      have hL1 := hL0.setL s.lets.dropLast
      rw [hdl] at hL1
      rw [show (List.map nV l ++ List.map nV [n]).dropLast = List.map nV l from List.dropLast_concat]
      have f1 : Fr L H (upd H0 L.l (.lst (l.map nV))) := f0.trans Fr.updL
      rw [hdl] at q
      generalize upd H0 L.l (.lst (l.map nV)) = H1 at hL1 f1 ⊢
      obtain ⟨ps, h3, h4⟩ := hL1.pile
      have h4 : Paired (EntT H1) ps s.pile := h4
      have hpl : ps.length = s.pile.length := h4.length
      -- the blocks of this let
      refine ⟨_, rfl, L.x, _, _, _, _, rfl, hL1.ob, C, A1 _ (by simp), lk_pile, L.p, _, rfl, .of h3, fun D hD => ?_⟩
      refine lc_it (walk_enum (xs := ps)) (fun i H' => H' D = some (.lst ((ixs n s.pile i).map nV)) ∧ Same H1 H')
        ⟨upd_same, same_new hD⟩ (fun i H' _ ⟨_, sm⟩ => .of (sm _ _ h3)) ?_ ?_
      · rintro i x H2 H3 hi ⟨hD2, sm⟩ ⟨T0, x1, x2, rfl, hT0, rfl, ex1, ex2⟩
        have ex1' : x1 = .int (i : Int) := (Option.some.inj ex1).symm
        subst ex1'
        obtain ⟨e, he, a, rfl, ha⟩ := L2.paired_get h4 ex2
        have st := same_new (o := HO.tup [V.int (i : Int), V.ref a]) hT0
        have ha3 := st _ _ (sm _ _ ha)
        have hD3 := st _ _ hD2
        refine ⟨T0, _, rfl, .of upd_same, rfl, _, _, rfl, _, _, rfl, rfl, rfl, _, rfl, a, _, 0, _, rfl, rfl, .of ha3, rfl, rfl, _, rfl, ?_⟩
        rw [bW_block]
        have hsz : ((ixs n s.pile i).map nV).length < sizeLine := szL (by
          rw [List.length_map]
          have := List.length_filter_le (fun j => (s.pile[j]?.map (pOf n)).getD false) (List.range i)
          rw [List.length_range] at this
          show (ixs n s.pile i).length < _
          unfold ixs
          omega)
        cases hb0 : e.b with
        | false =>
          refine iteF ⟨?_, sm.trans st⟩
          rw [hD3, ixs_succ he, show pOf n e = false by unfold pOf; rw [hb0]; rfl]
          simp
        | true =>
          refine iteT ⟨_, rfl, a, _, 2, _, rfl, rfl, .of ha3, rfl, _, rfl, scal_num e.num n, _, rfl, ?_⟩
          rw [show decide (numV e.num = nV n) = pOf n e from by unfold pOf; rw [hb0, num_dec]; rfl]
          cases hp : pOf n e with
          | false =>
            refine iteF ⟨?_, sm.trans st⟩
            rw [hD3, ixs_succ he, hp]
            simp
          | true =>
            refine iteT ⟨_, rfl, _, hD3, hsz, ?_, same_mut (sm.trans st) hD⟩
            rw [upd_same, ixs_succ he, hp, List.map_append]
            rfl
      · rintro H2 ⟨hD2, sm⟩
        rw [hpl] at hD2
        have hL2 := hL1.same sm
        have f2 : Fr L H H2 := f1.trans (Fr.of sm)
        refine ⟨_, rfl, szS (by simp), fun p5 hp5 => ?_⟩
        have s5 := same_new (o := HO.lst []) hp5
        refine ⟨D, p5, _, rfl, rfl, .of (s5 _ _ hD2), .of upd_same, _, rfl, ?_⟩
        have hL3 := hL2.same s5
        have f3 := f2.trans (Fr.of (L := L) s5)
        have hD3 := s5 _ _ hD2
        have h33 := s5 _ _ (sm _ _ h3)
        have h43 : Paired (EntT (upd H2 p5 (.lst []))) ps s.pile := h4.mono fun _ _ q => q.kt (.of (sm.trans s5))
        generalize upd H2 p5 (.lst []) = H3 at hL3 f3 hD3 h33 h43 ⊢
        cases hix : ixs n s.pile s.pile.length with
        | nil =>
          rw [hix] at hD3
          have hno : letR n s.pile.reverse = none := letR_none fun e he => ixs_nil hix e (List.mem_reverse.mp he)
          rw [hno] at q
          exact iteF (q _ f3 hL3)
        | cons i0 more =>
          rw [hix] at hD3
          obtain ⟨e, he, hp⟩ := ixs_mem (n := n) (pile := s.pile) (i := i0) (by rw [hix]; exact List.mem_cons_self ..)
          have hi0 : i0 < s.pile.length := (List.getElem?_eq_some_iff.mp he).1
          have hsp := split_at he
          have hab : ∀ x ∈ s.pile.drop (i0 + 1), x.num ≠ some n := above_ne (by rw [← hsp]; exact hnd) (num_of hp).2
          have hrev : s.pile.reverse = (s.pile.drop (i0 + 1)).reverse ++ e :: (s.pile.take i0).reverse := by
            conv => lhs; rw [hsp]
            rw [List.reverse_append, List.reverse_cons, List.append_assoc]
            rfl
          have hdr : s.pile.drop i0 = e :: s.pile.drop (i0 + 1) := by
            obtain ⟨hi, h2⟩ := List.getElem?_eq_some_iff.mp he
            rw [List.drop_eq_getElem_cons hi, h2]
          have ecut : cutV ps (some ((i0 : Nat) : Int)) none = ps.drop i0 := cutV_drop ps i0 (by omega)
          refine iteT ⟨_, rfl, L.x, _, _, _, _, rfl, hL3.ob, C, A1 _ (by simp), lk_pile, _, rfl, D, _, 0, nV i0, rfl, rfl, .of hD3, atI_nat (xs := List.map nV (i0 :: more)) (j := 0) rfl, _, rfl, L.p, ps, rfl, .of h33, fun p6 hp6 => ?_⟩
          rw [ecut]
          have s6 := same_new (o := HO.lst (ps.drop i0)) hp6
          refine ⟨p6, rfl, ⟨_, .of upd_same⟩, fun D2 hD2' => ?_⟩
          have hL4 := hL3.same s6
          have f4 := f3.trans (Fr.of (L := L) s6)
          have hD4 := s6 _ _ hD3
          have h34 := s6 _ _ h33
          have h44 : Paired (EntT (upd H3 p6 (.lst (ps.drop i0)))) ps s.pile := h43.mono fun _ _ q => q.kt (.of s6)
          have h64 : upd H3 p6 (.lst (ps.drop i0)) p6 = some (.lst (ps.drop i0)) := upd_same
          generalize upd H3 p6 (.lst (ps.drop i0)) = H4 at hL4 f4 hD4 h34 h44 h64 hD2' ⊢
          have h4d := paired_drop i0 h44
          refine lc_list (K := K) (a := p6) (xs := ps.drop i0) (fun i H' => H' D2 = some (.lst (((s.pile.drop i0).take i).map fun e => V.str (bW e.b))) ∧ Same H4 H')
            ⟨upd_same, same_new hD2'⟩ (fun i H' _ ⟨_, sm⟩ => .of (sm _ _ h64)) ?_ ?_
          · rintro i x H5 hx ⟨hD5, sm5⟩
            obtain ⟨e', he', a, rfl, ha⟩ := L2.paired_get h4d hx
            refine ⟨rfl, _, rfl, a, _, 0, _, rfl, rfl, .of (sm5 _ _ ha), rfl, _, hD5, szL ?_, ?_, same_mut sm5 hD2'⟩
            · rw [List.length_map]
              have h6 := List.length_take_le' i (s.pile.drop i0)
              rw [List.length_drop] at h6
              omega
            · rw [upd_same, List.take_add_one, he', List.map_append]
              rfl
          · rintro H5 ⟨hD5, sm5⟩
            rw [show (ps.drop i0).length = (s.pile.drop i0).length from h4d.length, List.take_length] at hD5
            refine ⟨D2, _, rfl, .inl (.of hD5), rfl, List.all_eq_true.mpr (fun x hx => by obtain ⟨e, _, rfl⟩ := List.mem_map.mp hx; rfl), _, rfl, ?_⟩
            rw [inBr]
            have hL5 := hL4.same sm5
            have f5 := f4.trans (Fr.of (L := L) sm5)
            have hD6 := sm5 _ _ hD4
            have h35 := sm5 _ _ h34
            have h45 : Paired (EntT H5) ps s.pile := h44.mono fun _ _ q => q.kt (.of sm5)
            rw [hdr]
            have heb := (num_of hp).1
            cases hany : (e :: s.pile.drop (i0 + 1)).any fun e => !e.b with
            | true =>
              have hno : letR n s.pile.reverse = none := by
                rw [hrev]
                refine letR_br (fun x hx => hab x (List.mem_reverse.mp hx)) ?_
                obtain ⟨x, hx, hx2⟩ := List.any_eq_true.mp hany
                rcases List.mem_cons.mp hx with rfl | hx
                · rw [heb] at hx2
                  cases hx2
                · exact ⟨x, List.mem_reverse.mpr hx, by simpa using hx2⟩
              rw [hno] at q
              exact iteF (q _ f5 hL5)
            | false =>
              have hall : ∀ x ∈ s.pile.drop (i0 + 1), x.b = true := fun x hx => by
                have := List.any_eq_false.mp hany x (List.mem_cons_of_mem _ hx)
                simpa using this
              have hyes : letR n s.pile.reverse = some ((s.pile.drop (i0 + 1)).reverse.length + 1, (s.pile.take i0).reverse) := by
                rw [hrev]
                exact letR_hit hp fun x hx => ⟨hall x (List.mem_reverse.mp hx), hab x (List.mem_reverse.mp hx)⟩
              rw [hyes] at q
              refine iteT ⟨_, rfl, L.x, _, _, _, _, rfl, hL5.ob, C, A1 _ (by simp), lk_pile, _, rfl, D, _, 0, nV i0, rfl, rfl, .of hD6, atI_nat (xs := List.map nV (i0 :: more)) (j := 0) rfl, _, rfl, L.p, ps, rfl, .of h35, fun p7 hp7 => ?_⟩
              rw [ecut]
              have s7 := same_new (o := HO.lst (ps.drop i0)) hp7
              refine ⟨p7, rfl, ⟨_, .of upd_same⟩, ?_⟩
              have hL7 := hL5.same s7
              have f7 := f5.trans (Fr.of (L := L) s7)
              have n1 : p7 ≠ L.x := (ne_of_none hL5.ob hp7).symm
              have n2 : p7 ≠ L.t := by obtain ⟨_, z, _⟩ := hL5.told; exact (ne_of_none z hp7).symm
              have n3 : p7 ≠ L.p := (ne_of_none h35 hp7).symm
              have n4 : p7 ≠ L.l := (ne_of_none hL5.lets hp7).symm
              have h77 : upd H5 p7 (.lst (ps.drop i0)) p7 = some (.lst (ps.drop i0)) := upd_same
              generalize upd H5 p7 (.lst (ps.drop i0)) = H7 at hL7 f7 h77 ⊢
              have hul : (ps.drop i0).length = (s.pile.drop (i0 + 1)).length + 1 := by
                rw [show (ps.drop i0).length = (s.pile.drop i0).length from h4d.length, hdr]
                rfl
              refine for_list (K := K) (a := p7) (xs := ps.drop i0) (fun j σ H' => ∃ y4 y5 : Option V, σ = [some (.ref L.x), some (.ref b), some (nV n), some (.ref D), y4, y5] ∧ Fr L H H' ∧ Lay K H' L (popS { s with lets := l } r c (j, s.pile.reverse.drop j)) ∧ H' p7 = some (.lst (ps.drop i0)))
                ⟨_, _, rfl, f7, ?_, h77⟩ (fun j σ H' _ ⟨_, _, _, _, _, h⟩ => .of h) ?_ ?_
              · show Lay K H7 L { s with lets := l, told := s.told ++ [], pile := (s.pile.reverse.drop 0).reverse }
                rw [List.append_nil, List.drop_zero, List.reverse_reverse]
                exact hL7
              · rintro j x σ H8 hx ⟨y4, y5, rfl, f8, hL8, h8⟩
                have hj : j < (ps.drop i0).length := (List.getElem?_eq_some_iff.mp hx).1
                have hj2 : j < s.pile.reverse.length := by
                  rw [List.length_drop, hpl] at hj
                  rw [List.length_reverse]
                  omega
                have hdj := List.drop_eq_getElem_cons hj2
                have hb8 := (Fr.kt hL f8) _ _ hb
                refine ⟨_, rfl, L.x, _, _, rfl, hL8.ob, lk_no (by decide +kernel), _, rfl, L, _, b, r, c, (s.pile.reverse.drop (j + 1)).reverse, s.pile.reverse[j], rfl, hL8, hb8, ?_, ?_, fun H9 f9 hL9 => ⟨_, _, rfl, f8.trans f9, ?_, f9 _ _ n1 n2 n3 n4 h8⟩⟩
                · show (s.pile.reverse.drop j).reverse = _
                  rw [hdj, List.reverse_cons]
                · show (s.told ++ shuts r c j).length < 90000
                  rw [List.length_append, shuts_len]
                  rw [List.length_reverse] at hj2
                  omega
                · have e1 : popS { s with lets := l } r c (j + 1, s.pile.reverse.drop (j + 1)) = { popS { s with lets := l } r c (j, s.pile.reverse.drop j) with told := (popS { s with lets := l } r c (j, s.pile.reverse.drop j)).told ++ [mkT r c "shut"], pile := (s.pile.reverse.drop (j + 1)).reverse } := by
                    unfold popS
                    rw [shuts_succ, List.append_assoc]
                  rw [e1]
                  exact hL9
              · rintro σ H8 ⟨y4, y5, rfl, f8, hL8, h8⟩
                have e2 : s.pile.reverse.drop (ps.drop i0).length = (s.pile.take i0).reverse := by
                  have e3 : (s.pile.drop (i0 + 1)).length = (s.pile.drop (i0 + 1)).reverse.length := List.length_reverse.symm
                  rw [hrev, hul, e3]
                  exact drop_past _ _ _
                rw [e2, hul] at hL8
                rw [List.length_reverse] at q
                exact q _ f8 hL8
end
end Sw
set_option Elab.async false
set_option pp.maxSteps 600
set_option pp.deepTerms false
set_option linter.all false
set_option maxRecDepth 100000
set_option maxHeartbeats 4000000
namespace Sw
open PySem PySem.Spec PyProof.Rows L2 SX
theorem brR_none : ∀ {a : List Ent}, (∀ e ∈ a, e.b = true) → brR a = none
  | [], _ => rfl
  | e :: r, h => by
    unfold brR
    rw [if_pos (h e (List.mem_cons_self ..)), brR_none fun x hx => h x (List.mem_cons_of_mem _ hx)]
    rfl
theorem brR_some : ∀ {a : List Ent}, (∃ e ∈ a, e.b = false) → ∃ q, brR a = some q
  | [], ⟨_, h, _⟩ => by cases h
  | e :: r, ⟨x, hx, hb⟩ => by
    unfold brR
    split
    · rename_i he
      rcases List.mem_cons.mp hx with rfl | hx
      · rw [hb] at he
        cases he
      · obtain ⟨q, hq⟩ := brR_some ⟨x, hx, hb⟩
        exact ⟨_, by rw [hq]; rfl⟩
    · exact ⟨_, rfl⟩
theorem brR_go {e : Ent} {r : List Ent} (h : e.b = true) : brR (e :: r) = (brR r).map fun q => (q.1 + 1, q.2) := if_pos h
theorem brR_stop {e : Ent} {r : List Ent} (h : e.b = false) : brR (e :: r) = some (0, r) := if_neg (by rw [h]; decide)
/-! ### how much it grows -/
def phi (s : LSt) : Nat := s.told.length + s.pile.length
theorem phi_pop {s : LSt} {r c : Nat} {q : Nat × List Ent} (h : Pops s.pile.reverse q) : phi (popS s r c q) ≤ phi s := by
  obtain ⟨u, h1, h2⟩ := h
  have h3 : nB u ≤ u.length := List.length_filter_le _ _
  have h4 : s.pile.reverse.length = u.length + q.2.length := by rw [← List.length_append, ← h1]
  rw [List.length_reverse] at h4
  show (s.told ++ shuts r c q.1).length + q.2.reverse.length ≤ _
  rw [List.length_append, shuts_len, List.length_reverse]
  unfold phi
  omega
theorem phi_open (s : LSt) (r c : Nat) : phi (openS s r c).1 ≤ phi s + 2 := by
  unfold openS phi
  split
  · simp
    omega
  · simp
    omega
theorem phi_s1 (s : LSt) (t : Tk) : phi (s1S s t).1 ≤ phi s + 2 := by
  unfold s1S
  split
  · exact phi_open _ _ _
  · show phi s ≤ _
    omega
theorem phi_item (s : LSt) (r c : Nat) (w : Str) : phi (itemS s r c w) ≤ phi s + 1 := by
  unfold itemS phi
  split
  · simp
    omega
  · omega
def s2p (p : LSt × Bool) (t : Tk) : LSt := if p.2 = false ∧ p.1.line < t.row then lineS p.1 t.row t.col t.word else p.1
theorem s2S_is (p : LSt × Bool) (t : Tk) : s2S p t = { s2p p t with line := t.row } := rfl
theorem phi_s2 (p : LSt × Bool) (t : Tk) : phi (s2p p t) ≤ phi p.1 + 1 := by
  unfold s2p
  split
  · have h1 := phi_item (popS p.1 t.row t.col (nlR t.col p.1.pile.reverse)) t.row t.col t.word
    have h2 := phi_pop (s := p.1) (r := t.row) (c := t.col) (nlR_pops t.col _)
    show phi (itemS _ _ _ _) ≤ _
    omega
  · omega
theorem phi_s3 (s : LSt) (t : Tk) : phi (s3S s t) ≤ phi s := by
  unfold s3S
  split
  · unfold letS
    split
    · exact Nat.le_refl _
    · split
      · exact Nat.le_refl _
      · rename_i q hq
        exact phi_pop (s := { s with lets := s.lets.dropLast }) (letR_pops _ _ _ hq)
  · split
    · unfold brS
      split
      · exact Nat.le_refl _
      · rename_i q hq
        exact phi_pop (brR_pops _ _ hq)
    · exact Nat.le_refl _
theorem lets_s3 (s : LSt) (t : Tk) : (s3S s t).lets.length ≤ s.lets.length := by
  unfold s3S
  split
  · unfold letS
    split
    · exact Nat.le_refl _
    · split
      · show s.lets.dropLast.length ≤ _
        rw [List.length_dropLast]
        omega
      · show s.lets.dropLast.length ≤ _
        rw [List.length_dropLast]
        omega
  · split
    · unfold brS
      split <;> exact Nat.le_refl _
    · exact Nat.le_refl _
theorem lets_s1 (s : LSt) (t : Tk) : (s1S s t).1.lets = s.lets := by
  unfold s1S openS
  split
  · split <;> rfl
  · rfl
theorem lets_s2 (p : LSt × Bool) (t : Tk) : (s2p p t).lets = p.1.lets := by
  unfold s2p lineS itemS
  split
  · split <;> rfl
  · rfl
theorem phi_take (s : LSt) (t : Tk) : phi (takeS s t) ≤ phi s + 5 ∧ (takeS s t).lets.length ≤ s.lets.length + 1 := by
  have h1 := phi_s1 s t
  have h2 := phi_s2 (s1S s t) t
  have h3 := phi_s3 (s2S (s1S s t) t) t
  have l3 := lets_s3 (s2S (s1S s t) t) t
  have e2 : phi (s2S (s1S s t) t) = phi (s2p (s1S s t) t) := rfl
  have l2 : (s2S (s1S s t) t).lets = s.lets := (lets_s2 (s1S s t) t).trans (lets_s1 s t)
  rw [l2] at l3
  show phi (s5S (s4S (s3S (s2S (s1S s t) t) t) t) t) ≤ _ ∧ (s5S (s4S (s3S (s2S (s1S s t) t) t) t) t).lets.length ≤ _
  generalize s3S (s2S (s1S s t) t) t = s3 at h3 l3 ⊢
  have h4 : phi (s4S s3 t) = phi s3 + 1 := by
    unfold phi s4S
    simp
    omega
  have l4 : (s4S s3 t).lets = s3.lets := rfl
  generalize s4S s3 t = s4 at h4 l4 ⊢
  rw [← l4] at l3
  unfold s5S
  split
  · refine ⟨?_, by show s4.lets.length ≤ _; omega⟩
    unfold phi at *
    simp
    omega
  · split
    · refine ⟨by show phi s4 ≤ _; omega, ?_⟩
      show (s4.lets ++ [_]).length ≤ _
      rw [List.length_append]
      show s4.lets.length + 1 ≤ _
      omega
    · split
      · exact ⟨by show phi s4 ≤ _; omega, by show s4.lets.length ≤ _; omega⟩
      · exact ⟨by omega, by omega⟩
theorem s1S_inv {s : LSt} (h : InvS s) (t : Tk) : InvS (s1S s t).1 := by
  unfold s1S
  split
  · exact openS_inv h _ _
  · exact h
theorem s2p_inv {p : LSt × Bool} (h : InvS p.1) (t : Tk) : InvS (s2p p t) := by
  unfold s2p
  split
  · exact itemS_inv (popS_inv h t.row t.col (nlR_pops t.col _)) t.row t.col t.word
  · exact h
section
variable {P : Program} {w : World} {K : PySem.W.Frag} {mg : Str → Option Value} {base : Heap}
def spClosesBr (K : PySem.W.Frag) : Sp := fun vs H Q _ => ∃ (L : LA) (s : LSt) (b : Addr) (r c : Nat), vs = [.ref L.x, .ref b] ∧ Lay K H L s ∧ PlT H b r c ∧ s.told.length + s.pile.length + 2 < 90000 ∧ Af K L H (brS s r c) Q .non
theorem ok_Laying_closes_bracket (T : Txt K mg) : FnOk P w K mg base (L2.CX P w) 3 (He.ma K (He.ga K "Laying") "closes_bracket") (fdAt K (He.ma K (He.ga K "Laying") "closes_bracket")) ["self", "place"] (spClosesBr K) := by
  refine T.d_Laying_closes_bracket.fn.ok sc_Laying_closes_bracket (fun vs H Q E h => ?_) (fun cdv A outer s H vs Q E hr h => ?_)
  · obtain ⟨_, _, _, _, _, rfl, _⟩ := h
    rfl
  · obtain ⟨L, s, b, r, c, rfl, hL, hb, hn, q⟩ := h
    refine ⟨_, PSs.nox (pss_one (ps_if (pt_cmpR op_in_seq pe_str (pe_lc (own := [("entry", 2)]) (g := gName 2) rfl sc_Laying_closes_bracket.nd (pi_list (pe_fld (pv 0) rfl)) (blkOk_by (own := [("entry", 2)]) (N := ["self", "place", "entry"]) (sc := defScope s_Laying_closes_bracket) (by decide +kernel)) (fun _ _ _ _ _ => (pg_name (i := 2) sc_Laying_closes_bracket.nd rfl (.inl rfl))) (fun _ _ _ _ _ => pts_nil) (fun _ _ _ _ _ => (pe_ix (r := rIxT K) ix_tup (pv 2) pe_int (fun _ _ => rfl)))) rfl)
        (pss_cons (ps_while PassesOwn.never (pt_cmpR op_eq (pe_ix ix_tup (pe_ix ix_list (pe_fld (pv 0) rfl) (pe_un un_neg pe_int) (fun _ _ => rfl)) pe_int (fun _ _ => rfl)) pe_str (nomark _))
        (pss_one (ps_expr (pe_meth (C := He.ga K "Laying") (pv 0) T.cl_Laying T.d_Laying_shut_top.mt (ok_Laying_shut_top T) (hr.mono (by decide)) T.d_Laying_shut_top.b .nil passL (pa_cons (pv 1) pa_nil)))))
      (pss_one (ps_expr (pe_bm0 PySem.F.plainAttrs_list PySem.F.slot_list_pop PySem.F.type_list_pop mt_pop (pe_fld (pv 0) rfl)))))
        pss_nil)), ?_⟩
    have C := T.cl_Laying
    have A1 := T.na_Laying
    obtain ⟨ps, h3, h4⟩ := hL.pile
    refine ⟨_, rfl, L.x, _, _, _, _, rfl, hL.ob, C, A1 _ (by simp), lk_pile, L.p, rfl, ⟨_, .of h3⟩, fun D2 hD2 => ?_⟩
    refine lc_list (K := K) (a := L.p) (xs := ps) (fun i H' => H' D2 = some (.lst ((s.pile.take i).map fun e => V.str (bW e.b))) ∧ Same H H')
      ⟨upd_same, same_new hD2⟩ (fun i H' _ ⟨_, sm⟩ => .of (sm _ _ h3)) ?_ ?_
    · rintro i x H5 hx ⟨hD5, sm5⟩
      obtain ⟨e', he', a, rfl, ha⟩ := L2.paired_get h4 hx
      refine ⟨rfl, _, rfl, a, _, 0, _, rfl, rfl, .of (sm5 _ _ ha), rfl, _, hD5, szL ?_, ?_, same_mut sm5 hD2⟩
      · rw [List.length_map]
        have h6 := List.length_take_le' i s.pile
        omega
      · rw [upd_same, List.take_add_one, he', List.map_append]
        rfl
    · rintro H5 ⟨hD5, sm5⟩
      rw [show ps.length = s.pile.length from h4.length, List.take_length] at hD5
      refine ⟨D2, _, rfl, .inl (.of hD5), rfl, List.all_eq_true.mpr (fun x hx => by obtain ⟨e, _, rfl⟩ := List.mem_map.mp hx; rfl), _, rfl, ?_⟩
      rw [inBr]
      have hL5 := hL.same sm5
      have f5 := Fr.of (L := L) sm5
      unfold brS at q
      cases hany : s.pile.any fun e => !e.b with
      | false =>
        have hno : brR s.pile.reverse = none := brR_none fun e he => by
          have := List.any_eq_false.mp hany e (List.mem_reverse.mp he)
          simpa using this
        rw [hno] at q
        exact iteF (q _ f5 hL5)
      | true =>
        obtain ⟨x, hx, hx2⟩ := List.any_eq_true.mp hany
        obtain ⟨q0, hq0⟩ := brR_some (a := s.pile.reverse) ⟨x, List.mem_reverse.mpr hx, by simpa using hx2⟩
        rw [hq0] at q
        refine iteT ⟨fun m σ H' => ∃ (k : Nat) (rest : List Ent) (q' : Nat × List Ent) (y2 : Option V), σ = [some (.ref L.x), some (.ref b), y2] ∧ Fr L H H' ∧ Lay K H' L (popS s r c (k, rest)) ∧ brR rest = some q' ∧ q0 = (k + q'.1, q'.2) ∧ k + rest.length = s.pile.length ∧ m = rest.length,
          ⟨_, 0, s.pile.reverse, q0, _, rfl, f5, ?_, hq0, by simp, by simp, rfl⟩, ?_⟩
        · show Lay K H5 L { s with told := s.told ++ [], pile := s.pile.reverse.reverse }
          rw [List.append_nil, List.reverse_reverse]
          exact hL5
        · rintro m σ H' ⟨k, rest, q', y2, rfl, f1, hL1, hbr, e0, hlen, rfl⟩
          cases rest with
          | nil => cases hbr
          | cons e rest =>
            obtain ⟨ps1, h31, h41⟩ := hL1.pile
            have h42 : Paired (EntT H') ps1 (e :: rest).reverse := h41
            rw [List.reverse_cons] at h42
            obtain ⟨ps', v, rfl, h5, a, rfl, ha⟩ := paired_snoc h42
            have hb1 := (Fr.kt hL f1) _ _ hb
            refine ⟨_, rfl, L.x, _, _, _, _, rfl, hL1.ob, C, A1 _ (by simp), lk_pile, _, rfl, L.p, _, _, _, rfl, rfl, .of h31, atI_last _ _, a, _, 0, _, rfl, rfl, .of ha, rfl, rfl, _, rfl, ?_⟩
            rw [bW_block]
            simp only [List.length_cons] at hlen
            cases hb0 : e.b with
            | true =>
              rw [brR_go hb0] at hbr
              cases hr2 : brR rest with
              | none => rw [hr2] at hbr; cases hbr
              | some q2 =>
                rw [hr2] at hbr
                have e1 : q' = (q2.1 + 1, q2.2) := (Option.some.inj hbr).symm
                refine iteT ⟨fun σ' H'' => σ' = [some (.ref L.x), some (.ref b), y2] ∧ Fr L H H'' ∧ Lay K H'' L (popS s r c (k + 1, rest)), fun σ' H'' hN => ?_, ?_⟩
                · obtain ⟨rfl, f3, hL3⟩ := hN
                  refine ⟨rest.length, by simp, k + 1, rest, q2, y2, rfl, f3, hL3, hr2, ?_, by omega, rfl⟩
                  rw [e0, e1]
                  simp
                  omega
                · refine ⟨_, rfl, L.x, _, _, rfl, hL1.ob, lk_no (by decide +kernel), _, rfl, L, _, b, r, c, rest.reverse, e, rfl, hL1, hb1, List.reverse_cons, ?_, fun H3 f3 hL3 => ⟨rfl, f1.trans f3, ?_⟩⟩
                  · show (s.told ++ shuts r c k).length < 90000
                    rw [List.length_append, shuts_len]
                    omega
                  · have e1 : (popS s r c (k + 1, rest)) = { popS s r c (k, e :: rest) with told := (popS s r c (k, e :: rest)).told ++ [mkT r c "shut"], pile := rest.reverse } := by
                      unfold popS
                      rw [shuts_succ, List.append_assoc]
                    rw [e1]
                    exact hL3
            | false =>
              rw [brR_stop hb0] at hbr
              have e1 : q' = (0, rest) := (Option.some.inj hbr).symm
              rw [e1] at e0
              refine iteF ⟨_, rfl, L.x, _, _, _, _, rfl, hL1.ob, C, A1 _ (by simp), lk_pile, .inl ⟨rfl, _, .of h31⟩, L.p, _, _, rfl, rfl, h31, last_get _ _, ?_⟩
              rw [List.dropLast_concat]
              rw [e0] at q
              exact q _ (f1.trans Fr.updP) (hL1.setP h5)
end
end Sw
set_option Elab.async false
set_option pp.maxSteps 600
set_option pp.deepTerms false
set_option linter.all false
set_option maxRecDepth 100000
set_option maxHeartbeats 4000000
namespace Sw
open PySem PySem.Spec PyProof.Rows L2 SX
theorem nB_take {pile : List Ent} {i : Nat} {e : Ent} (h : pile[i]? = some e) : nB (pile.take (i + 1)) = nB (pile.take i) + (if e.b = true then 1 else 0) := by
  rw [List.take_add_one, h, nB_app]
  congr 1
  show nB [e] = _
  unfold nB
  cases hb : e.b <;> simp [hb]
theorem endP_snoc : ∀ (l : List Tk) (t : Tk), endP (l ++ [t]) = (t.row, t.col + t.word.length)
  | [], t => rfl
  | [a], t => rfl
  | a :: b :: l, t => endP_snoc (b :: l) t
section
variable {P : Program} {w : World} {K : PySem.W.Frag} {mg : Str → Option Value} {base : Heap}
def spTakeL (K : PySem.W.Frag) : Sp := fun vs H Q _ => ∃ (L : LA) (s : LSt) (v : V) (t : Tk), vs = [.ref L.x, v] ∧ Lay K H L s ∧ TkT H v t ∧ InvS s ∧ phi s + 10 < 90000 ∧ s.lets.length < 90000 ∧ Af K L H (takeS s t) Q .non
theorem ok_Laying_take (T : Txt K mg) : FnOk P w K mg base (L2.CX P w) 4 (He.ma K (He.ga K "Laying") "take") (fdAt K (He.ma K (He.ga K "Laying") "take")) ["self", "lexeme"] (spTakeL K) := by
  refine T.d_Laying_take.fn.ok sc_Laying_take (fun vs H Q E h => ?_) (fun cdv A outer s H vs Q E hr h => ?_)
  · obtain ⟨_, _, _, _, rfl, _⟩ := h
    rfl
  · obtain ⟨L, s, v, t, rfl, hL, ht, hI, hn, hn2, q⟩ := h
    refine ⟨_, PSs.nox (pss_cons (ps_asg (pv 1) (pg_tup rfl (pgs_cons (pg_name (i := 2) sc_Laying_take.nd rfl (.inl rfl)) (pgs_cons (pg_name (i := 3) sc_Laying_take.nd rfl (.inl rfl)) (pgs_cons (pg_name (i := 4) sc_Laying_take.nd rfl (.inl rfl)) pgs_nil)))))
      (C8.pss_cut (ps_set (i := 5) sc_Laying_take.nd rfl (.inl rfl) (pe_and (pe_cmpR op_notN (pe_fld (pv 0) rfl) pe_non (nomark _)) (pe_one (pe_meth (C := He.ga K "Laying") (pv 0) T.cl_Laying T.d_Laying_opened.mt (ok_Laying_opened T) (hr.mono (by decide)) T.d_Laying_opened.b .nil passL (pa_cons (pv 2) pa_nil)))))
      (C8.pss_cut (ps_if (pw_and (pt_not (pt_val (pv 5))) (pw_and1 (pt_cmpR op_gt (pe_ix ix_tup (pv 2) pe_int (fun _ _ => rfl)) (pe_fld (pv 0) rfl) (nomark _)))).pt
        (pss_one (ps_expr (pe_meth (C := He.ga K "Laying") (pv 0) T.cl_Laying T.d_Laying_new_line.mt (ok_Laying_new_line T) (hr.mono (by decide)) T.d_Laying_new_line.b .nil passL (pa_cons (pv 2) (pa_cons (pv 4) pa_nil)))))
        pss_nil)
      (pss_cons (ps_fld (pv 0) (pe_ix ix_tup (pv 2) pe_int (fun _ _ => rfl)) rfl)
      (C8.pss_cut (ps_if (pt_cmpR op_eq (pv 4) pe_str (nomark _))
        (pss_one (ps_expr (pe_meth (C := He.ga K "Laying") (pv 0) T.cl_Laying T.d_Laying_closes_let.mt (ok_Laying_closes_let T) (hr.mono (by decide)) T.d_Laying_closes_let.b .nil passL (pa_cons (pv 2) pa_nil))))
        (pss_one (ps_if (pt_cmpR op_eq (pv 4) pe_str (nomark _))
        (pss_one (ps_expr (pe_meth (C := He.ga K "Laying") (pv 0) T.cl_Laying T.d_Laying_closes_bracket.mt (ok_Laying_closes_bracket T) (hr.mono (by decide)) T.d_Laying_closes_bracket.b .nil passL (pa_cons (pv 2) pa_nil))))
        pss_nil)))
      (pss_cons (ps_expr (pe_bm PySem.F.plainAttrs_list PySem.F.slot_list_append PySem.F.type_list_append mt_append (pe_fld (pv 0) rfl) (pa_cons (pv 1) pa_nil)))
      (pss_one (ps_if (pt_cmpR op_eq (pv 4) pe_str (nomark _))
        (pss_one (ps_expr (pe_bm PySem.F.plainAttrs_list PySem.F.slot_list_append PySem.F.type_list_append mt_append (pe_fld (pv 0) rfl) (pa_cons (pe_tup (pa_cons pe_str (pa_cons pe_int (pa_cons pe_non pa_nil)))) pa_nil))))
        (pss_one (ps_if (pt_cmpR op_in_seq (pv 4) (pe_tup (pa_cons pe_str (pa_cons pe_str pa_nil))) rfl)
        (pss_cons (ps_fld (pv 0) (pv 4) rfl)
      (pss_one (ps_if (pt_cmpR op_eq (pv 4) pe_str (nomark _))
        (pss_one (ps_expr (pe_bm PySem.F.plainAttrs_list PySem.F.slot_list_append PySem.F.type_list_append mt_append (pe_fld (pv 0) rfl) (pa_cons (pe_callB call_len_seq (by rfl) T.b_len PySem.boot_len (pa_cons (pe_fld (pv 0) rfl) pa_nil)) pa_nil))))
        pss_nil)))
        pss_nil)))))))))), ?_⟩
    have C := T.cl_Laying
    have A1 := T.na_Laying
    obtain ⟨a, b, rfl, ha, hb⟩ := ht
    have hphi : s.told.length + s.pile.length = phi s := rfl
    refine ⟨_, rfl, a, _, rfl, .of ha, rfl, _, _, rfl, _, _, rfl, _, _, rfl, rfl, ?_⟩
    -- opened
    refine ⟨fun σ' H' => σ' = [some (.ref L.x), some (.ref a), some (.ref b), some (.str t.sort), some (.str t.word), some (.bl (s1S s t).2)] ∧ Fr L H H' ∧ Lay K H' L (s1S s t).1, ?_, ?_⟩
    · refine ⟨_, rfl, L.x, _, _, _, _, rfl, hL.ob, C, A1 _ (by simp), lk_op, rfl, _, rfl, ?_⟩
      cases ho : s.op with
      | none =>
        rw [show (!decide (opV none = V.non)) = false from rfl]
        have e1 : s1S s t = (s, false) := by unfold s1S; rw [ho]; rfl
        rw [e1]
        exact iteF ⟨rfl, Fr.refl _ _, hL⟩
      | some o =>
        rw [show (!decide (opV (some o) = V.non)) = true from by rw [decide_eq_false (fun z => by cases z)]; rfl]
        have e1 : s1S s t = openS s t.row t.col := by unfold s1S; rw [ho]; rfl
        rw [e1]
        refine iteT ⟨_, rfl, L.x, _, _, rfl, hL.ob, lk_no (by decide +kernel), _, rfl, L, s, b, t.row, t.col, rfl, hL, hb, by omega, by omega, fun z => ?_, fun H1 f1 hL1 => ⟨rfl, f1, hL1⟩⟩
        obtain ⟨n, h1, _⟩ := hI.op z
        intro z2
        rw [z2] at h1
        cases h1
    · rintro σ' H1 ⟨rfl, f1, hL1⟩
      have p1 := phi_s1 s t
      have I1 := s1S_inv hI t
      have l1 := lets_s1 s t
      have p2 := phi_s2 (s1S s t) t
      have I2 := s2p_inv I1 t
      have l2 := lets_s2 (s1S s t) t
      have hb1 := (Fr.kt hL f1) _ _ hb
      -- a new line
      refine ⟨fun σ' H' => σ' = [some (.ref L.x), some (.ref a), some (.ref b), some (.str t.sort), some (.str t.word), some (.bl (s1S s t).2)] ∧ Fr L H H' ∧ Lay K H' L (s2p (s1S s t) t), ?_, ?_⟩
      · refine ⟨_, rfl, _, rfl, ?_⟩
        cases ho : (s1S s t).2 with
        | true =>
          have e2 : s2p (s1S s t) t = (s1S s t).1 := if_neg (fun z => by rw [ho] at z; cases z.1)
          rw [e2]
          exact iteF ⟨rfl, f1, hL1⟩
        | false =>
          refine iteT ⟨_, rfl, b, _, 0, _, rfl, rfl, .of hb1, rfl, _, rfl, L.x, _, _, _, _, rfl, hL1.ob, C, A1 _ (by simp), lk_line, _, _, rfl, rfl, _, rfl, ?_⟩
          by_cases hl : (s1S s t).1.line < t.row
          · rw [decide_eq_true (show (t.row : Int) > ((s1S s t).1.line : Int) by omega)]
            have e2 : s2p (s1S s t) t = lineS (s1S s t).1 t.row t.col t.word := if_pos ⟨ho, hl⟩
            rw [e2]
            refine iteT ⟨_, rfl, L.x, _, _, rfl, hL1.ob, lk_no (by decide +kernel), _, rfl, _, rfl, L, _, b, t.row, t.col, t.word, rfl, hL1, hb1, ?_, fun H2 f2 hL2 => ⟨rfl, f1.trans f2, hL2⟩⟩
            show phi (s1S s t).1 + 2 < 90000
            omega
          · rw [decide_eq_false (show ¬ (t.row : Int) > ((s1S s t).1.line : Int) by omega)]
            have e2 : s2p (s1S s t) t = (s1S s t).1 := if_neg (fun z => hl z.2)
            rw [e2]
            exact iteF ⟨rfl, f1, hL1⟩
      · rintro σ' H2 ⟨rfl, f2, hL2⟩
        have hb2 := (Fr.kt hL f2) _ _ hb
        have ha2 := (Fr.kt hL f2) _ _ ha
        refine ⟨_, rfl, b, _, 0, _, rfl, rfl, .of hb2, rfl, _, rfl, L.x, _, _, _, rfl, hL2.ob, C, A1 _ (by simp), (show 5 < 1000 by decide), ?_⟩
        rw [show putF "line" (V.int (t.row : Int)) (fsL L (s2p (s1S s t) t).op (s2p (s1S s t) t).line) = fsL L (s2p (s1S s t) t).op t.row from pf_line _]
        have hL3 := hL2.setX (s2p (s1S s t) t).op t.row
        have e3 : ({ s2p (s1S s t) t with op := (s2p (s1S s t) t).op, line := t.row } : LSt) = s2S (s1S s t) t := rfl
        rw [e3] at hL3
        have f3 : Fr L H (upd H2 L.x (.ins (He.ga K "Laying") L.dx (fsL L (s2p (s1S s t) t).op t.row))) := f2.trans Fr.updX
        generalize upd H2 L.x (.ins (He.ga K "Laying") L.dx (fsL L (s2p (s1S s t) t).op t.row)) = H3 at hL3 f3 ⊢
        have p3 : phi (s2S (s1S s t) t) ≤ phi s + 3 := by show phi (s2p (s1S s t) t) ≤ _; omega
        have I3 : (nums (s2S (s1S s t) t).pile).Nodup := I2.nd
        have l3 : (s2S (s1S s t) t).lets = s.lets := l2.trans l1
        have et : takeS s t = s5S (s4S (s3S (s2S (s1S s t) t) t) t) t := rfl
        rw [et] at q
        generalize s2S (s1S s t) t = s2 at hL3 p3 I3 l3 q
        have hb3 := (Fr.kt hL f3) _ _ hb
        have q2 : s2.told.length + s2.pile.length = phi s2 := rfl
        -- in, )
        refine ⟨fun σ' H' => (∃ y5 : Option V, σ' = [some (.ref L.x), some (.ref a), some (.ref b), some (.str t.sort), some (.str t.word), y5]) ∧ Fr L H H' ∧ Lay K H' L (s3S s2 t), ?_, ?_⟩
        · refine ⟨_, rfl, rfl, _, rfl, ?_⟩
          by_cases w1 : t.word = "in"
          · rw [decide_eq_true (congrArg V.str w1)]
            have e4 : s3S s2 t = letS s2 t.row t.col := if_pos w1
            rw [e4]
            exact iteT ⟨_, rfl, L.x, _, _, rfl, hL3.ob, lk_no (by decide +kernel), _, rfl, L, _, b, t.row, t.col, rfl, hL3, hb3, by omega, I3, fun H4 f4 hL4 => ⟨⟨_, rfl⟩, f3.trans f4, hL4⟩⟩
          · rw [decide_eq_false (fun z => w1 (V.str.inj z))]
            refine iteF ⟨_, rfl, rfl, _, rfl, ?_⟩
            by_cases w2 : t.word = ")"
            · rw [decide_eq_true (congrArg V.str w2)]
              have e4 : s3S s2 t = brS s2 t.row t.col := by unfold s3S; rw [if_neg w1, if_pos w2]
              rw [e4]
              exact iteT ⟨_, rfl, L.x, _, _, rfl, hL3.ob, lk_no (by decide +kernel), _, rfl, L, _, b, t.row, t.col, rfl, hL3, hb3, by omega, fun H4 f4 hL4 => ⟨⟨_, rfl⟩, f3.trans f4, hL4⟩⟩
            · rw [decide_eq_false (fun z => w2 (V.str.inj z))]
              have e4 : s3S s2 t = s2 := by unfold s3S; rw [if_neg w1, if_neg w2]
              rw [e4]
              exact iteF ⟨⟨_, rfl⟩, f3, hL3⟩
        · rintro σ' H4 ⟨⟨y5, rfl⟩, f4, hL4⟩
          have p4 := phi_s3 s2 t
          have l4 := lets_s3 s2 t
          have ha4 := (Fr.kt hL f4) _ _ ha
          have hb4 := (Fr.kt hL f4) _ _ hb
          generalize s3S s2 t = s3 at hL4 p4 l4 q
          have q3 : s3.told.length + s3.pile.length = phi s3 := rfl
          obtain ⟨us, h1, h2⟩ := hL4.told
          have hul : us.length = s3.told.length := h2.length
          refine ⟨_, rfl, L.x, _, _, _, _, rfl, hL4.ob, C, A1 _ (by simp), lk_told, .inl ⟨rfl, _, .of h1⟩, _, rfl, L.t, us, .ref a, rfl, rfl, h1, szL (by omega), ?_⟩
          have hL5 := hL4.pushT h1 ⟨a, b, rfl, ha4, hb4⟩
          have e5 : ({ s3 with told := s3.told ++ [t] } : LSt) = s4S s3 t := rfl
          rw [e5] at hL5
          have f5 : Fr L H (upd H4 L.t (.lst (us ++ [V.ref a]))) := f4.trans Fr.updT
          have ht5 : upd H4 L.t (.lst (us ++ [V.ref a])) L.t = some (.lst (us ++ [V.ref a])) := upd_same
          generalize upd H4 L.t (.lst (us ++ [V.ref a])) = H5 at hL5 f5 ht5 ⊢
          have p5 : (s4S s3 t).told.length = s3.told.length + 1 := by show (s3.told ++ [t]).length = _; simp
          have p6 : (s4S s3 t).pile = s3.pile := rfl
          have p7 : (s4S s3 t).lets = s3.lets := rfl
          generalize s4S s3 t = s4 at hL5 q p5 p6 p7
          refine ⟨_, rfl, rfl, _, rfl, ?_⟩
          unfold s5S at q
          by_cases w1 : t.word = "("
          · rw [decide_eq_true (congrArg V.str w1)]
            rw [if_pos w1] at q
            obtain ⟨ps, h3, h4⟩ := hL5.pile
            have hpl : ps.length = s3.pile.length := by rw [← p6]; exact h4.length
            refine iteT ⟨_, rfl, L.x, _, _, _, _, rfl, hL5.ob, C, A1 _ (by simp), lk_pile, .inl ⟨rfl, _, .of h3⟩, szS (by simp), fun p6 hp6 => ?_⟩
            have s6 := same_new (o := HO.tup [V.str "bracket", V.int 0, V.non]) hp6
            exact ⟨L.p, ps, .ref p6, rfl, rfl, s6 _ _ h3, szL (by omega), q _ (f5.trans ((Fr.of s6).trans Fr.updP)) ((hL5.same s6).pushP (s6 _ _ h3) ⟨p6, rfl, upd_same⟩)⟩
          · rw [decide_eq_false (fun z => w1 (V.str.inj z))]
            rw [if_neg w1] at q
            refine iteF ⟨_, rfl, szS (by simp), fun p6 hp6 => ?_⟩
            have s6 := same_new (o := HO.tup [V.str "let", V.str "of"]) hp6
            refine ⟨_, _, rfl, .inr (.of upd_same), rfl, rfl, _, rfl, ?_⟩
            have hin : (if false = true then !inV (V.str t.word) [V.str "let", V.str "of"] else inV (V.str t.word) [V.str "let", V.str "of"]) = decide (t.word ∈ (["let", "of"] : List Str)) := in_strs t.word ["let", "of"]
            rw [hin]
            have hL6 := hL5.same s6
            have f6 := f5.trans (Fr.of (L := L) s6)
            have ht6 := s6 _ _ ht5
            generalize upd H5 p6 (.tup [V.str "let", V.str "of"]) = H6 at hL6 f6 ht6 ⊢
            by_cases w2 : t.word ∈ (["let", "of"] : List Str)
            · rw [decide_eq_true w2]
              refine iteT ⟨_, rfl, _, rfl, L.x, _, _, _, rfl, hL6.ob, C, A1 _ (by simp), (show 5 < 1000 by decide), ?_⟩
              rw [show putF "opener" (V.str t.word) (fsL L s4.op s4.line) = fsL L (some t.word) s4.line from pf_op (some t.word)]
              have hL7 := hL6.setX (some t.word) s4.line
              have f7 : Fr L H (upd H6 L.x (.ins (He.ga K "Laying") L.dx (fsL L (some t.word) s4.line))) := f6.trans Fr.updX
              have ht7 : upd H6 L.x (.ins (He.ga K "Laying") L.dx (fsL L (some t.word) s4.line)) L.t = some (.lst (us ++ [V.ref a])) := by rw [upd_ne hL6.xt.symm]; exact ht6
              generalize upd H6 L.x (.ins (He.ga K "Laying") L.dx (fsL L (some t.word) s4.line)) = H7 at hL7 f7 ht7 ⊢
              refine ⟨_, rfl, rfl, _, rfl, ?_⟩
              by_cases w3 : t.word = "let"
              · rw [decide_eq_true (congrArg V.str w3)]
                rw [if_pos w3] at q
                have hll := hL7.lets
                have hlen : s4.told.length = (us ++ [V.ref a]).length := by rw [List.length_append, hul, p5]; rfl
                refine iteT ⟨_, rfl, L.x, _, _, _, _, rfl, hL7.ob, C, A1 _ (by simp), lk_lets, .inl ⟨rfl, _, .of hll⟩, _, rfl, L.x, _, _, _, _, rfl, hL7.ob, C, A1 _ (by simp), lk_told, L.t, _, rfl, .inl (.of ht7), L.l, _, _, rfl, rfl, hll, szL (by rw [List.length_map]; show s4.lets.length < _; rw [p7]; rw [l3] at l4; omega), ?_⟩
                have hL8 := hL7.setL (s4.lets ++ [s4.told.length])
                rw [w3] at hL8
                have em : List.map nV ({ s4 with op := some t.word, line := s4.line } : LSt).lets ++ [V.int (((us ++ [V.ref a]).length : Nat) : Int)] = List.map nV (s4.lets ++ [s4.told.length]) := by
                  rw [List.map_append, hlen]
                  rfl
                rw [em]
                exact q _ (f7.trans Fr.updL) hL8
              · rw [decide_eq_false (fun z => w3 (V.str.inj z))]
                have w4 : t.word = "of" := by
                  rcases List.mem_cons.mp w2 with w2 | w2
                  · exact absurd w2 w3
                  · exact List.mem_singleton.mp w2
                rw [if_neg w3, if_pos w4] at q
                rw [w4] at hL7
                exact iteF (q _ f7 hL7)
            · rw [decide_eq_false w2]
              have w3 : ¬ t.word = "let" := fun z => w2 (by rw [z]; simp)
              have w4 : ¬ t.word = "of" := fun z => w2 (by rw [z]; simp)
              rw [if_neg w3, if_neg w4] at q
              exact iteF (q _ f6 hL6)
end
end Sw
set_option Elab.async false
set_option pp.maxSteps 600
set_option pp.deepTerms false
set_option linter.all false
set_option maxRecDepth 100000
set_option maxHeartbeats 4000000
namespace Sw
open PySem PySem.Spec PyProof.Rows L2 SX
theorem Fr.ofBut {L : LA} {H H' : Hp} (h : But L.t H H') : Fr L H H' := fun b o _ h1 _ _ e => h b o h1 e
section
variable {P : Program} {w : World} {K : PySem.W.Frag} {mg : Str → Option Value} {base : Heap}
def spMarkB (K : PySem.W.Frag) : Sp := fun vs H Q _ => ∃ (L : LA) (s : LSt) (b : Addr) (r c : Nat) (wd : Str), vs = [.ref L.x, .ref b, .str wd] ∧ Lay K H L s ∧ PlT H b r c ∧ s.told.length < 90000 ∧
  ∀ H', But L.t H H' → Lay K H' L { s with told := s.told ++ [mkT r c wd] } → Q .non H'
theorem ok_Laying_markB (T : Txt K mg) : FnOk P w K mg base (L2.CX P w) 1 (He.ma K (He.ga K "Laying") "mark") (fdAt K (He.ma K (He.ga K "Laying") "mark")) ["self", "place", "word"] (spMarkB K) := by
  refine T.d_Laying_mark.fn.ok sc_Laying_mark (fun vs H Q E h => ?_) (fun cdv A outer s H vs Q E hr h => ?_)
  · obtain ⟨_, _, _, _, _, _, rfl, _⟩ := h
    rfl
  · obtain ⟨L, s, b, r, c, wd, rfl, hL, hb, hn, q⟩ := h
    refine ⟨_, PSs.nox (pss_one (ps_expr (pe_bm PySem.F.plainAttrs_list PySem.F.slot_list_append PySem.F.type_list_append mt_append (pe_fld (pv 0) rfl) (pa_cons (pe_tup (pa_cons (pv 1) (pa_cons pe_str (pa_cons (pv 2) pa_nil)))) pa_nil)))), ?_⟩
    obtain ⟨us, h1, h2⟩ := hL.told
    refine ⟨_, rfl, L.x, _, _, _, _, rfl, hL.ob, T.cl_Laying, T.na_Laying _ (by simp), lk_told, .inl ⟨rfl, _, .of h1⟩, _, rfl, _, rfl, szS (by simp), fun a ha => ?_⟩
    have s1 := same_new (o := HO.tup [V.ref b, V.str "mark", V.str wd]) ha
    have hl : us.length = s.told.length := h2.length
    refine ⟨L.t, us, .ref a, rfl, rfl, s1 _ _ h1, szL (by omega), q _ ((But.of s1).trans (But.upd (But.refl _ _))) ((hL.same s1).pushT (s1 _ _ h1) ⟨a, b, rfl, upd_same, s1 _ _ hb⟩)⟩
def spEnds (K : PySem.W.Frag) : Sp := fun vs H Q _ => ∃ (L : LA) (s : LSt) (b : Addr) (r c : Nat), vs = [.ref L.x, .ref b] ∧ Lay K H L s ∧ PlT H b r c ∧ phi s + 5 < 90000 ∧ Af K L H (endS s r c) Q .non
theorem ok_Laying_ends (T : Txt K mg) : FnOk P w K mg base (L2.CX P w) 2 (He.ma K (He.ga K "Laying") "ends") (fdAt K (He.ma K (He.ga K "Laying") "ends")) ["self", "place"] (spEnds K) := by
  refine T.d_Laying_ends.fn.ok sc_Laying_ends (fun vs H Q E h => ?_) (fun cdv A outer s H vs Q E hr h => ?_)
  · obtain ⟨_, _, _, _, _, rfl, _⟩ := h
    rfl
  · obtain ⟨L, s, b, r, c, rfl, hL, hb, hn, q⟩ := h
    refine ⟨_, PSs.nox (C8.pss_cut (ps_if (pt_cmpR op_eq (pe_fld (pv 0) rfl) pe_str (nomark _))
        (pss_cons (ps_expr (pe_meth (C := He.ga K "Laying") (pv 0) T.cl_Laying T.d_Laying_mark.mt (ok_Laying_mark T) (hr.mono (by decide)) T.d_Laying_mark.b .nil passL (pa_cons (pv 1) (pa_cons pe_str pa_nil))))
      (pss_one (ps_expr (pe_meth (C := He.ga K "Laying") (pv 0) T.cl_Laying T.d_Laying_mark.mt (ok_Laying_markB T) (hr.mono (by decide)) T.d_Laying_mark.b .nil passL (pa_cons (pv 1) (pa_cons pe_str pa_nil))))))
        pss_nil)
      (pss_one (ps_for PassesOwn.never rfl (pi_list (pe_fld (pv 0) rfl)) (pg_tup rfl (pgs_cons (pg_name (i := 2) sc_Laying_ends.nd rfl (.inl rfl)) (pgs_cons (pg_name (i := 3) sc_Laying_ends.nd rfl (.inl rfl)) (pgs_cons (pg_name (i := 4) sc_Laying_ends.nd rfl (.inl rfl)) pgs_nil))))
        (pss_one (ps_if (pt_cmpR op_eq (pv 2) pe_str (nomark _))
        (pss_one (ps_expr (pe_meth (C := He.ga K "Laying") (pv 0) T.cl_Laying T.d_Laying_mark.mt (ok_Laying_markB T) (hr.mono (by decide)) T.d_Laying_mark.b .nil passL (pa_cons (pv 1) (pa_cons pe_str pa_nil)))))
        pss_nil))))), ?_⟩
    have C := T.cl_Laying
    have A1 := T.na_Laying
    have hphi : s.told.length + s.pile.length = phi s := rfl
    refine ⟨fun σ' H' => (∃ y2 y3 y4 : Option V, σ' = [some (.ref L.x), some (.ref b), y2, y3, y4]) ∧ Fr L H H' ∧ Lay K H' L { s with told := if s.op = some "text" then s.told ++ [mkT r c "open"] ++ [mkT r c "shut"] else s.told }, ?_, ?_⟩
    · refine ⟨_, rfl, L.x, _, _, _, _, rfl, hL.ob, C, A1 _ (by simp), lk_op, scal_op s.op _, _, rfl, ?_⟩
      by_cases ho : s.op = some "text"
      · rw [decide_eq_true (show opV s.op = V.str "text" by rw [ho]; rfl), if_pos ho]
        refine iteT ⟨_, rfl, L.x, _, _, rfl, hL.ob, lk_no (by decide +kernel), _, rfl, L, _, b, r, c, _, rfl, hL, hb, by omega, fun H1 f1 hL1 => ?_⟩
        have hb1 := (Fr.kt hL f1) _ _ hb
        refine ⟨_, rfl, L.x, _, _, rfl, hL1.ob, lk_no (by decide +kernel), _, rfl, L, _, b, r, c, _, rfl, hL1, hb1, ?_, fun H2 f2 hL2 => ⟨⟨_, _, _, rfl⟩, f1.trans (Fr.ofBut f2), hL2⟩⟩
        show (s.told ++ [mkT r c "open"]).length < 90000
        rw [List.length_append]
        show s.told.length + 1 < 90000
        omega
      · rw [decide_eq_false (fun z => ho (op_str z)), if_neg ho]
        exact iteF ⟨⟨_, _, _, rfl⟩, Fr.refl _ _, hL⟩
    · rintro σ' H1 ⟨⟨y2, y3, y4, rfl⟩, f1, hL1⟩
      have el : (if s.op = some "text" then s.told ++ [mkT r c "open"] ++ [mkT r c "shut"] else s.told).length ≤ s.told.length + 2 := by
        split
        · simp
        · omega
      unfold endS at q
      generalize (if s.op = some "text" then s.told ++ [mkT r c "open"] ++ [mkT r c "shut"] else s.told) = td at hL1 el q
      obtain ⟨ps, h3, h4⟩ := hL1.pile
      have h4 : Paired (EntT H1) ps s.pile := h4
      refine ⟨_, rfl, L.x, _, _, _, _, rfl, hL1.ob, C, A1 _ (by simp), lk_pile, L.p, rfl, ⟨_, .of h3⟩, ?_⟩
      refine for_list (K := K) (a := L.p) (xs := ps) (fun i σ H' => (∃ y2 y3 y4 : Option V, σ = [some (.ref L.x), some (.ref b), y2, y3, y4]) ∧ But L.t H1 H' ∧ Lay K H' L { s with told := td ++ shuts r c (nB (s.pile.take i)) })
        ⟨⟨_, _, _, rfl⟩, But.refl _ _, ?_⟩ (fun i σ H' _ ⟨_, bt, _⟩ => .of (bt _ _ hL1.tp.symm h3)) ?_ ?_
      · show Lay K H1 L { s with told := td ++ [] }
        rw [List.append_nil]
        exact hL1
      · rintro i x σ H2 hx ⟨⟨z2, z3, z4, rfl⟩, bt, hL2⟩
        obtain ⟨e, he, a, rfl, ha⟩ := L2.paired_get h4 hx
        have hi : i < s.pile.length := (List.getElem?_eq_some_iff.mp he).1
        have ha2 : H2 a = _ := bt _ _ (fun z => hL1.ntT _ (z ▸ ha)) ha
        have hb2 : PlT H2 b r c := (Fr.kt hL (f1.trans (Fr.ofBut bt))) _ _ hb
        refine ⟨a, _, rfl, .of ha2, rfl, _, _, rfl, _, _, rfl, _, _, rfl, rfl, _, rfl, rfl, _, rfl, ?_⟩
        rw [bW_block]
        cases hb0 : e.b with
        | false =>
          refine iteF ⟨⟨_, _, _, rfl⟩, bt, ?_⟩
          rw [nB_take he, hb0]
          exact hL2
        | true =>
          refine iteT ⟨_, rfl, L.x, _, _, rfl, hL2.ob, lk_no (by decide +kernel), _, rfl, L, _, b, r, c, _, rfl, hL2, hb2, ?_, fun H3 f3 hL3 => ⟨⟨_, _, _, rfl⟩, bt.trans f3, ?_⟩⟩
          · show (td ++ shuts r c (nB (s.pile.take i))).length < 90000
            have h6 : nB (s.pile.take i) ≤ (s.pile.take i).length := List.length_filter_le _ _
            have h7 := List.length_take_le' i s.pile
            rw [List.length_append, shuts_len]
            omega
          · rw [nB_take he, hb0]
            have e1 : td ++ shuts r c (nB (s.pile.take i) + (if true = true then 1 else 0)) = td ++ shuts r c (nB (s.pile.take i)) ++ [mkT r c "shut"] := by
              rw [if_pos rfl, shuts_succ, List.append_assoc]
            rw [e1]
            exact hL3
      · rintro σ H2 ⟨⟨z2, z3, z4, rfl⟩, bt, hL2⟩
        rw [show s.pile.take ps.length = s.pile from List.take_of_length_le (by rw [h4.length]; exact Nat.le_refl _)] at hL2
        exact q _ (f1.trans (Fr.ofBut bt)) hL2
def spLayInit (K : PySem.W.Frag) : Sp := fun vs H Q _ => ∃ (x dx : Addr), vs = [.ref x] ∧ H x = some (.ins (He.ga K "Laying") dx []) ∧
  ∀ t p l H', H t = none → H p = none → H l = none → t ≠ p → t ≠ l → p ≠ l → But x H H' → H' x = some (.ins (He.ga K "Laying") dx [(("told" : Str), V.ref t), ("pile", .ref p), ("lets", .ref l), ("opener", .str "text"), ("line", .int 0)]) → H' t = some (.lst []) → H' p = some (.lst []) → H' l = some (.lst []) → Q .non H'
theorem ok_Laying_init (T : Txt K mg) : FnOk P w K mg base (L2.CX P w) 1 (He.ma K (He.ga K "Laying") "__init__") (fdAt K (He.ma K (He.ga K "Laying") "__init__")) ["self"] (spLayInit K) := by
  refine T.d_Laying_init.fn.ok sc_Laying_init (fun vs H Q E h => ?_) (fun cdv A outer s H vs Q E hr h => ?_)
  · obtain ⟨_, _, rfl, _⟩ := h
    rfl
  · obtain ⟨x, dx, rfl, hx, q⟩ := h
    refine ⟨_, PSs.nox (pss_cons (ps_fld (pv 0) (pe_lst pa_nil) rfl)
      (pss_cons (ps_fld (pv 0) (pe_lst pa_nil) rfl)
      (pss_cons (ps_fld (pv 0) (pe_lst pa_nil) rfl)
      (pss_cons (ps_fld (pv 0) pe_str rfl)
      (pss_one (ps_fld (pv 0) pe_int rfl)))))), ?_⟩
    have C := T.cl_Laying
    have A1 := T.na_Laying
    have n1 : ("told" : Str) ≠ "pile" := by decide +kernel
    have n2 : ("told" : Str) ≠ "lets" := by decide +kernel
    have n3 : ("told" : Str) ≠ "opener" := by decide +kernel
    have n4 : ("told" : Str) ≠ "line" := by decide +kernel
    have n5 : ("pile" : Str) ≠ "lets" := by decide +kernel
    have n6 : ("pile" : Str) ≠ "opener" := by decide +kernel
    have n7 : ("pile" : Str) ≠ "line" := by decide +kernel
    have n8 : ("lets" : Str) ≠ "opener" := by decide +kernel
    have n9 : ("lets" : Str) ≠ "line" := by decide +kernel
    have n10 : ("opener" : Str) ≠ "line" := by decide +kernel
    refine ⟨szS (by simp), fun t ht => ⟨_, rfl, x, _, dx, [], rfl, (same_new ht) _ _ hx, C, A1 _ (by simp), by simp, ?_⟩⟩
    have xt : x ≠ t := ne_of_none hx ht
    refine ⟨szS (by simp), fun p hp => ⟨_, rfl, x, _, dx, _, rfl, (same_new hp) _ _ upd_same, C, A1 _ (by simp), (show 1 < 1000 by decide), ?_⟩⟩
    have xp : x ≠ p := fun z => by rw [← z, upd_same] at hp; cases hp
    have tp : t ≠ p := fun z => by rw [← z, upd_ne xt.symm, upd_same] at hp; cases hp
    have hp0 : H p = none := by rw [upd_ne xp.symm, upd_ne tp.symm] at hp; exact hp
    refine ⟨szS (by simp), fun l hl => ⟨_, rfl, x, _, dx, _, rfl, (same_new hl) _ _ upd_same, C, A1 _ (by simp), by rw [show putF "pile" (V.ref p) (putF "told" (V.ref t) []) = [(("told" : Str), V.ref t), ("pile", .ref p)] from putF_skip n1]; exact (show 2 < 1000 by decide), ?_⟩⟩
    rw [show putF "pile" (V.ref p) (putF "told" (V.ref t) []) = [(("told" : Str), V.ref t), ("pile", .ref p)] from putF_skip n1] at hl ⊢
    have xl : x ≠ l := fun z => by rw [← z, upd_same] at hl; cases hl
    have pl : p ≠ l := fun z => by rw [← z, upd_ne xp.symm, upd_same] at hl; cases hl
    have tl' : t ≠ l := fun z => by rw [← z, upd_ne xt.symm, upd_ne tp, upd_ne xt.symm, upd_same] at hl; cases hl
    have hl0 : H l = none := by rw [upd_ne xl.symm, upd_ne pl.symm, upd_ne xl.symm, upd_ne tl'.symm] at hl; exact hl
    have e3 : putF "lets" (V.ref l) [(("told" : Str), V.ref t), ("pile", .ref p)] = [(("told" : Str), V.ref t), ("pile", .ref p), ("lets", .ref l)] := by rw [putF_skip n2, putF_skip n5]; rfl
    have e4 : putF "opener" (V.str "text") [(("told" : Str), V.ref t), ("pile", .ref p), ("lets", .ref l)] = [(("told" : Str), V.ref t), ("pile", .ref p), ("lets", .ref l), ("opener", .str "text")] := by rw [putF_skip n3, putF_skip n6, putF_skip n8]; rfl
    have e5 : putF "line" (V.int 0) [(("told" : Str), V.ref t), ("pile", .ref p), ("lets", .ref l), ("opener", .str "text")] = [(("told" : Str), V.ref t), ("pile", .ref p), ("lets", .ref l), ("opener", .str "text"), ("line", .int 0)] := by rw [putF_skip n4, putF_skip n7, putF_skip n9, putF_skip n10]; rfl
    rw [e3]
    refine ⟨_, rfl, x, _, dx, _, rfl, upd_same, C, A1 _ (by simp), (show 3 < 1000 by decide), ?_⟩
    rw [e4]
    refine ⟨_, rfl, x, _, dx, _, rfl, upd_same, C, A1 _ (by simp), (show 4 < 1000 by decide), ?_⟩
    rw [e5]
    refine q t p l _ ht hp0 hl0 tp tl' pl ?_ upd_same ?_ ?_ ?_
    · intro b o hb ho
      have b1 : b ≠ t := ne_of_none ho ht
      have b2 : b ≠ p := ne_of_none ho hp0
      have b3 : b ≠ l := ne_of_none ho hl0
      rw [upd_ne hb, upd_ne hb, upd_ne hb, upd_ne b3, upd_ne hb, upd_ne b2, upd_ne hb, upd_ne b1]
      exact ho
    · rw [upd_ne xt.symm, upd_ne xt.symm, upd_ne xt.symm, upd_ne tl', upd_ne xt.symm, upd_ne tp, upd_ne xt.symm, upd_same]
    · rw [upd_ne xp.symm, upd_ne xp.symm, upd_ne xp.symm, upd_ne pl, upd_ne xp.symm, upd_same]
    · rw [upd_ne xl.symm, upd_ne xl.symm, upd_ne xl.symm, upd_same]
def spLaid (K : PySem.W.Frag) : Sp := fun vs H Q E => ∃ (a : Addr) (rows : List Str) (e : Option (Nat × Nat)) (ts : List Tk), vs = [.ref a] ∧ SqL K H a (rows.map V.str) ∧ rows.length ≤ 40 ∧ (∀ r ∈ rows, (tl r).length ≤ 300) ∧ LexE 1 rows e ts ∧ (∀ t ∈ ts, t.sort ≠ "mark" ∧ t.word.length ≤ 1000) ∧
  (e = none → ∀ p H' us, H p = none → Same H H' → H' p = some (.lst us) → Paired (TkT H') us (laidS ts) → us.length ≤ 90000 → Q (.ref p) H') ∧
  (∀ q, e = some q → ∀ d H', H d = none → Same H H' → PlaceAt H' d q → E (.ref (He.ga K "NoSign")) (some d) H')
theorem ok_laid (T : Txt K mg) : FnOk P w K mg base (L2.CX P w) 6 (He.ga K "laid") (fdAt K (He.ga K "laid")) ["text"] (spLaid K) := by
  refine T.d_laid.fn.ok sc_laid (fun vs H Q E h => ?_) (fun cdv A outer s H vs Q E hr h => ?_)
  · obtain ⟨_, _, _, _, rfl, _⟩ := h
    rfl
  · obtain ⟨a, rows, err, ts, rfl, hS, hn, hz, hL, hts, q, qe⟩ := h
    refine ⟨_, (pss_cons (ps_set (i := 1) sc_laid.nd rfl (.inl rfl) (pe_make0 T.mk_Laying (ok_Laying_init T) (hr.mono (by decide)) (by rfl) T.g_Laying T.d_Laying_init.b .nil passL))
      (pss_cons (ps_set (i := 2) sc_laid.nd rfl (.inl rfl) (pe_call (ok_lexemes T) (hr.mono (by decide)) (by rfl) T.d_lexemes.g T.d_lexemes.fn.kp T.d_lexemes.b .nil (passes_call (takes_of rfl rfl rfl rfl) (fun _ _ _ _ h => h)) (pa_cons (pv 0) pa_nil)))
      (pss_cons (ps_set (i := 3) sc_laid.nd rfl (.inl rfl) (pe_tup (pa_cons pe_int (pa_cons pe_int pa_nil))))
      (pss_cons (ps_for (passes_of rfl) rfl (pi_list (pv 2)) (pg_name (i := 4) sc_laid.nd rfl (.inl rfl))
        (pss_cons (ps_expr (pe_meth (C := He.ga K "Laying") (pv 1) T.cl_Laying T.d_Laying_take.mt (ok_Laying_take T) (hr.mono (by decide)) T.d_Laying_take.b .nil passL (pa_cons (pv 4) pa_nil)))
      (pss_cons (ps_asg (pv 4) (pg_tup rfl (pgs_cons (pg_tup rfl (pgs_cons (pg_name (i := 5) sc_laid.nd rfl (.inl rfl)) (pgs_cons (pg_name (i := 6) sc_laid.nd rfl (.inl rfl)) pgs_nil))) (pgs_cons (pg_name (i := 7) sc_laid.nd rfl (.inl rfl)) (pgs_cons (pg_name (i := 8) sc_laid.nd rfl (.inl rfl)) pgs_nil)))))
      (pss_one (ps_set (i := 3) sc_laid.nd rfl (.inl rfl) (pe_tup (pa_cons (pv 5) (pa_cons (pe_op op_add (pv 6) (pe_callB call_len_str (by rfl) T.b_len PySem.boot_len (pa_cons (pv 8) pa_nil))) pa_nil))))))))
      (pss_cons (ps_expr (pe_meth (C := He.ga K "Laying") (pv 1) T.cl_Laying T.d_Laying_ends.mt (ok_Laying_ends T) (hr.mono (by decide)) T.d_Laying_ends.b .nil passL (pa_cons (pv 3) pa_nil)))
      (pss_one (ps_ret (pe_fld (pv 1) rfl)))))))), ?_⟩
    have C := T.cl_Laying
    have A1 := T.na_Laying
    intro x dx hx hdx ne
    have s1 : Same H (upd (upd H dx (.own x)) x (.ins (He.ga K "Laying") dx [])) := (same_new hdx).trans (same_new (by rw [upd_ne ne.symm]; exact hx))
    refine ⟨x, dx, rfl, upd_same, fun t p l H1 ht hp hl tp tl' pl bt hx' ht' hp' hl' => ⟨rfl, ?_⟩⟩
    have s2 : Same H H1 := fun b o ho => bt b o (ne_of_none ho hx) (s1 b o ho)
    have ht0 : H t = none := s1.free ht
    have hp0 : H p = none := s1.free hp
    have hl0 : H l = none := s1.free hl
    have hLay : Lay K H1 ⟨x, dx, t, p, l⟩ initS := ⟨hx', ⟨[], ht', .nil⟩, ⟨[], hp', .nil⟩, hl', tp, tl', pl⟩
    refine ⟨_, rfl, a, rows, err, ts, rfl, s2.seq hS, by omega, hz, hL, (fun e0 pf H2 us hpf sm2 hpf2 hpt hul => ?_), fun q' z d H2 hd sm2 hx2 => qe q' z d H2 (s2.free hd) (s2.trans sm2) hx2⟩
    have hLay2 := hLay.same sm2
    have npx : pf ≠ x := (ne_of_none hLay.ob hpf).symm
    have npt : pf ≠ t := (ne_of_none ht' hpf).symm
    have npp : pf ≠ p := (ne_of_none hp' hpf).symm
    have npl : pf ≠ l := (ne_of_none hl' hpf).symm
    have hlen : us.length = ts.length := hpt.length
    refine ⟨szS (by simp), fun p3 hp3 => ?_⟩
    have s3 := same_new (o := HO.tup [V.int 1, V.int 1]) hp3
    refine ⟨_, rfl, pf, rfl, ⟨_, .of (s3 _ _ hpf2)⟩, ?_⟩
    have hLay3 := hLay2.same s3
    have hpf3 := s3 _ _ hpf2
    have hpt3 := pt_same hpt s3
    have hp33 : upd H2 p3 (.tup [V.int 1, V.int 1]) p3 = some (.tup [V.int 1, V.int 1]) := upd_same
    have s03 : Same H (upd H2 p3 (.tup [V.int 1, V.int 1])) := s2.trans (sm2.trans s3)
    generalize upd H2 p3 (.tup [V.int 1, V.int 1]) = H3 at hLay3 hpf3 hpt3 hp33 s03 ⊢
    have hbig : ts.length ≤ 12000 := by omega
    have hfold : ∀ i, i ≤ ts.length → phi ((ts.take i).foldl takeS initS) ≤ 5 * i ∧ ((ts.take i).foldl takeS initS).lets.length ≤ i := fun i => by
      induction i with
      | zero => intro _; exact ⟨Nat.le_refl 0, Nat.le_refl 0⟩
      | succ i ih =>
        intro hi
        obtain ⟨h1, h2⟩ := ih (by omega)
        have hg : ts[i]? = some ts[i] := List.getElem?_eq_getElem (by omega)
        rw [List.take_add_one, hg, List.foldl_append]
        obtain ⟨h3, h4⟩ := phi_take ((ts.take i).foldl takeS initS) ts[i]
        exact ⟨by show phi (takeS _ _) ≤ _; omega, by show (takeS _ _).lets.length ≤ _; omega⟩
    refine for_list (K := K) (a := pf) (xs := us) (fun i σ H' => ∃ (be : Addr) (y4 y5 y6 y7 y8 : Option V), σ = [some (.ref a), some (.ref x), some (.ref pf), some (.ref be), y4, y5, y6, y7, y8] ∧ Fr ⟨x, dx, t, p, l⟩ H3 H' ∧ Lay K H' ⟨x, dx, t, p, l⟩ ((ts.take i).foldl takeS initS) ∧ PlT H' be (endP (ts.take i)).1 (endP (ts.take i)).2)
      ⟨p3, _, _, _, _, _, rfl, Fr.refl _ _, hLay3, hp33⟩ (fun i σ H' _ ⟨_, _, _, _, _, _, _, f, _⟩ => .of (f _ _ npx npt npp npl hpf3)) ?_ ?_
    · rintro i v σ H4 hv ⟨be, y4, y5, y6, y7, y8, rfl, f4, hL4, hbe⟩
      obtain ⟨tk, htk, hvt⟩ := L2.paired_get hpt3 hv
      have hi : i < ts.length := (List.getElem?_eq_some_iff.mp htk).1
      have hv4 := hvt.kt (Fr.kt hLay3 f4)
      obtain ⟨g1, g2⟩ := hfold i (by omega)
      have hI4 := foldS_inv (ts.take i) initS_inv fun t ht => (hts t (List.mem_of_mem_take ht)).1
      have htm := hts tk (List.mem_of_getElem? htk)
      refine ⟨_, rfl, x, _, _, rfl, hL4.ob, lk_no (by decide +kernel), _, rfl, ⟨x, dx, t, p, l⟩, _, v, tk, rfl, hL4, hv4, hI4, by omega, by omega, fun H5 f5 hL5 => ?_⟩
      have f45 := f4.trans f5
      obtain ⟨ta, tb, rfl, hta, htb⟩ := hvt.kt (Fr.kt hLay3 f45)
      refine ⟨_, rfl, ta, _, rfl, .of hta, rfl, _, _, rfl, ⟨tb, _, rfl, .of htb, rfl, _, _, rfl, _, _, rfl, rfl, ?_⟩⟩
      refine ⟨_, _, rfl, _, _, rfl, rfl, ?_⟩
      refine ⟨_, rfl, _, rfl, _, rfl, tk.word, rfl, szS (by omega), _, _, rfl, rfl, szS (by simp), fun p6 hp6 => ?_⟩
      have s6 := same_new (o := HO.tup [V.int (tk.row : Int), V.int ((tk.col : Int) + (tk.word.length : Int))]) hp6
      refine ⟨p6, _, _, _, _, _, rfl, f45.trans (Fr.of s6), ?_, ?_⟩
      · rw [List.take_add_one, htk, List.foldl_append]
        exact hL5.same s6
      · rw [List.take_add_one, htk]
        show PlT _ p6 (endP (ts.take i ++ [tk])).1 (endP (ts.take i ++ [tk])).2
        rw [endP_snoc]
        unfold PlT
        rw [upd_same]
        rfl
    · rintro σ H4 ⟨be, y4, y5, y6, y7, y8, rfl, f4, hL4, hbe⟩
      obtain ⟨g1, g2⟩ := hfold ts.length (Nat.le_refl _)
      rw [hlen] at hL4 hbe
      rw [List.take_length] at hL4 hbe g1
      refine ⟨_, rfl, x, _, _, rfl, hL4.ob, lk_no (by decide +kernel), _, rfl, ⟨x, dx, t, p, l⟩, _, be, _, _, rfl, hL4, hbe, by omega, fun H5 f5 hL5 => ?_⟩
      obtain ⟨us5, h51, h52⟩ := hL5.told
      refine ⟨_, rfl, x, _, _, _, _, rfl, hL5.ob, C, A1 _ (by simp), lk_told, q e0 t H5 us5 ht0 (fun b o ho => (f4.trans f5) b o (ne_of_none ho hx) (ne_of_none ho ht0) (ne_of_none ho hp0) (ne_of_none ho hl0) (s03 b o ho)) h51 h52 ?_⟩
      rw [h52.length]
      show ((if _ then _ else _) ++ shuts _ _ (nB _)).length ≤ 90000
      have h6 : nB (ts.foldl takeS initS).pile ≤ (ts.foldl takeS initS).pile.length := List.length_filter_le _ _
      have h7 : (ts.foldl takeS initS).told.length + (ts.foldl takeS initS).pile.length = phi (ts.foldl takeS initS) := rfl
      rw [List.length_append, shuts_len]
      split
      · simp
        omega
      · omega
end
end Sw
set_option Elab.async false
set_option pp.maxSteps 600
set_option pp.deepTerms false
set_option linter.all false
set_option maxRecDepth 100000
set_option maxHeartbeats 4000000
namespace Sw
open PySem PySem.Spec PyProof.Rows L2 SX
/-! ### the law's own layout -/
structure LW where
  f : Addr
  p : Addr
  l : Addr
def LetL (H : Hp) (told : List Tk) (v : V) (n : Nat) : Prop := ∃ m t, v = .ref m ∧ H m = some (.tup [.int (t.row : Int), .int (t.col : Int)]) ∧ 1 ≤ n ∧ told[n - 1]? = some t ∧ t.sort ≠ "mark"
def EntL (H : Hp) (told : List Tk) (v : V) (e : Ent) : Prop := ∃ a, v = .ref a ∧ ((e.b = false ∧ H a = some (.lst [.str "(", .int 0, .int 0])) ∨
  (e.b = true ∧ ∃ kd m, H a = some (.lst [.str kd, .int (e.col : Int), m]) ∧ kd ≠ "(" ∧ (kd = "let" → ∃ n, e.num = some n ∧ LetL H told m n) ∧ (kd ≠ "let" → e.num = none)))
/-- tuples, and lists of a word, a number and more, stay -/
def KE (H H' : Hp) : Prop := KT H H' ∧ ∀ b k c m, H b = some (.lst [.str k, .int c, m]) → H' b = some (.lst [.str k, .int c, m])
theorem KE.of {H H' : Hp} (h : Same H H') : KE H H' := ⟨.of h, fun b k c m e => h b _ e⟩
theorem KE.trans {H H1 H2 : Hp} (a : KE H H1) (b : KE H1 H2) : KE H H2 := ⟨a.1.trans b.1, fun x k c m e => b.2 x k c m (a.2 x k c m e)⟩
def Refs (us : List V) : Prop := ∀ v ∈ us, ∃ a, v = .ref a
theorem KE.upd {H : Hp} {a : Addr} {us : List V} {o : HO} (h : H a = some (.lst us)) (hr : Refs us) : KE H (upd H a o) := by
  refine ⟨.upd (fun xs z => by rw [h] at z; cases z), fun b k c m e => ?_⟩
  rw [upd_ne (fun z => ?_)]
  · exact e
  · rw [z, h] at e
    have e2 : us = [.str k, .int c, m] := by injection (Option.some.inj e)
    obtain ⟨x, hx⟩ := hr (.str k) (by rw [e2]; simp)
    cases hx
theorem refs_tk {H : Hp} : ∀ {us : List V} {ts : List Tk}, Paired (TkT H) us ts → Refs us
  | _, _, .nil, v, h => by cases h
  | _, _, .cons ⟨a, b, e, _⟩ t, v, h => by
    rcases List.mem_cons.mp h with rfl | h
    · exact ⟨a, e⟩
    · exact refs_tk t v h
theorem refs_en {H : Hp} {td : List Tk} : ∀ {us : List V} {ts : List Ent}, Paired (EntL H td) us ts → Refs us
  | _, _, .nil, v, h => by cases h
  | _, _, .cons ⟨a, e, _⟩ t, v, h => by
    rcases List.mem_cons.mp h with rfl | h
    · exact ⟨a, e⟩
    · exact refs_en t v h
theorem refs_le {H : Hp} {td : List Tk} : ∀ {us : List V} {ts : List Nat}, Paired (LetL H td) us ts → Refs us
  | _, _, .nil, v, h => by cases h
  | _, _, .cons ⟨a, _, e, _⟩ t, v, h => by
    rcases List.mem_cons.mp h with rfl | h
    · exact ⟨a, e⟩
    · exact refs_le t v h
theorem LetL.kt {H H' : Hp} {td : List Tk} {v : V} {n : Nat} (h : LetL H td v n) (k : KT H H') (u : List Tk) : LetL H' (td ++ u) v n := by
  obtain ⟨m, t, h1, h2, h3, h4, h5⟩ := h
  refine ⟨m, t, h1, k _ _ h2, h3, ?_, h5⟩
  rw [List.getElem?_append_left (List.getElem?_eq_some_iff.mp h4).1]
  exact h4
theorem EntL.ke {H H' : Hp} {td : List Tk} {v : V} {e : Ent} (h : EntL H td v e) (k : KE H H') (u : List Tk) : EntL H' (td ++ u) v e := by
  obtain ⟨a, h1, h2⟩ := h
  refine ⟨a, h1, ?_⟩
  rcases h2 with ⟨h2, h3⟩ | ⟨h2, kd, m, h3, h4, h5, h6⟩
  · exact .inl ⟨h2, k.2 _ _ _ _ h3⟩
  · refine .inr ⟨h2, kd, m, k.2 _ _ _ _ h3, h4, fun z => ?_, h6⟩
    obtain ⟨n, h7, h8⟩ := h5 z
    exact ⟨n, h7, h8.kt k.1 u⟩
theorem EntL.ke0 {H H' : Hp} {td : List Tk} {v : V} {e : Ent} (h : EntL H td v e) (k : KE H H') : EntL H' td v e := by
  have := h.ke k []
  rw [List.append_nil] at this
  exact this
structure Lw (H : Hp) (A : LW) (s : LSt) : Prop where
  found : ∃ us, H A.f = some (.lst us) ∧ Paired (TkT H) us s.told
  pile : ∃ ps, H A.p = some (.lst ps) ∧ Paired (EntL H s.told) ps s.pile
  lets : ∃ ls, H A.l = some (.lst ls) ∧ Paired (LetL H s.told) ls s.lets
  fp : A.f ≠ A.p
  fl : A.f ≠ A.l
  pl : A.p ≠ A.l
def Fw (A : LW) (H H' : Hp) : Prop := ∀ b o, b ≠ A.f → b ≠ A.p → b ≠ A.l → H b = some o → H' b = some o
theorem Fw.refl (A : LW) (H : Hp) : Fw A H H := fun _ _ _ _ _ h => h
theorem Fw.trans {A : LW} {H H1 H2 : Hp} (a : Fw A H H1) (b : Fw A H1 H2) : Fw A H H2 := fun x o h1 h2 h3 h => b x o h1 h2 h3 (a x o h1 h2 h3 h)
theorem Fw.of {A : LW} {H H' : Hp} (h : Same H H') : Fw A H H' := fun x o _ _ _ e => h x o e
theorem Fw.updF {A : LW} {H : Hp} {o : HO} : Fw A H (upd H A.f o) := fun b u h1 _ _ e => by rw [upd_ne h1]; exact e
theorem Fw.updP {A : LW} {H : Hp} {o : HO} : Fw A H (upd H A.p o) := fun b u _ h1 _ e => by rw [upd_ne h1]; exact e
theorem Fw.updL {A : LW} {H : Hp} {o : HO} : Fw A H (upd H A.l o) := fun b u _ _ h1 e => by rw [upd_ne h1]; exact e
section
variable {H H' : Hp} {A : LW} {s : LSt}
theorem Lw.same (h : Lw H A s) (e : Same H H') : Lw H' A s := by
  obtain ⟨us, h1, h2⟩ := h.found
  obtain ⟨ps, h3, h4⟩ := h.pile
  obtain ⟨ls, h5, h6⟩ := h.lets
  refine ⟨⟨us, e _ _ h1, pt_same h2 e⟩, ⟨ps, e _ _ h3, h4.mono fun _ _ q => q.ke0 (.of e)⟩, ⟨ls, e _ _ h5, h6.mono fun _ _ q => ?_⟩, h.fp, h.fl, h.pl⟩
  have := q.kt (.of e) []
  rw [List.append_nil] at this
  exact this
theorem Lw.ntF (h : Lw H A s) : ∀ xs, H A.f ≠ some (.tup xs) := fun xs z => by
  obtain ⟨us, h1, _⟩ := h.found
  rw [h1] at z
  cases z
theorem Lw.ntP (h : Lw H A s) : ∀ xs, H A.p ≠ some (.tup xs) := fun xs z => by
  obtain ⟨us, h1, _⟩ := h.pile
  rw [h1] at z
  cases z
theorem Lw.ntL (h : Lw H A s) : ∀ xs, H A.l ≠ some (.tup xs) := fun xs z => by
  obtain ⟨us, h1, _⟩ := h.lets
  rw [h1] at z
  cases z
theorem Fw.kt (h : Lw H A s) (f : Fw A H H') : KT H H' := fun b xs e => f b _ (fun z => h.ntF xs (z ▸ e)) (fun z => h.ntP xs (z ▸ e)) (fun z => h.ntL xs (z ▸ e)) e
theorem Lw.pushF (h : Lw H A s) {us : List V} (hu : H A.f = some (.lst us)) {v : V} {tk : Tk} (hv : TkT H v tk) : Lw (upd H A.f (.lst (us ++ [v]))) A { s with told := s.told ++ [tk] } := by
  obtain ⟨us', h1, h2⟩ := h.found
  obtain ⟨ps, h3, h4⟩ := h.pile
  obtain ⟨ls, h5, h6⟩ := h.lets
  have e : us = us' := by rw [hu] at h1; injection (Option.some.inj h1)
  subst e
  have k := KE.upd (o := HO.lst (us ++ [v])) h1 (refs_tk h2)
  exact ⟨⟨_, upd_same, Paired.snoc (h2.mono fun _ _ q => q.kt k.1) (hv.kt k.1)⟩, ⟨ps, by rw [upd_ne h.fp.symm]; exact h3, h4.mono fun _ _ q => q.ke k _⟩, ⟨ls, by rw [upd_ne h.fl.symm]; exact h5, h6.mono fun _ _ q => q.kt k.1 _⟩, h.fp, h.fl, h.pl⟩
theorem Lw.setP (h : Lw H A s) {ps : List V} {es : List Ent} (hp : Paired (EntL H s.told) ps es) : Lw (upd H A.p (.lst ps)) A { s with pile := es } := by
  obtain ⟨us, h1, h2⟩ := h.found
  obtain ⟨ps', h3, h4⟩ := h.pile
  obtain ⟨ls, h5, h6⟩ := h.lets
  have k := KE.upd (o := HO.lst ps) h3 (refs_en h4)
  refine ⟨⟨us, by rw [upd_ne h.fp]; exact h1, h2.mono fun _ _ q => q.kt k.1⟩, ⟨_, upd_same, hp.mono fun _ _ q => q.ke0 k⟩, ⟨ls, by rw [upd_ne h.pl.symm]; exact h5, h6.mono fun _ _ q => ?_⟩, h.fp, h.fl, h.pl⟩
  have := q.kt k.1 []
  rw [List.append_nil] at this
  exact this
theorem Lw.setL (h : Lw H A s) {ls : List V} {ns : List Nat} (hp : Paired (LetL H s.told) ls ns) : Lw (upd H A.l (.lst ls)) A { s with lets := ns } := by
  obtain ⟨us, h1, h2⟩ := h.found
  obtain ⟨ps, h3, h4⟩ := h.pile
  obtain ⟨ls', h5, h6⟩ := h.lets
  have k := KE.upd (o := HO.lst ls) h5 (refs_le h6)
  refine ⟨⟨us, by rw [upd_ne h.fl]; exact h1, h2.mono fun _ _ q => q.kt k.1⟩, ⟨ps, by rw [upd_ne h.pl]; exact h3, h4.mono fun _ _ q => q.ke0 k⟩, ⟨_, upd_same, hp.mono fun _ _ q => ?_⟩, h.fp, h.fl, h.pl⟩
  have := q.kt k.1 []
  rw [List.append_nil] at this
  exact this
theorem Lw.ops (h : Lw H A s) (op : Option Str) (line : Nat) : Lw H A { s with op := op, line := line } := ⟨h.found, h.pile, h.lets, h.fp, h.fl, h.pl⟩
end
def Aw (A : LW) (H : Hp) (s : LSt) (Q : VK) (v : V) : Prop := ∀ H', Fw A H H' → Lw H' A s → Q v H'
/-- the word at an entry's head -/
theorem EntL.head {H : Hp} {td : List Tk} {v : V} {e : Ent} (h : EntL H td v e) : ∃ a k c m, v = .ref a ∧ H a = some (.lst [.str k, .int c, m]) ∧ decide (V.str k = V.str "(") = !e.b ∧ (e.b = true → c = (e.col : Int)) := by
  obtain ⟨a, h1, h2⟩ := h
  rcases h2 with ⟨h2, h3⟩ | ⟨h2, kd, m, h3, h4, h5, h6⟩
  · exact ⟨a, _, _, _, h1, h3, by rw [h2]; rfl, fun z => by rw [h2] at z; cases z⟩
  · exact ⟨a, _, _, _, h1, h3, by rw [h2, decide_eq_false (fun z => h4 (V.str.inj z))]; rfl, fun _ => rfl⟩
def topB (pile : List Ent) : Option Ent := match pile.getLast? with
  | some e => if e.b = true then some e else none
  | none => none
section
variable {P : Program} {w : World} {K : PySem.W.Frag} {mg : Str → Option Value} {base : Heap}
def spTop : Sp := fun vs H Q _ => ∃ (A : LW) (s : LSt), vs = [.ref A.p] ∧ Lw H A s ∧ (topB s.pile = none → ∀ H', Same H H' → Q .non H') ∧ (∀ e, topB s.pile = some e → ∀ v H', Same H H' → EntL H' s.told v e → Q v H')
theorem ok_L_top (T : Txt K mg) : FnOk P w K mg base (L2.CX P w) 1 (He.ga K "_law_top") (fdAt K (He.ga K "_law_top")) ["_law_pile"] spTop := by
  refine T.d_L_top.fn.ok sc_L_top (fun vs H Q E h => ?_) (fun cdv A outer s H vs Q E hr h => ?_)
  · obtain ⟨_, _, rfl, _⟩ := h
    rfl
  · obtain ⟨A, s, rfl, hL, q1, q2⟩ := h
    refine ⟨_, PSs.nox (pss_cons (ps_if (pw_or (pt_cmpR (op_eqNil (u64 hr)) (pv 0) (pe_lst pa_nil) (nomark _)) (pw_or1 (pt_cmpR op_eq (pe_ix ix_list (pe_ix ix_list (pv 0) (pe_un un_neg pe_int) (fun _ _ => rfl)) pe_int (fun _ _ => rfl)) pe_str (nomark _)))).pt
        (pss_one (ps_ret pe_non))
        pss_nil)
      (pss_one (ps_ret (pe_ix ix_list (pv 0) (pe_un un_neg pe_int) (fun _ _ => rfl))))), ?_⟩
    obtain ⟨ps, h3, h4⟩ := hL.pile
    refine ⟨_, rfl, szS (by simp), fun p2 hp2 => ?_⟩
    have s2 := same_new (o := HO.lst []) hp2
    refine ⟨A.p, p2, ps, rfl, rfl, .of (s2 _ _ h3), .of upd_same, _, rfl, ?_⟩
    have h32 := s2 _ _ h3
    have h42 : Paired (EntL (upd H p2 (.lst [])) s.told) ps s.pile := h4.mono fun _ _ q => q.ke0 (.of s2)
    generalize upd H p2 (.lst []) = H2 at s2 h32 h42 ⊢
    unfold topB at q1 q2
    rcases List.eq_nil_or_concat s.pile with e0 | ⟨es, e, e0⟩
    · rw [e0] at h42 q1
      cases h42
      exact iteT (q1 rfl _ s2)
    · rw [List.concat_eq_append] at e0
      rw [e0] at h42 q1 q2
      rw [show (es ++ [e]).getLast? = some e by rw [List.getLast?_append]; rfl] at q1 q2
      dsimp only at q1 q2
      obtain ⟨ps', v, rfl, h5, h6⟩ := paired_snoc h42
      obtain ⟨a, k, c, m, rfl, ha, hk, _⟩ := h6.head
      rw [show (if false = true then !(ps' ++ [V.ref a]).isEmpty else (ps' ++ [V.ref a]).isEmpty) = false by simp]
      refine iteF ⟨_, rfl, _, rfl, A.p, _, _, _, rfl, rfl, .of h32, atI_last _ _, a, _, 0, _, rfl, rfl, .of ha, rfl, rfl, _, rfl, ?_⟩
      rw [hk]
      cases hb : e.b with
      | false =>
        rw [hb] at q1
        exact iteT (q1 rfl _ s2)
      | true =>
        rw [hb] at q2
        exact iteF ⟨_, rfl, _, rfl, A.p, _, _, _, rfl, rfl, .of h32, atI_last _ _, q2 e rfl _ _ s2 h6⟩
def spShutTo : Sp := fun vs H Q _ => ∃ (A : LW) (s : LSt) (least : Nat) (b : Addr) (r c : Nat), vs = [.ref A.p, .int (least : Int), .ref b, .ref A.f] ∧ Lw H A s ∧ PlT H b r c ∧ least ≤ s.pile.length ∧ phi s + 2 < 90000 ∧ Aw A H { s with told := s.told ++ shuts r c (nB (s.pile.drop least)), pile := s.pile.take least } Q .non
theorem ok_L_shut_to (T : Txt K mg) : FnOk P w K mg base (L2.CX P w) 1 (He.ga K "_law_shut_to") (fdAt K (He.ga K "_law_shut_to")) ["_law_pile", "_law_least", "_law_place", "_law_found"] spShutTo := by
  refine T.d_L_shut_to.fn.ok sc_L_shut_to (fun vs H Q E h => ?_) (fun cdv A outer s H vs Q E hr h => ?_)
  · obtain ⟨_, _, _, _, _, _, rfl, _⟩ := h
    rfl
  · obtain ⟨A, s, least, b, r, c, rfl, hL, hb, hle, hn, q⟩ := h
    refine ⟨_, PSs.nox (pss_one (ps_while PassesOwn.never (pt_cmpR op_gt (pe_callB call_len_seq (by rfl) T.b_len PySem.boot_len (pa_cons (pv 0) pa_nil)) (pv 1) (nomark _))
        (pss_one (ps_if (pt_cmpR op_ne (pe_ix ix_list (pe_bm0 PySem.F.plainAttrs_list PySem.F.slot_list_pop PySem.F.type_list_pop mt_pop (pv 0)) pe_int (fun _ _ => rfl)) pe_str (nomark _))
        (pss_one (ps_expr (pe_bm PySem.F.plainAttrs_list PySem.F.slot_list_append PySem.F.type_list_append mt_append (pv 3) (pa_cons (pe_tup (pa_cons (pv 2) (pa_cons pe_str (pa_cons pe_str pa_nil)))) pa_nil))))
        pss_nil)))), ?_⟩
    have hphi : s.told.length + s.pile.length = phi s := rfl
    refine ⟨fun m σ H' => ∃ k : Nat, σ = [some (.ref A.p), some (.int (least : Int)), some (.ref b), some (.ref A.f)] ∧ Fw A H H' ∧ Lw H' A { s with told := s.told ++ shuts r c (nB (s.pile.drop k)), pile := s.pile.take k } ∧ least ≤ k ∧ k ≤ s.pile.length ∧ m = k,
      ⟨_, s.pile.length, rfl, Fw.refl _ _, ?_, hle, Nat.le_refl _, rfl⟩, ?_⟩
    · rw [List.drop_length, List.take_length]
      show Lw H A { s with told := s.told ++ [] }
      rw [List.append_nil]
      exact hL
    · rintro m σ H1 ⟨k, rfl, f1, hL1, hk1, hk2, rfl⟩
      obtain ⟨ps, h3, h4⟩ := hL1.pile
      have hpl : ps.length = m := by rw [h4.length]; show (s.pile.take m).length = m; rw [List.length_take]; omega
      refine ⟨_, rfl, A.p, ps, rfl, .inl (.of h3), _, rfl, _, _, rfl, rfl, _, rfl, ?_⟩
      by_cases hm : least < m
      · rw [decide_eq_true (show (ps.length : Int) > (least : Int) by omega)]
        obtain ⟨m', rfl⟩ : ∃ m', m = m' + 1 := ⟨m - 1, by omega⟩
        have hg : s.pile[m']? = some s.pile[m'] := List.getElem?_eq_getElem (by omega)
        have htk : s.pile.take (m' + 1) = s.pile.take m' ++ [s.pile[m']] := by rw [List.take_add_one, hg]; rfl
        have hdr : s.pile.drop m' = s.pile[m'] :: s.pile.drop (m' + 1) := List.drop_eq_getElem_cons (by omega)
        have h4' : Paired (EntL H1 (s.told ++ shuts r c (nB (s.pile.drop (m' + 1))))) ps (s.pile.take m' ++ [s.pile[m']]) := by rw [← htk]; exact h4
        generalize s.pile[m'] = e at hg htk hdr h4'
        obtain ⟨ps', v, rfl, h5, h6⟩ := paired_snoc h4'
        obtain ⟨a, kd, cc, mm, rfl, ha, hk, _⟩ := h6.head
        refine iteT ⟨fun σ' H'' => σ' = [some (.ref A.p), some (.int (least : Int)), some (.ref b), some (.ref A.f)] ∧ Fw A H H'' ∧ Lw H'' A { s with told := s.told ++ shuts r c (nB (s.pile.drop m')), pile := s.pile.take m' }, fun σ' H'' hN => ?_, ?_⟩
        · obtain ⟨rfl, f3, hL3⟩ := hN
          exact ⟨m', by omega, m', rfl, f3, hL3, by omega, by omega, rfl⟩
        · refine ⟨_, rfl, .inl ⟨rfl, _, .of h3⟩, A.p, _, _, rfl, rfl, h3, last_get _ _, ?_⟩
          rw [List.dropLast_concat]
          have hL2 := hL1.setP h5
          have k2 := KE.upd (o := HO.lst ps') h3 (refs_en h4)
          have ha2 := k2.2 _ _ _ _ ha
          have f2 : Fw A H (upd H1 A.p (.lst ps')) := f1.trans Fw.updP
          have hb2 : PlT (upd H1 A.p (.lst ps')) b r c := k2.1 _ _ ((Fw.kt hL f1) _ _ hb)
          generalize upd H1 A.p (.lst ps') = H2 at hL2 ha2 f2 hb2 ⊢
          refine ⟨a, _, 0, _, rfl, rfl, .of ha2, rfl, rfl, _, rfl, ?_⟩
          rw [hk]
          cases hb0 : e.b with
          | false =>
            refine iteF ⟨rfl, f2, ?_⟩
            rw [hdr, show nB (e :: s.pile.drop (m' + 1)) = nB (s.pile.drop (m' + 1)) by unfold nB; rw [List.filter_cons_of_neg (by rw [hb0]; decide)]]
            exact hL2
          | true =>
            obtain ⟨us, h7, h8⟩ := hL2.found
            refine iteT ⟨_, rfl, .inl ⟨rfl, _, .of h7⟩, _, rfl, szS (by simp), fun p4 hp4 => ?_⟩
            have s4 := same_new (o := HO.tup [V.ref b, V.str "mark", V.str "shut"]) hp4
            have hul : us.length < 90000 := by
              rw [h8.length]
              show (s.told ++ shuts r c (nB (s.pile.drop (m' + 1)))).length < 90000
              have h9 : nB (s.pile.drop (m' + 1)) ≤ (s.pile.drop (m' + 1)).length := List.length_filter_le _ _
              rw [List.length_drop] at h9
              rw [List.length_append, shuts_len]
              omega
            refine ⟨A.f, us, .ref p4, rfl, rfl, s4 _ _ h7, szL (by omega), rfl, f2.trans ((Fw.of s4).trans Fw.updF), ?_⟩
            have hL5 := (hL2.same s4).pushF (s4 _ _ h7) (tk := mkT r c "shut") ⟨p4, b, rfl, upd_same, s4 _ _ hb2⟩
            have e1 : s.told ++ shuts r c (nB (s.pile.drop m')) = s.told ++ shuts r c (nB (s.pile.drop (m' + 1))) ++ [mkT r c "shut"] := by
              rw [hdr, show nB (e :: s.pile.drop (m' + 1)) = nB (s.pile.drop (m' + 1)) + 1 by unfold nB; rw [List.filter_cons_of_pos (by rw [hb0])]; rfl, shuts_succ, List.append_assoc]
            rw [e1]
            exact hL5
      · rw [decide_eq_false (show ¬ (ps.length : Int) > (least : Int) by omega)]
        have em : m = least := by omega
        rw [em] at hL1
        exact iteF (q _ f1 hL1)
end
end Sw
set_option Elab.async false
set_option pp.maxSteps 600
set_option pp.deepTerms false
set_option linter.all false
set_option maxRecDepth 100000
set_option maxHeartbeats 4000000
namespace Sw
open PySem PySem.Spec PyProof.Rows L2 SX
section
variable {P : Program} {w : World} {K : PySem.W.Frag} {mg : Str → Option Value} {base : Heap}
def spOpens : Sp := fun vs H Q _ => ∃ (A : LW) (s : LSt) (o : Str) (b : Addr) (r c : Nat), vs = [.ref A.p, .ref A.l, .str o, .ref b, .ref A.f] ∧ Lw H A s ∧ PlT H b r c ∧ phi s + 4 < 90000 ∧ s.op = some o ∧ InvS s ∧ Aw A H (openS s r c).1 Q (.bl (openS s r c).2)
theorem ok_L_opens (T : Txt K mg) : FnOk P w K mg base (L2.CX P w) 1 (He.ga K "_law_opens") (fdAt K (He.ga K "_law_opens")) ["_law_pile", "_law_lets", "_law_opener", "_law_place", "_law_found"] spOpens := by
  refine T.d_L_opens.fn.ok sc_L_opens (fun vs H Q E h => ?_) (fun cdv A outer s H vs Q E hr h => ?_)
  · obtain ⟨_, _, _, _, _, _, rfl, _⟩ := h
    rfl
  · obtain ⟨A, s, o, b, r, c, rfl, hL, hb, hn, hop, hI, q⟩ := h
    refine ⟨_, PSs.nox (pss_cons (ps_setLc (i := 5) (own := [("_law_block", 6)]) (g := gName 6) rfl sc_L_opens.nd rfl rfl (sw_true rfl rfl rfl (by decide +kernel)) (pi_list (pv 0)) (blkOk_by (own := [("_law_block", 6)]) (N := ["_law_pile", "_law_lets", "_law_opener", "_law_place", "_law_found", "_law_columns", "_law_block", "_law_mine"]) (sc := defScope s_L_opens) (by decide +kernel)) (fun _ _ _ _ _ => (pg_name (i := 6) sc_L_opens.nd rfl (.inl rfl))) (fun _ _ _ _ _ => pts_one (pt_cmpR op_ne (pe_ix (r := rIxL K) ix_list (pv 6) pe_int (fun _ _ => rfl)) pe_str (nomark _))) (fun _ _ _ _ _ => (pe_ix (r := rIxL K) ix_list (pv 6) pe_int (fun _ _ => rfl))))
      (pss_cons (ps_expr (pe_bm PySem.F.plainAttrs_list PySem.F.slot_list_append PySem.F.type_list_append mt_append (pv 4) (pa_cons (pe_tup (pa_cons (pv 3) (pa_cons pe_str (pa_cons pe_str pa_nil)))) pa_nil)))
      (C8.pss_cut (ps_if (pt_cmpR op_le (pe_ix ix_tup (pv 3) pe_int (fun _ _ => rfl)) (pe_ix ix_list (pe_orT (pv 5) (pe_one (pe_lst (pa_cons pe_int pa_nil)))) (pe_un un_neg pe_int) (fun _ _ => rfl)) (nomark _))
        (pss_cons (ps_expr (pe_bm PySem.F.plainAttrs_list PySem.F.slot_list_append PySem.F.type_list_append mt_append (pv 4) (pa_cons (pe_tup (pa_cons (pv 3) (pa_cons pe_str (pa_cons pe_str pa_nil)))) pa_nil)))
      (pss_one (ps_ret pe_bl)))
        pss_nil)
      (pss_cons (ps_set (i := 7) sc_L_opens.nd rfl (.inl rfl) (pe_tup (pa_cons pe_int (pa_cons pe_int pa_nil))))
      (C8.pss_cut (ps_if (pt_cmpR (op_neNil (u64 hr)) (pv 1) (pe_lst pa_nil) (nomark _))
        (pss_one (ps_set (i := 7) sc_L_opens.nd rfl (.inl rfl) (pe_ix ix_list (pv 1) (pe_un un_neg pe_int) (fun _ _ => rfl))))
        pss_nil)
      (pss_cons (ps_expr (pe_bm PySem.F.plainAttrs_list PySem.F.slot_list_append PySem.F.type_list_append mt_append (pv 0) (pa_cons (pe_lst (pa_cons (pv 2) (pa_cons (pe_ix ix_tup (pv 3) pe_int (fun _ _ => rfl)) (pa_cons (pv 7) pa_nil)))) pa_nil)))
      (pss_one (ps_ret pe_bl)))))))), ?_⟩
    have hphi : s.told.length + s.pile.length = phi s := rfl
    obtain ⟨ps, h3, h4⟩ := hL.pile
    have hpl : ps.length = s.pile.length := h4.length
    refine ⟨_, rfl, A.p, rfl, ⟨_, .of h3⟩, fun D hD => ?_⟩
    refine lc_list (K := K) (a := A.p) (xs := ps) (fun i H' => H' D = some (.lst ((((s.pile.take i).filter (·.b)).map (·.col)).map nV)) ∧ Same H H')
      ⟨upd_same, same_new hD⟩ (fun i H' _ ⟨_, sm⟩ => .of (sm _ _ h3)) ?_ ?_
    · rintro i x H' hx ⟨hD', sm⟩
      obtain ⟨e, he, hx2⟩ := L2.paired_get h4 hx
      obtain ⟨a, k, cc, m, rfl, ha, hk, hcol⟩ := (hx2.ke0 (.of sm)).head
      refine ⟨rfl, _, rfl, a, _, 0, _, rfl, rfl, .of ha, rfl, rfl, _, rfl, ?_⟩
      rw [hk]
      have hi : i < s.pile.length := (List.getElem?_eq_some_iff.mp he).1
      cases hb0 : e.b with
      | true =>
        refine iteT ⟨_, rfl, a, _, 1, _, rfl, rfl, .of ha, rfl, _, hD', ?_, ?_, same_mut sm hD⟩
        · refine szL ?_
          rw [List.length_map, List.length_map]
          have h5 := List.length_filter_le (·.b) (s.pile.take i)
          have h6 := List.length_take_le' i s.pile
          omega
        · rw [upd_same, List.take_add_one, he, hcol hb0]
          simp [hb0, nV]
      | false =>
        refine iteF ⟨?_, sm⟩
        rw [hD', List.take_add_one, he]
        simp [hb0]
    · rintro H1 ⟨hD1, s1⟩
      rw [show s.pile.take ps.length = s.pile from List.take_of_length_le (by omega)] at hD1
      have ec : colOf s.pile = (((s.pile.filter (·.b)).map (·.col)).getLast?).getD 0 := rfl
      generalize (s.pile.filter (·.b)).map (·.col) = cols at hD1 ec
      have hL1 := hL.same s1
      obtain ⟨us, h7, h8⟩ := hL1.found
      have hul : us.length = s.told.length := h8.length
      -- open
      refine ⟨_, rfl, .inl ⟨rfl, _, .of h7⟩, _, rfl, szS (by simp), fun p4 hp4 => ?_⟩
      have s4 := same_new (o := HO.tup [V.ref b, V.str "mark", V.str "open"]) hp4
      have hb1 := s1 _ _ hb
      refine ⟨A.f, us, .ref p4, rfl, rfl, s4 _ _ h7, szL (by omega), ?_⟩
      have nD : D ≠ A.f := fun z => by
        obtain ⟨us0, z1, _⟩ := hL.found
        rw [z, z1] at hD
        cases hD
      have hD2 : upd (upd H1 p4 (.tup [V.ref b, V.str "mark", V.str "open"])) A.f (.lst (us ++ [V.ref p4])) D = some (.lst (cols.map nV)) := by rw [upd_ne nD]; exact s4 _ _ hD1
      have hL2 := (hL1.same s4).pushF (s4 _ _ h7) (tk := mkT r c "open") ⟨p4, b, rfl, upd_same, s4 _ _ hb1⟩
      have f2 : Fw A H (upd (upd H1 p4 (.tup [V.ref b, V.str "mark", V.str "open"])) A.f (.lst (us ++ [V.ref p4]))) := (Fw.of s1).trans ((Fw.of s4).trans Fw.updF)
      generalize upd (upd H1 p4 (.tup [V.ref b, V.str "mark", V.str "open"])) A.f (.lst (us ++ [V.ref p4])) = H2 at hD2 hL2 f2 ⊢
      have hb2 : PlT H2 b r c := (Fw.kt hL f2) _ _ hb
      have sh : c ≤ colOf s.pile → ∀ H3, Same H2 H3 → ∃ us, H3 A.f = some (.lst us) ∧ us.length < 90000 ∧ ∀ p6, H3 p6 = none → Q (.bl false) (upd (upd H3 p6 (.tup [V.ref b, V.str "mark", V.str "shut"])) A.f (.lst (us ++ [V.ref p6]))) := fun hc H3 s3 => by
        have hL3 := hL2.same s3
        obtain ⟨us3, h73, h83⟩ := hL3.found
        refine ⟨us3, h73, ?_, fun p6 hp6 => ?_⟩
        · rw [h83.length]
          show (s.told ++ [mkT r c "open"]).length < 90000
          rw [List.length_append]
          show s.told.length + 1 < 90000
          omega
        · have s6 := same_new (o := HO.tup [V.ref b, V.str "mark", V.str "shut"]) hp6
          have eo : openS s r c = ({ s with told := s.told ++ [mkT r c "open"] ++ [mkT r c "shut"], op := none }, false) := if_pos hc
          rw [eo] at q
          exact q _ (f2.trans ((Fw.of s3).trans ((Fw.of s6).trans Fw.updF))) (((hL3.same s6).pushF (s6 _ _ h73) (tk := mkT r c "shut") ⟨p6, b, rfl, upd_same, s6 _ _ (s3 _ _ hb2)⟩).ops none s.line)
      refine ⟨fun σ' H' => (∃ y6 y7 : Option V, σ' = [some (.ref A.p), some (.ref A.l), some (.str o), some (.ref b), some (.ref A.f), some (.ref D), y6, y7]) ∧ ¬ c ≤ colOf s.pile ∧ Same H2 H', ?_, ?_⟩
      · refine ⟨_, rfl, b, _, _, _, rfl, rfl, .of hb2, rfl, _, rfl, _, .inl ⟨_, .of hD2, rfl⟩, ?_⟩
        rcases List.eq_nil_or_concat cols with rfl | ⟨l, z, rfl⟩
        · refine iteF ⟨szS (by simp), fun p5 hp5 => ⟨_, rfl, p5, _, _, _, rfl, rfl, .of upd_same, rfl, _, _, rfl, rfl, _, rfl, ?_⟩⟩
          have s5 := same_new (o := HO.lst [V.int 0]) hp5
          have e0 : colOf s.pile = 0 := ec
          by_cases hc : c ≤ colOf s.pile
          · rw [decide_eq_true (show (c : Int) ≤ 0 by omega)]
            obtain ⟨us3, g1, g2, g3⟩ := sh hc _ s5
            refine iteT ⟨_, rfl, .inl ⟨rfl, _, .of g1⟩, _, rfl, szS (by simp), fun p6 hp6 => ⟨A.f, us3, _, rfl, rfl, (same_new hp6) _ _ g1, szL (by omega), g3 p6 hp6⟩⟩
          · rw [decide_eq_false (show ¬ (c : Int) ≤ 0 by omega)]
            exact iteF ⟨⟨_, _, rfl⟩, hc, s5⟩
        · rw [List.concat_eq_append] at hD2 ec ⊢
          rw [show (!(List.map nV (l ++ [z])).isEmpty) = true by rw [List.map_append]; simp]
          have e0 : colOf s.pile = z := by rw [ec, List.getLast?_append]; rfl
          refine iteT ⟨_, rfl, D, _, _, nV z, rfl, rfl, .of hD2, by rw [List.map_append]; exact atI_last _ _, _, _, rfl, rfl, _, rfl, ?_⟩
          by_cases hc : c ≤ colOf s.pile
          · rw [decide_eq_true (show (c : Int) ≤ (z : Int) by omega)]
            obtain ⟨us3, g1, g2, g3⟩ := sh hc _ (Same.refl _)
            refine iteT ⟨_, rfl, .inl ⟨rfl, _, .of g1⟩, _, rfl, szS (by simp), fun p6 hp6 => ⟨A.f, us3, _, rfl, rfl, (same_new hp6) _ _ g1, szL (by omega), g3 p6 hp6⟩⟩
          · rw [decide_eq_false (show ¬ (c : Int) ≤ (z : Int) by omega)]
            exact iteF ⟨⟨_, _, rfl⟩, hc, Same.refl _⟩
      · rintro σ' H3 ⟨⟨y6, y7, rfl⟩, hc, s3⟩
        have eo : openS s r c = ({ s with told := s.told ++ [mkT r c "open"], pile := s.pile ++ [⟨true, c, if s.op = some "let" then s.lets.getLast? else none⟩], op := none }, true) := if_neg hc
        rw [eo] at q
        have hL3 := hL2.same s3
        have f3 := f2.trans (Fw.of (A := A) s3)
        refine ⟨szS (by simp), fun p7 hp7 => ?_⟩
        have s7 := same_new (o := HO.tup [V.int 0, V.int 0]) hp7
        have hL7 := hL3.same s7
        have f7 := f3.trans (Fw.of (A := A) s7)
        generalize upd H3 p7 (.tup [V.int 0, V.int 0]) = H7 at hL7 f7 ⊢
        refine ⟨fun σ' H' => (∃ (y6 : Option V) (mv : V), σ' = [some (.ref A.p), some (.ref A.l), some (.str o), some (.ref b), some (.ref A.f), some (.ref D), y6, some mv] ∧ ∀ n, s.lets.getLast? = some n → LetL H' (s.told ++ [mkT r c "open"]) mv n) ∧ Same H7 H', ?_, ?_⟩
        · obtain ⟨ls, g1, g2⟩ := hL7.lets
          have g2 : Paired (LetL H7 (s.told ++ [mkT r c "open"])) ls s.lets := g2
          refine ⟨_, rfl, szS (by simp), fun p8 hp8 => ?_⟩
          have s8 := same_new (o := HO.lst []) hp8
          refine ⟨A.l, p8, ls, rfl, rfl, .of (s8 _ _ g1), .of upd_same, _, rfl, ?_⟩
          rcases List.eq_nil_or_concat s.lets with e0 | ⟨l, z, e0⟩
          · rw [e0] at g2
            cases g2
            refine iteF ⟨⟨_, _, rfl, fun n z => ?_⟩, s8⟩
            rw [e0] at z
            cases z
          · rw [List.concat_eq_append] at e0
            rw [e0] at g2
            obtain ⟨ls', v, rfl, _, g5⟩ := paired_snoc g2
            rw [show (if true = true then !(ls' ++ [v]).isEmpty else (ls' ++ [v]).isEmpty) = true by simp]
            refine iteT ⟨_, rfl, _, rfl, A.l, _, _, _, rfl, rfl, .of (s8 _ _ g1), atI_last _ _, ⟨_, _, rfl, fun n hn => ?_⟩, s8⟩
            rw [e0, List.getLast?_append] at hn
            cases hn
            have := g5.kt (.of s8) []
            rw [List.append_nil] at this
            exact this
        · rintro σ' H8 ⟨⟨y6', mv, rfl, hmv⟩, s8⟩
          have hL8 := hL7.same s8
          have f8 := f7.trans (Fw.of (A := A) s8)
          have hb8 : PlT H8 b r c := (Fw.kt hL f8) _ _ hb
          obtain ⟨ps8, g1, g2⟩ := hL8.pile
          have g2 : Paired (EntL H8 (s.told ++ [mkT r c "open"])) ps8 s.pile := g2
          have hpl8 : ps8.length = s.pile.length := g2.length
          refine ⟨_, rfl, .inl ⟨rfl, _, .of g1⟩, _, rfl, _, rfl, b, _, _, _, rfl, rfl, .of hb8, rfl, _, rfl, szS (by simp), fun p9 hp9 => ?_⟩
          have s9 := same_new (o := HO.lst [V.str o, V.int (c : Int), mv]) hp9
          refine ⟨A.p, ps8, .ref p9, rfl, rfl, s9 _ _ g1, szL (by omega), ?_⟩
          have hL9 := hL8.same s9
          obtain ⟨ps9, k1, k2⟩ := hL9.pile
          have ep : ps9 = ps8 := by rw [s9 _ _ g1] at k1; injection (Option.some.inj k1) with k1; exact k1.symm
          rw [ep] at k2
          have ho3 := hI.ops o hop
          have hne : o ≠ "(" := by rcases ho3 with rfl | rfl | rfl <;> decide +kernel
          have hent : EntL (upd H8 p9 (.lst [V.str o, V.int (c : Int), mv])) (s.told ++ [mkT r c "open"]) (.ref p9) ⟨true, c, if s.op = some "let" then s.lets.getLast? else none⟩ := by
            refine ⟨p9, rfl, .inr ⟨rfl, o, mv, upd_same, hne, fun z => ?_, fun z => ?_⟩⟩
            · have hl : s.op = some ("let" : Str) := by rw [hop, z]
              obtain ⟨n, g3, _⟩ := hI.op hl
              refine ⟨n, (if_pos hl).trans g3, ?_⟩
              have := (hmv n g3).kt (.of s9) []
              rw [List.append_nil] at this
              exact this
            · exact if_neg (fun y => z (by rw [hop] at y; exact Option.some.inj y))
          exact q _ (f8.trans ((Fw.of s9).trans Fw.updP)) ((hL9.setP (Paired.snoc k2 hent)).ops none s.line)
end
end Sw
set_option Elab.async false
set_option pp.maxSteps 600
set_option pp.deepTerms false
set_option linter.all false
set_option maxRecDepth 100000
set_option maxHeartbeats 4000000
namespace Sw
open PySem PySem.Spec PyProof.Rows L2 SX
theorem topB_nil : topB [] = none := rfl
theorem topB_rev {e : Ent} {r : List Ent} : topB (e :: r).reverse = if e.b = true then some e else none := by
  unfold topB
  rw [List.reverse_cons, List.getLast?_append]
  rfl
theorem topIs_B (pile : List Ent) (c : Nat) : topIs pile c = match topB pile with | some e => decide (e.col = c) | none => false := by
  unfold topIs topB
  cases pile.getLast? with
  | none => rfl
  | some e =>
    dsimp only
    cases e.b <;> rfl
theorem topB_b {pile : List Ent} {e : Ent} (h : topB pile = some e) : e.b = true := by
  unfold topB at h
  split at h
  · split at h
    · rename_i hb
      cases h
      exact hb
    · cases h
  · cases h
section
variable {P : Program} {w : World} {K : PySem.W.Frag} {mg : Str → Option Value} {base : Heap}
def spBegins : Sp := fun vs H Q _ => ∃ (A : LW) (s : LSt) (b : Addr) (r c : Nat) (wd : Str), vs = [.ref A.p, .ref b, .str wd, .ref A.f] ∧ Lw H A s ∧ PlT H b r c ∧ phi s + 4 < 90000 ∧ Aw A H (lineS s r c wd) Q .non
theorem ok_L_begins (T : Txt K mg) : FnOk P w K mg base (L2.CX P w) 2 (He.ga K "_law_begins") (fdAt K (He.ga K "_law_begins")) ["_law_pile", "_law_place", "_law_said", "_law_found"] spBegins := by
  refine T.d_L_begins.fn.ok sc_L_begins (fun vs H Q E h => ?_) (fun cdv A outer s H vs Q E hr h => ?_)
  · obtain ⟨_, _, _, _, _, _, rfl, _⟩ := h
    rfl
  · obtain ⟨A, s, b, r, c, wd, rfl, hL, hb, hn, q⟩ := h
    refine ⟨_, PSs.nox (C8.pss_cut (ps_while PassesOwn.never (pw_and (pt_cmpR op_notN (pe_call (ok_L_top T) (hr.mono (by decide)) (by rfl) T.d_L_top.g T.d_L_top.fn.kp T.d_L_top.b .nil passL (pa_cons (pv 0) pa_nil)) pe_non (nomark _)) (pw_and1 (pt_cmpR op_gt (pe_ix ix_list (pe_call (ok_L_top T) (hr.mono (by decide)) (by rfl) T.d_L_top.g T.d_L_top.fn.kp T.d_L_top.b .nil passL (pa_cons (pv 0) pa_nil)) pe_int (fun _ _ => rfl)) (pe_ix ix_tup (pv 1) pe_int (fun _ _ => rfl)) (nomark _)))).pt
        (pss_cons (ps_expr (pe_bm0 PySem.F.plainAttrs_list PySem.F.slot_list_pop PySem.F.type_list_pop mt_pop (pv 0)))
      (pss_one (ps_expr (pe_bm PySem.F.plainAttrs_list PySem.F.slot_list_append PySem.F.type_list_append mt_append (pv 3) (pa_cons (pe_tup (pa_cons (pv 1) (pa_cons pe_str (pa_cons pe_str pa_nil)))) pa_nil))))))
      (pss_cons (ps_set (i := 4) sc_L_begins.nd rfl (.inl rfl) (pe_call (ok_L_top T) (hr.mono (by decide)) (by rfl) T.d_L_top.g T.d_L_top.fn.kp T.d_L_top.b .nil passL (pa_cons (pv 0) pa_nil)))
      (pss_one (ps_if (pw_and (pt_cmpR op_notN (pv 4) pe_non (nomark _)) (pw_and (pt_cmpR op_eq (pe_ix ix_list (pv 4) pe_int (fun _ _ => rfl)) (pe_ix ix_tup (pv 1) pe_int (fun _ _ => rfl)) (nomark _)) (pw_and1 (pt_cmpR op_notIn_seq (pv 2) (pe_lst (pa_cons pe_str (pa_cons pe_str (pa_cons pe_str (pa_cons pe_str (pa_cons pe_str (pa_cons pe_str pa_nil))))))) rfl)))).pt
        (pss_one (ps_expr (pe_bm PySem.F.plainAttrs_list PySem.F.slot_list_append PySem.F.type_list_append mt_append (pv 3) (pa_cons (pe_tup (pa_cons (pv 1) (pa_cons pe_str (pa_cons pe_str pa_nil)))) pa_nil))))
        pss_nil)))), ?_⟩
    have hphi : s.told.length + s.pile.length = phi s := rfl
    refine ⟨fun σ' H' => σ' = [some (.ref A.p), some (.ref b), some (.str wd), some (.ref A.f), none] ∧ Fw A H H' ∧ Lw H' A (popS s r c (nlR c s.pile.reverse)), ?_, ?_⟩
    · refine ⟨fun m σ H' => ∃ (k : Nat) (rest : List Ent), σ = [some (.ref A.p), some (.ref b), some (.str wd), some (.ref A.f), none] ∧ Fw A H H' ∧ Lw H' A (popS s r c (k, rest)) ∧ nlR c s.pile.reverse = (k + (nlR c rest).1, (nlR c rest).2) ∧ k + rest.length = s.pile.length ∧ m = rest.length,
        ⟨_, 0, s.pile.reverse, rfl, Fw.refl _ _, ?_, by simp, by simp, rfl⟩, ?_⟩
      · show Lw H A { s with told := s.told ++ [], pile := s.pile.reverse.reverse }
        rw [List.append_nil, List.reverse_reverse]
        exact hL
      · rintro m σ H' ⟨k, rest, rfl, f1, hL1, hnl, hlen, rfl⟩
        refine ⟨_, rfl, A, _, rfl, hL1, fun hno H2 s2 => ?_, fun e he v H2 s2 hv => ?_⟩
        · refine ⟨rfl, _, rfl, iteF ⟨rfl, f1.trans (Fw.of s2), ?_⟩⟩
          have hL2 := hL1.same s2
          have hno : topB rest.reverse = none := hno
          rw [hnl]
          cases rest with
          | nil => exact hL2
          | cons e rest =>
            rw [topB_rev] at hno
            have hb0 : ¬ e.b = true := fun z => by rw [if_pos z] at hno; cases hno
            rw [nlR_stop (fun z => hb0 z.1)]
            exact hL2
        · have he : topB rest.reverse = some e := he
          cases rest with
          | nil => cases he
          | cons e' rest =>
            rw [topB_rev] at he
            have hb0 : e'.b = true := by
              cases hb1 : e'.b with
              | true => rfl
              | false => rw [hb1] at he; cases he
            rw [if_pos hb0] at he
            cases he
            obtain ⟨a, kd, cc, mm, rfl, ha, hk, hcol⟩ := hv.head
            refine ⟨rfl, _, rfl, iteT ?_⟩
            have hL2 := hL1.same s2
            refine ⟨_, rfl, A, _, rfl, hL2, fun hno => ?_, fun e2 he2 v2 H3 s3 hv2 => ?_⟩
            · have hno : topB (e :: rest).reverse = none := hno
              rw [topB_rev, if_pos hb0] at hno
              cases hno
            · have he2 : topB (e :: rest).reverse = some e2 := he2
              rw [topB_rev, if_pos hb0] at he2
              cases he2
              obtain ⟨a2, kd2, cc2, mm2, rfl, ha2, hk2, hcol2⟩ := hv2.head
              have f3 := f1.trans ((Fw.of (A := A) s2).trans (Fw.of s3))
              have hb3 : PlT H3 b r c := (Fw.kt hL f3) _ _ hb
              have hL3 := hL2.same s3
              refine ⟨a2, _, 1, _, rfl, rfl, .of ha2, rfl, _, rfl, b, _, 1, _, rfl, rfl, .of hb3, rfl, _, _, rfl, rfl, _, rfl, ?_⟩
              rw [hcol2 hb0]
              by_cases hc : c < e.col
              · rw [decide_eq_true (show (e.col : Int) > (c : Int) by omega)]
                refine iteT ⟨fun σ' H'' => σ' = [some (.ref A.p), some (.ref b), some (.str wd), some (.ref A.f), none] ∧ Fw A H H'' ∧ Lw H'' A (popS s r c (k + 1, rest)), fun σ' H'' hN => ?_, ?_⟩
                · obtain ⟨rfl, f4, hL4⟩ := hN
                  refine ⟨rest.length, by simp, k + 1, rest, rfl, f4, hL4, ?_, by simp at hlen; omega, rfl⟩
                  rw [hnl, nlR_go ⟨hb0, hc⟩]
                  simp
                  omega
                · obtain ⟨ps, h3, h4⟩ := hL3.pile
                  have h4' : Paired (EntL H3 (s.told ++ shuts r c k)) ps (rest.reverse ++ [e]) := by rw [← List.reverse_cons]; exact h4
                  obtain ⟨ps', v, rfl, h5, h6⟩ := paired_snoc h4'
                  refine ⟨_, rfl, .inl ⟨rfl, _, .of h3⟩, A.p, _, _, rfl, rfl, h3, last_get _ _, ?_⟩
                  rw [List.dropLast_concat]
                  have hL4 := hL3.setP h5
                  have f4 : Fw A H (upd H3 A.p (.lst ps')) := f3.trans Fw.updP
                  generalize upd H3 A.p (.lst ps') = H4 at hL4 f4 ⊢
                  have hb4 : PlT H4 b r c := (Fw.kt hL f4) _ _ hb
                  obtain ⟨us, h7, h8⟩ := hL4.found
                  have hul : us.length < 90000 := by
                    rw [h8.length]
                    show (s.told ++ shuts r c k).length < 90000
                    simp only [List.length_cons] at hlen
                    rw [List.length_append, shuts_len]
                    omega
                  refine ⟨_, rfl, .inl ⟨rfl, _, .of h7⟩, _, rfl, szS (by simp), fun p5 hp5 => ?_⟩
                  have s5 := same_new (o := HO.tup [V.ref b, V.str "mark", V.str "shut"]) hp5
                  refine ⟨A.f, us, .ref p5, rfl, rfl, s5 _ _ h7, szL (by omega), rfl, f4.trans ((Fw.of s5).trans Fw.updF), ?_⟩
                  have hL5 := (hL4.same s5).pushF (s5 _ _ h7) (tk := mkT r c "shut") ⟨p5, b, rfl, upd_same, s5 _ _ hb4⟩
                  have e1 : (popS s r c (k + 1, rest)) = { popS s r c (k, e :: rest) with told := (popS s r c (k, e :: rest)).told ++ [mkT r c "shut"], pile := rest.reverse } := by
                    unfold popS
                    rw [shuts_succ, List.append_assoc]
                  rw [e1]
                  exact hL5
              · rw [decide_eq_false (show ¬ (e.col : Int) > (c : Int) by omega)]
                refine iteF ⟨rfl, f3, ?_⟩
                rw [hnl, nlR_stop (fun z => hc z.2)]
                exact hL3
    · rintro σ' H1 ⟨rfl, f1, hL1⟩
      have hsz : phi (popS s r c (nlR c s.pile.reverse)) ≤ phi s := phi_pop (nlR_pops c _)
      have eS : lineS s r c wd = itemS (popS s r c (nlR c s.pile.reverse)) r c wd := rfl
      rw [eS] at q
      generalize popS s r c (nlR c s.pile.reverse) = s1 at hL1 q hsz
      have hp1 : s1.told.length + s1.pile.length = phi s1 := rfl
      have ti := topIs_B s1.pile c
      refine ⟨_, rfl, A, _, rfl, hL1, fun hno H2 s2 => ?_, fun e he v H2 s2 hv => ?_⟩
      · rw [hno] at ti
        rw [show itemS s1 r c wd = s1 from if_neg (fun z => by rw [ti] at z; cases z.1)] at q
        exact ⟨_, rfl, rfl, _, rfl, iteF (q _ (f1.trans (Fw.of s2)) (hL1.same s2))⟩
      · rw [he] at ti
        dsimp only at ti
        have hb0 := topB_b he
        obtain ⟨a, kd, cc, mm, rfl, ha, hk, hcol⟩ := hv.head
        have f2 := f1.trans (Fw.of (A := A) s2)
        have hL2 := hL1.same s2
        have hb2 : PlT H2 b r c := (Fw.kt hL f2) _ _ hb
        refine ⟨_, rfl, rfl, _, rfl, iteT ⟨_, rfl, a, _, 1, _, rfl, rfl, .of ha, rfl, _, rfl, b, _, 1, _, rfl, rfl, .of hb2, rfl, rfl, _, rfl, ?_⟩⟩
        rw [hcol hb0]
        by_cases hc : e.col = c
        · rw [decide_eq_true (show V.int (e.col : Int) = V.int (c : Int) by rw [hc])]
          rw [decide_eq_true hc] at ti
          refine iteT ⟨_, rfl, szS (by simp), fun p3 hp3 => ?_⟩
          have s3 := same_new (o := HO.lst (UNM.map V.str)) hp3
          refine ⟨p3, UNM.map V.str, rfl, .inl (.of upd_same), rfl, rfl, _, rfl, ?_⟩
          have hin : (if true = true then !inV (.str wd) (UNM.map V.str) else inV (.str wd) (UNM.map V.str)) = (!decide (wd ∈ UNM)) := by rw [in_strs]; rfl
          rw [hin]
          have f3 := f2.trans (Fw.of (A := A) s3)
          have hL3 := hL2.same s3
          have hb3 := s3 _ _ hb2
          by_cases hm : wd ∈ UNM
          · rw [decide_eq_true hm]
            rw [show itemS s1 r c wd = s1 from if_neg (fun z => z.2 hm)] at q
            exact iteF (q _ f3 hL3)
          · rw [decide_eq_false hm]
            rw [show itemS s1 r c wd = { s1 with told := s1.told ++ [mkT r c "item"] } from if_pos ⟨ti, hm⟩] at q
            obtain ⟨us, h7, h8⟩ := hL3.found
            have hul : us.length = s1.told.length := h8.length
            refine iteT ⟨_, rfl, .inl ⟨rfl, _, .of h7⟩, _, rfl, szS (by simp), fun p5 hp5 => ?_⟩
            have s5 := same_new (o := HO.tup [V.ref b, V.str "mark", V.str "item"]) hp5
            exact ⟨A.f, us, .ref p5, rfl, rfl, s5 _ _ h7, szL (by omega), q _ (f3.trans ((Fw.of s5).trans Fw.updF)) ((hL3.same s5).pushF (s5 _ _ h7) (tk := mkT r c "item") ⟨p5, b, rfl, upd_same, s5 _ _ hb3⟩)⟩
        · rw [decide_eq_false (fun z => hc (by have := V.int.inj z; omega))]
          rw [decide_eq_false hc] at ti
          rw [show itemS s1 r c wd = s1 from if_neg (fun z => by rw [ti] at z; cases z.1)] at q
          exact iteF (q _ f2 hL2)
end
end Sw
set_option Elab.async false
set_option pp.maxSteps 600
set_option pp.deepTerms false
set_option linter.all false
set_option maxRecDepth 100000
set_option maxHeartbeats 4000000
namespace Sw
open PySem PySem.Spec PyProof.Rows L2 SX
/-- no two lexemes at one place -/
def PlI (td : List Tk) : Prop := ∀ (i j : Nat) (t u : Tk), td[i]? = some t → td[j]? = some u → t.sort ≠ "mark" → u.sort ≠ "mark" → t.row = u.row → t.col = u.col → i = j
/-- an entry beside a let: its word, and whether it's this let's -/
theorem EntL.isLet {H : Hp} {td : List Tk} {v : V} {e : Ent} {n : Nat} {t : Tk} (h : EntL H td v e) (hi : PlI td) (h1 : 1 ≤ n) (ht : td[n - 1]? = some t) (hs : t.sort ≠ "mark") :
    ∃ a k c m, v = .ref a ∧ H a = some (.lst [.str k, .int c, m]) ∧ ((k ≠ "let" ∧ pOf n e = false) ∨ (k = "let" ∧ ∃ (b : Addr) (u : Tk), m = .ref b ∧ H b = some (.tup [.int (u.row : Int), .int (u.col : Int)]) ∧ pOf n e = (decide (u.row = t.row) && decide (u.col = t.col)))) := by
  obtain ⟨a, e1, h2⟩ := h
  rcases h2 with ⟨h2, h3⟩ | ⟨h2, kd, m, h3, h4, h5, h6⟩
  · exact ⟨a, _, _, _, e1, h3, .inl ⟨by decide +kernel, by unfold pOf; rw [h2]; rfl⟩⟩
  · refine ⟨a, _, _, _, e1, h3, ?_⟩
    by_cases hk : kd = "let"
    · obtain ⟨n', h7, b, u, h8, h9, h10, h11, h12⟩ := h5 hk
      refine .inr ⟨hk, b, u, h8, h9, ?_⟩
      unfold pOf
      rw [h2, h7, Bool.true_and]
      by_cases hn : n' = n
      · subst hn
        rw [h11] at ht
        cases ht
        simp
      · rw [decide_eq_false (fun z => hn (Option.some.inj z))]
        symm
        rw [Bool.and_eq_false_iff, decide_eq_false_iff_not, decide_eq_false_iff_not]
        by_cases hr : u.row = t.row
        · right
          intro hc
          have := hi _ _ _ _ h11 ht h12 hs hr hc
          omega
        · exact .inl hr
    · refine .inl ⟨hk, ?_⟩
      unfold pOf
      rw [h6 hk]
      simp
theorem eqv_place (r c r' c' : Nat) : PyData.eqv (.tuple [.int (r : Int), .int (c : Int)]) (.tuple [.int (r' : Int), .int (c' : Int)]) = (decide (r = r') && decide (c = c')) := by
  show (((r : Int) == (r' : Int)) && (((c : Int) == (c' : Int)) && true)) = _
  have h : ∀ a b : Nat, ((a : Int) == (b : Int)) = decide (a = b) := fun a b => by
    by_cases h : a = b
    · rw [h]
      simp
    · rw [decide_eq_false h]
      exact beq_eq_false_iff_ne.mpr (fun z => h (by omega))
  rw [h, h, Bool.and_true]
theorem shp_place (r c : Nat) : SeqAt.shaped (.tuple [.int (r : Int), .int (c : Int)]) = true := by
  show (PyData.canLay0 (.tuple [.int (r : Int), .int (c : Int)]) && decide (PyData.depth (.tuple [.int (r : Int), .int (c : Int)]) ≤ 64)) = true
  rw [Bool.and_eq_true, decide_eq_true_iff]
  refine ⟨by simp [PyData.canLay0, PyData.canLayAll0], ?_⟩
  simp only [PyData.depth, PyData.depthAll]
  omega
theorem last_ix {n : Nat} {pile : List Ent} {l : List Nat} {i : Nat} (h : ixs n pile pile.length = l ++ [i]) : i ∈ ixs n pile pile.length := by rw [h]; simp
def HdL (v : V) (e : Ent) : Prop := ∃ k : Str, v = .str k ∧ decide (V.str k = V.str "(") = !e.b
theorem inPar : ∀ {ws : List V} {es : List Ent}, Paired HdL ws es → inV (V.str "(") ws = es.any fun e => !e.b
  | _, _, .nil => rfl
  | _, _, .cons ⟨k, rfl, hk⟩ t => by
    have ih := inPar t
    show (eqV (V.str k) (V.str "(") || inV _ _) = (!_ || _)
    rw [ih, ← hk]
    congr 1
    show (k == ("(" : Str)) = _
    by_cases h : k = "("
    · rw [h, decide_eq_true rfl]
      exact beq_self_eq_true _
    · rw [decide_eq_false (fun z => h (V.str.inj z))]
      exact beq_eq_false_iff_ne.mpr h
theorem flat_hd : ∀ {ws : List V} {es : List Ent}, Paired HdL ws es → ws.all flatV = true
  | _, _, .nil => rfl
  | _, _, .cons ⟨k, e, _⟩ t => by
    rw [List.all_cons, flat_hd t, e]
    rfl
theorem nB_all : ∀ {l : List Ent}, (∀ x ∈ l, x.b = true) → nB l = l.length
  | [], _ => rfl
  | x :: l, h => by
    have := nB_all (l := l) fun y hy => h y (List.mem_cons_of_mem _ hy)
    unfold nB at this ⊢
    rw [List.filter_cons_of_pos (h x (List.mem_cons_self ..)), List.length_cons, this, List.length_cons]
section
variable {P : Program} {w : World} {K : PySem.W.Frag} {mg : Str → Option Value} {base : Heap}
def spIn : Sp := fun vs H Q _ => ∃ (A : LW) (s : LSt) (b : Addr) (r c : Nat), vs = [.ref A.p, .ref A.l, .ref b, .ref A.f] ∧ Lw H A s ∧ PlT H b r c ∧ phi s + 4 < 90000 ∧ (nums s.pile).Nodup ∧ PlI s.told ∧ Aw A H (letS s r c) Q .non
theorem ok_L_in (T : Txt K mg) : FnOk P w K mg base (L2.CX P w) 2 (He.ga K "_law_in") (fdAt K (He.ga K "_law_in")) ["_law_pile", "_law_lets", "_law_place", "_law_found"] spIn := by
  refine T.d_L_in.fn.ok sc_L_in (fun vs H Q E h => ?_) (fun cdv A outer s H vs Q E hr h => ?_)
  · obtain ⟨_, _, _, _, _, rfl, _⟩ := h
    rfl
  · obtain ⟨A, s, b, r, c, rfl, hL, hb, hn, hnd, hI, q⟩ := h
    refine ⟨_, PSs.nox (pss_cons (ps_if (pt_cmpR (op_eqNil (u64 hr)) (pv 1) (pe_lst pa_nil) (nomark _))
        (pss_one ps_retN)
        pss_nil)
      (pss_cons (ps_set (i := 4) sc_L_in.nd rfl (.inr rfl) (pe_bm0 PySem.F.plainAttrs_list PySem.F.slot_list_pop PySem.F.type_list_pop mt_pop (pv 1)))
      (pss_cons (ps_setLc (i := 5) (own := [("_law_at_here", 6)]) (g := gName 6) rfl sc_L_in.nd rfl rfl (sw_true rfl rfl rfl (by decide +kernel)) (pi_range1 (by rfl) T.b_range (pa_cons (pe_callB call_len_seq (by rfl) T.b_len PySem.boot_len (pa_cons (pv 0) pa_nil)) pa_nil)) (blkOk_by (own := [("_law_at_here", 6)]) (N := ["_law_pile", "_law_lets", "_law_place", "_law_found", "_law_mine", "_law_spots", "_law_at_here", "_law_block"]) (sc := defScope s_L_in) (by decide +kernel)) (fun _ _ _ _ _ => (pg_name (i := 6) sc_L_in.nd rfl (.inl rfl))) (fun _ _ _ _ _ => pts_one (pw_and (pt_cmpR op_eq (pe_ix (r := rIxL K) ix_list (pe_ix (r := rIxL K) ix_list (pv 0) (pv 6) (fun _ _ => rfl)) pe_int (fun _ _ => rfl)) pe_str (nomark _)) (pw_and1 (pt_cmpR (r := rEqD K) (op_eqD (u64 hr)) (pe_ix (r := rIxL K) ix_list (pe_ix (r := rIxL K) ix_list (pv 0) (pv 6) (fun _ _ => rfl)) pe_int (fun _ _ => rfl)) (pv 4) (nomark _)))).pt) (fun _ _ _ _ _ => (pv 6)))
      (pss_one (ps_if (pw_and (pt_cmpR (op_neNil (u64 hr)) (pv 5) (pe_lst pa_nil) (nomark _)) (pw_and1 (pt_cmpR op_notIn_seq pe_str (pe_lc (own := [("_law_block", 7)]) (g := gName 7) rfl sc_L_in.nd (pi_list (pe_slice sl_list (pv 0) (po_some (pe_ix ix_list (pv 5) (pe_un un_neg pe_int) (fun _ _ => rfl))) po_none)) (blkOk_by (own := [("_law_block", 7)]) (N := ["_law_pile", "_law_lets", "_law_place", "_law_found", "_law_mine", "_law_spots", "_law_at_here", "_law_block"]) (sc := defScope s_L_in) (by decide +kernel)) (fun _ _ _ _ _ => (pg_name (i := 7) sc_L_in.nd rfl (.inl rfl))) (fun _ _ _ _ _ => pts_nil) (fun _ _ _ _ _ => (pe_ix (r := rIxL K) ix_list (pv 7) pe_int (fun _ _ => rfl)))) rfl))).pt
        (pss_one (ps_expr (pe_call (ok_L_shut_to T) (hr.mono (by decide)) (by rfl) T.d_L_shut_to.g T.d_L_shut_to.fn.kp T.d_L_shut_to.b .nil passL (pa_cons (pv 0) (pa_cons (pe_ix ix_list (pv 5) (pe_un un_neg pe_int) (fun _ _ => rfl)) (pa_cons (pv 2) (pa_cons (pv 3) pa_nil)))))))
        pss_nil))))), ?_⟩
    have hphi : s.told.length + s.pile.length = phi s := rfl
    obtain ⟨ls, g1, g2⟩ := hL.lets
    refine ⟨_, rfl, szS (by simp), fun p0 hp0 => ?_⟩
    have s0 := same_new (o := HO.lst []) hp0
    refine ⟨A.l, p0, ls, rfl, rfl, .of (s0 _ _ g1), .of upd_same, _, rfl, ?_⟩
    have hL0 := hL.same s0
    have f0 : Fw A H (upd H p0 (.lst [])) := Fw.of s0
    have g10 := s0 _ _ g1
    generalize upd H p0 (.lst []) = H0 at hL0 f0 g10 ⊢
    obtain ⟨ls', k1, k2⟩ := hL0.lets
    have el : ls' = ls := by rw [g10] at k1; injection (Option.some.inj k1) with k1; exact k1.symm
    rw [el] at k2
    unfold letS at q
    rcases List.eq_nil_or_concat s.lets with e0 | ⟨l, n, e0⟩
    · rw [e0] at q k2
      cases k2
      exact iteT (q _ f0 hL0)
    · rw [List.concat_eq_append] at e0
      have hlast : s.lets.getLast? = some n := by rw [e0, List.getLast?_append]; rfl
      have hdl : s.lets.dropLast = l := by rw [e0, List.dropLast_concat]
      rw [hlast, hdl] at q
      dsimp only at q
      rw [e0] at k2
      obtain ⟨ls0, v, rfl, k3, m0, t0, rfl, km, kn, kt, ks⟩ := paired_snoc k2
      rw [show (if false = true then !(ls0 ++ [V.ref m0]).isEmpty else (ls0 ++ [V.ref m0]).isEmpty) = false by simp]
      refine iteF ⟨_, rfl, .inl ⟨rfl, _, .of g10⟩, A.l, _, _, rfl, rfl, g10, last_get _ _, ?_⟩
      rw [List.dropLast_concat]
      have hL1 := hL0.setL k3
      have f1 : Fw A H (upd H0 A.l (.lst ls0)) := f0.trans Fw.updL
      have km1 : upd H0 A.l (.lst ls0) m0 = _ := (Fw.kt hL0 (Fw.updL (o := HO.lst ls0))) _ _ km
      generalize upd H0 A.l (.lst ls0) = H1 at hL1 f1 km1 ⊢
      obtain ⟨ps, h3, h4⟩ := hL1.pile
      have h4 : Paired (EntL H1 s.told) ps s.pile := h4
      have hpl : ps.length = s.pile.length := h4.length
      -- the spots
      refine ⟨_, rfl, A.p, ps, rfl, .inl (.of h3), _, rfl, by omega, by omega, fun D hD => ?_⟩
      refine lc_range (lo := 0) (n := ((ps.length : Nat) : Int).toNat) (fun i H' => H' D = some (.lst ((ixs n s.pile i).map nV)) ∧ Same H1 H') ⟨upd_same, same_new hD⟩ ?_ ?_
      · rintro i H2 hi ⟨hD2, sm⟩
        have hi2 : i < ps.length := by omega
        have hx : ps[i]? = some ps[i] := List.getElem?_eq_getElem hi2
        obtain ⟨e, he, hv⟩ := L2.paired_get h4 hx
        obtain ⟨a, k, cc, m, ev, ha, hcase⟩ := (hv.ke0 (.of sm)).isLet hI kn kt ks
        rw [ev] at hx
        have hx2 : atI ps ((0 : Int) + (i : Nat)) = some (.ref a) := by rw [Int.zero_add]; exact atI_nat hx
        have hsz : ((ixs n s.pile i).map nV).length < sizeLine := szL (by
          rw [List.length_map]
          have := List.length_filter_le (fun j => (s.pile[j]?.map (pOf n)).getD false) (List.range i)
          rw [List.length_range] at this
          show (ixs n s.pile i).length < _
          unfold ixs
          omega)
        refine ⟨rfl, _, rfl, _, rfl, A.p, ps, _, _, rfl, rfl, .of (sm _ _ h3), hx2, a, _, 0, _, rfl, rfl, .of ha, rfl, rfl, _, rfl, ?_⟩
        rcases hcase with ⟨hk, hp⟩ | ⟨hk, b2, u, rfl, hb2, hp⟩
        · rw [decide_eq_false (fun z => hk (V.str.inj z))]
          refine iteF ⟨?_, sm⟩
          rw [hD2, ixs_succ he, hp]
          simp
        · rw [decide_eq_true (congrArg V.str hk)]
          refine iteT ⟨_, rfl, _, rfl, A.p, ps, _, _, rfl, rfl, .of (sm _ _ h3), hx2, a, _, 2, _, rfl, rfl, .of ha, rfl, _, rfl, .tuple [.int (u.row : Int), .int (u.col : Int)], .tuple [.int (t0.row : Int), .int (t0.col : Int)], .tup (.of hb2) (.cons (.int _) (.cons (.int _) .nil)), .tup (.of (sm _ _ km1)) (.cons (.int _) (.cons (.int _) .nil)), shp_place _ _, shp_place _ _, _, rfl, ?_⟩
          rw [eqv_place, ← hp]
          cases hp2 : pOf n e with
          | false =>
            refine iteF ⟨?_, sm⟩
            rw [hD2, ixs_succ he, hp2]
            simp
          | true =>
            refine iteT ⟨_, rfl, _, hD2, hsz, ?_, same_mut sm hD⟩
            rw [upd_same, ixs_succ he, hp2, List.map_append, Int.zero_add]
            rfl
      · rintro H2 ⟨hD2, sm⟩
        rw [show ((ps.length : Nat) : Int).toNat = s.pile.length by omega] at hD2
        have hL2 := hL1.same sm
        have f2 : Fw A H H2 := f1.trans (Fw.of sm)
        refine ⟨_, rfl, szS (by simp), fun p5 hp5 => ?_⟩
        have s5 := same_new (o := HO.lst []) hp5
        refine ⟨D, p5, _, rfl, rfl, .of (s5 _ _ hD2), .of upd_same, _, rfl, ?_⟩
        have hL3 := hL2.same s5
        have f3 := f2.trans (Fw.of (A := A) s5)
        have hD3 := s5 _ _ hD2
        have h33 := s5 _ _ (sm _ _ h3)
        have h43 : Paired (EntL (upd H2 p5 (.lst [])) s.told) ps s.pile := h4.mono fun _ _ q => q.ke0 (.of (sm.trans s5))
        generalize upd H2 p5 (.lst []) = H3 at hL3 f3 hD3 h33 h43 ⊢
        rcases List.eq_nil_or_concat (ixs n s.pile s.pile.length) with hix | ⟨more, i0, hix⟩
        · rw [hix] at hD3 ⊢
          have hno : letR n s.pile.reverse = none := letR_none fun e he => ixs_nil hix e (List.mem_reverse.mp he)
          rw [hno] at q
          exact iteF (q _ f3 hL3)
        · rw [List.concat_eq_append] at hix
          rw [hix] at hD3 ⊢
          rw [List.map_append] at hD3
          obtain ⟨e, he, hp⟩ := ixs_mem (last_ix hix)
          have hi0 : i0 < s.pile.length := (List.getElem?_eq_some_iff.mp he).1
          have hsp := split_at he
          have hab : ∀ x ∈ s.pile.drop (i0 + 1), x.num ≠ some n := above_ne (by rw [← hsp]; exact hnd) (num_of hp).2
          have hrev : s.pile.reverse = (s.pile.drop (i0 + 1)).reverse ++ e :: (s.pile.take i0).reverse := by
            conv => lhs; rw [hsp]
            rw [List.reverse_append, List.reverse_cons, List.append_assoc]
            rfl
          have hdr : s.pile.drop i0 = e :: s.pile.drop (i0 + 1) := by
            obtain ⟨hi, h2⟩ := List.getElem?_eq_some_iff.mp he
            rw [List.drop_eq_getElem_cons hi, h2]
          have ecut : cutV ps (some ((i0 : Nat) : Int)) none = ps.drop i0 := cutV_drop ps i0 (by omega)
          rw [show (if true = true then !(List.map nV (more ++ [i0])).isEmpty else (List.map nV (more ++ [i0])).isEmpty) = true by rw [List.map_append]; simp]
          refine iteT ⟨_, rfl, _, rfl, _, rfl, D, _, _, nV i0, rfl, rfl, .of hD3, atI_last _ _, _, rfl, A.p, ps, rfl, .of h33, fun p6 hp6 => ?_⟩
          rw [ecut]
          have s6 := same_new (o := HO.lst (ps.drop i0)) hp6
          refine ⟨p6, rfl, ⟨_, .of upd_same⟩, fun D2 hD2' => ?_⟩
          have hL4 := hL3.same s6
          have f4 := f3.trans (Fw.of (A := A) s6)
          have hD4 := s6 _ _ hD3
          have h44 : Paired (EntL (upd H3 p6 (.lst (ps.drop i0))) s.told) ps s.pile := h43.mono fun _ _ q => q.ke0 (.of s6)
          have h64 : upd H3 p6 (.lst (ps.drop i0)) p6 = some (.lst (ps.drop i0)) := upd_same
          generalize upd H3 p6 (.lst (ps.drop i0)) = H4 at hL4 f4 hD4 h44 h64 hD2' ⊢
          have h4d := paired_drop i0 h44
          refine lc_list (K := K) (a := p6) (xs := ps.drop i0) (fun i H' => ∃ ws, H' D2 = some (.lst ws) ∧ Paired HdL ws ((s.pile.drop i0).take i) ∧ Same H4 H')
            ⟨[], upd_same, .nil, same_new hD2'⟩ (fun i H' _ ⟨_, _, _, sm⟩ => .of (sm _ _ h64)) ?_ ?_
          · rintro i x H5 hx ⟨ws, hD5, hws, sm5⟩
            obtain ⟨e', he', hv⟩ := L2.paired_get h4d hx
            obtain ⟨a, k, cc, m, rfl, ha, hk, _⟩ := (hv.ke0 (.of sm5)).head
            refine ⟨rfl, _, rfl, a, _, 0, _, rfl, rfl, .of ha, rfl, _, hD5, szL ?_, ws ++ [V.str k], upd_same, ?_, same_mut sm5 hD2'⟩
            · rw [hws.length]
              have h6 := List.length_take_le' i (s.pile.drop i0)
              rw [List.length_drop] at h6
              omega
            · rw [List.take_add_one, he']
              exact Paired.snoc hws ⟨k, rfl, hk⟩
          · rintro H5 ⟨ws, hD5, hws, sm5⟩
            rw [show (ps.drop i0).length = (s.pile.drop i0).length from h4d.length, List.take_length] at hws
            refine ⟨D2, _, rfl, .inl (.of hD5), rfl, flat_hd hws, _, rfl, ?_⟩
            rw [inPar hws]
            have hL5 := hL4.same sm5
            have f5 := f4.trans (Fw.of (A := A) sm5)
            have hD6 := sm5 _ _ hD4
            have heb := (num_of hp).1
            rw [hdr]
            cases hany : (e :: s.pile.drop (i0 + 1)).any fun e => !e.b with
            | true =>
              have hno : letR n s.pile.reverse = none := by
                rw [hrev]
                refine letR_br (fun x hx => hab x (List.mem_reverse.mp hx)) ?_
                obtain ⟨x, hx, hx2⟩ := List.any_eq_true.mp hany
                rcases List.mem_cons.mp hx with rfl | hx
                · rw [heb] at hx2
                  cases hx2
                · exact ⟨x, List.mem_reverse.mpr hx, by simpa using hx2⟩
              rw [hno] at q
              exact iteF (q _ f5 hL5)
            | false =>
              have hall : ∀ x ∈ e :: s.pile.drop (i0 + 1), x.b = true := fun x hx => by
                have := List.any_eq_false.mp hany x hx
                simpa using this
              have hyes : letR n s.pile.reverse = some ((s.pile.drop (i0 + 1)).reverse.length + 1, (s.pile.take i0).reverse) := by
                rw [hrev]
                exact letR_hit hp fun x hx => ⟨hall x (List.mem_cons_of_mem _ (List.mem_reverse.mp hx)), hab x (List.mem_reverse.mp hx)⟩
              rw [hyes] at q
              have hb5 : PlT H5 b r c := (Fw.kt hL f5) _ _ hb
              refine iteT ⟨_, rfl, _, rfl, _, rfl, D, _, _, nV i0, rfl, rfl, .of hD6, atI_last _ _, _, rfl, _, rfl, A, _, i0, b, r, c, rfl, hL5, hb5, by show i0 ≤ s.pile.length; omega, by show phi s + 2 < 90000; omega, fun H6 f6 hL6 => q _ (f5.trans f6) ?_⟩
              have e1 : popS { s with lets := l } r c ((s.pile.drop (i0 + 1)).reverse.length + 1, (s.pile.take i0).reverse) = { ({ s with lets := l } : LSt) with told := s.told ++ shuts r c (nB (s.pile.drop i0)), pile := s.pile.take i0 } := by
                unfold popS
                rw [List.length_reverse, List.reverse_reverse, hdr, nB_all hall, List.length_cons]
              show Lw H6 A (popS _ _ _ _)
              rw [e1]
              exact hL6
end
end Sw
set_option Elab.async false
set_option pp.maxSteps 600
set_option pp.deepTerms false
set_option linter.all false
set_option maxRecDepth 100000
set_option maxHeartbeats 4000000
namespace Sw
open PySem PySem.Spec PyProof.Rows L2 SX
def opS : Option Str → Str
  | none => ""
  | some o => o
theorem brR_hit {e : Ent} {r : List Ent} (he : e.b = false) : ∀ {v : List Ent}, (∀ x ∈ v, x.b = true) → brR (v ++ e :: r) = some (v.length, r)
  | [], _ => brR_stop he
  | x :: v, h => by
    show brR (x :: (v ++ e :: r)) = _
    rw [brR_go (h x (List.mem_cons_self ..)), brR_hit he fun y hy => h y (List.mem_cons_of_mem _ hy)]
    rfl
/-- the places of brackets in the pile -/
def ixb (pile : List Ent) (i : Nat) : List Nat := (List.range i).filter fun j => (pile[j]?.map fun e => !e.b).getD false
theorem ixb_succ {pile : List Ent} {i : Nat} {e : Ent} (h : pile[i]? = some e) : ixb pile (i + 1) = ixb pile i ++ (if e.b = true then [] else [i]) := by
  unfold ixb
  rw [List.range_succ, List.filter_append]
  congr 1
  cases hp : e.b with
  | false => rw [List.filter_cons_of_pos (by rw [h]; show (!e.b) = true; rw [hp]; rfl)]; rfl
  | true => rw [List.filter_cons_of_neg (by rw [h]; show ¬ (!e.b) = true; rw [hp]; decide)]; rfl
theorem ixb_nil {pile : List Ent} (h : ixb pile pile.length = []) : ∀ e ∈ pile, e.b = true := by
  intro e he
  obtain ⟨j, hj, e2⟩ := List.getElem_of_mem he
  cases hp : e.b with
  | true => rfl
  | false =>
    have : j ∈ ixb pile pile.length := by
      unfold ixb
      rw [List.mem_filter]
      refine ⟨List.mem_range.mpr hj, ?_⟩
      rw [List.getElem?_eq_getElem hj, e2]
      show (!e.b) = true
      rw [hp]
      rfl
    rw [h] at this
    cases this
theorem ixb_last {pile : List Ent} {l : List Nat} {i : Nat} (h : ixb pile pile.length = l ++ [i]) : ∃ e, pile[i]? = some e ∧ e.b = false ∧ ∀ x ∈ pile.drop (i + 1), x.b = true := by
  have hm : i ∈ ixb pile pile.length := by rw [h]; simp
  unfold ixb at hm
  obtain ⟨h1, h2⟩ := List.mem_filter.mp hm
  have hi := List.mem_range.mp h1
  rw [List.getElem?_eq_getElem hi] at h2
  refine ⟨pile[i], List.getElem?_eq_getElem hi, by simpa using h2, fun x hx => ?_⟩
  obtain ⟨j, hj, e2⟩ := List.getElem_of_mem hx
  rw [List.length_drop] at hj
  rw [List.getElem_drop] at e2
  cases hp : x.b with
  | true => rfl
  | false =>
    have hmj : i + 1 + j ∈ ixb pile pile.length := by
      unfold ixb
      rw [List.mem_filter]
      refine ⟨List.mem_range.mpr (by omega), ?_⟩
      rw [List.getElem?_eq_getElem (by omega), e2]
      show (!x.b) = true
      rw [hp]
      rfl
    have hso : (ixb pile pile.length).Pairwise (· < ·) := List.Pairwise.filter _ List.pairwise_lt_range
    rw [h] at hso hmj
    rw [List.pairwise_append] at hso
    rcases List.mem_append.mp hmj with hl | hl
    · have := hso.2.2 _ hl i (by simp)
      omega
    · have := List.mem_singleton.mp hl
      omega
/-- places strictly behind one another -/
def Ord (ts : List Tk) : Prop := ts.Pairwise fun a b => a.row < b.row ∨ (a.row = b.row ∧ a.col < b.col)
theorem plI_of {td ts : List Tk} (h : toks td = ts) (ho : Ord ts) : PlI td := by
  have h1 : td.Pairwise fun a b => decide (a.sort ≠ ("mark" : Str)) = true → decide (b.sort ≠ ("mark" : Str)) = true → (a.row < b.row ∨ (a.row = b.row ∧ a.col < b.col)) := by
    have : (toks td).Pairwise fun a b => a.row < b.row ∨ (a.row = b.row ∧ a.col < b.col) := by rw [h]; exact ho
    exact List.pairwise_filter.mp this
  intro i j t u hi hj ht hu hr hc
  obtain ⟨i1, i2⟩ := List.getElem?_eq_some_iff.mp hi
  obtain ⟨j1, j2⟩ := List.getElem?_eq_some_iff.mp hj
  rw [List.pairwise_iff_getElem] at h1
  rcases Nat.lt_trichotomy i j with hl | hl | hl
  · have := h1 i j i1 j1 hl (by rw [i2]; exact decide_eq_true ht) (by rw [j2]; exact decide_eq_true hu)
    rw [i2, j2] at this
    omega
  · exact hl
  · have := h1 j i j1 i1 hl (by rw [j2]; exact decide_eq_true hu) (by rw [i2]; exact decide_eq_true ht)
    rw [i2, j2] at this
    omega
theorem toks_s1 (s : LSt) (t : Tk) : toks (s1S s t).1.told = toks s.told := by
  unfold s1S
  split
  · unfold openS
    split
    · show toks (s.told ++ [_] ++ [_]) = _
      rw [toks_app, toks_app, toks_mk, toks_mk, List.append_nil, List.append_nil]
    · show toks (s.told ++ [_]) = _
      rw [toks_app, toks_mk, List.append_nil]
  · rfl
theorem toks_s2 (p : LSt × Bool) (t : Tk) : toks (s2p p t).told = toks p.1.told := by
  unfold s2p
  split
  · unfold lineS itemS
    split
    · show toks ((popS _ _ _ _).told ++ [_]) = _
      rw [toks_app, toks_mk, List.append_nil, toks_pop]
    · rw [toks_pop]
  · rfl
theorem line_s1 (s : LSt) (t : Tk) : (s1S s t).1.line = s.line := by
  unfold s1S openS
  split
  · split <;> rfl
  · rfl
theorem line_s3 (s : LSt) (t : Tk) : (s3S s t).line = s.line := by
  unfold s3S
  split
  · unfold letS
    split
    · rfl
    · split <;> rfl
  · split
    · unfold brS
      split <;> rfl
    · rfl
theorem line_take (s : LSt) (t : Tk) : (takeS s t).line = t.row := by
  show (s5S (s4S (s3S (s2S (s1S s t) t) t) t) t).line = t.row
  have h3 : (s3S (s2S (s1S s t) t) t).line = t.row := line_s3 _ _
  generalize s3S (s2S (s1S s t) t) t = s3 at h3
  unfold s5S
  split
  · exact h3
  · split
    · exact h3
    · split <;> exact h3
theorem op_s2 (p : LSt × Bool) (t : Tk) : (s2p p t).op = p.1.op := by
  unfold s2p lineS itemS
  split
  · split <;> rfl
  · rfl
theorem op_s3 (s : LSt) (t : Tk) : (s3S s t).op = s.op := by
  unfold s3S
  split
  · unfold letS
    split
    · rfl
    · split <;> rfl
  · split
    · unfold brS
      split <;> rfl
    · rfl
def s6S (s : LSt) (t : Tk) : LSt := if t.word = "(" then { s with pile := s.pile ++ [⟨false, 0, none⟩] } else s
def s7S (s : LSt) (t : Tk) : LSt := if t.word = "let" then { s with lets := s.lets ++ [s.told.length] } else s
def opT (t : Tk) : Option Str := if t.word = "let" then some "let" else if t.word = "of" then some "of" else none
theorem s5_eq {s : LSt} {t : Tk} (h : s.op = none) : s5S s t = { s7S (s6S s t) t with op := opT t, line := s.line } := by
  unfold s5S s7S s6S opT
  by_cases w1 : t.word = "("
  · have w2 : ¬ t.word = "let" := by rw [w1]; decide +kernel
    have w3 : ¬ t.word = "of" := by rw [w1]; decide +kernel
    rw [if_pos w1, if_neg w2, if_pos w1, if_neg w2, if_neg w3, ← h]
  · by_cases w2 : t.word = "let"
    · rw [if_neg w1, if_pos w2, if_neg w1, if_pos w2, if_pos w2]
    · by_cases w3 : t.word = "of"
      · rw [if_neg w1, if_neg w2, if_pos w3, if_neg w1, if_neg w2, if_neg w2, if_pos w3]
      · rw [if_neg w1, if_neg w2, if_neg w3, if_neg w1, if_neg w2, if_neg w2, if_neg w3, ← h]
section
variable {P : Program} {w : World} {K : PySem.W.Frag} {mg : Str → Option Value} {base : Heap}
def spLLaid (K : PySem.W.Frag) : Sp := fun vs H Q _ => ∃ (a : Addr) (us : List V) (ts : List Tk), vs = [.ref a] ∧ H a = some (.lst us) ∧ Paired (TkT H) us ts ∧ (∀ t ∈ ts, t.sort ≠ "mark" ∧ t.word.length ≤ 1000) ∧ Ord ts ∧ ts.length ≤ 12000 ∧
  ∀ p H' us', H p = none → Same H H' → H' p = some (.lst us') → Paired (TkT H') us' (laidS ts) → Q (.ref p) H'
theorem ok_L_laid (T : Txt K mg) : FnOk P w K mg base (L2.CX P w) 3 (He.ga K "_law_laid") (fdAt K (He.ga K "_law_laid")) ["_law_lexed"] (spLLaid K) := by
  refine T.d_L_laid.fn.ok sc_L_laid (fun vs H Q E h => ?_) (fun cdv A outer s H vs Q E hr h => ?_)
  · obtain ⟨_, _, _, rfl, _⟩ := h
    rfl
  · obtain ⟨a, us, ts, rfl, ha, hpt, hts, hord, htl, q⟩ := h
    refine ⟨_, PSs.nox (pss_cons (ps_set (i := 1) sc_L_laid.nd rfl (.inl rfl) (pe_lst pa_nil))
      (pss_cons (ps_set (i := 2) sc_L_laid.nd rfl (.inr rfl) (pe_lst pa_nil))
      (pss_cons (ps_set (i := 3) sc_L_laid.nd rfl (.inl rfl) (pe_lst pa_nil))
      (pss_cons (ps_set (i := 4) sc_L_laid.nd rfl (.inl rfl) pe_str)
      (pss_cons (ps_set (i := 5) sc_L_laid.nd rfl (.inl rfl) pe_int)
      (pss_cons (ps_set (i := 6) sc_L_laid.nd rfl (.inl rfl) (pe_tup (pa_cons pe_int (pa_cons pe_int pa_nil))))
      (pss_cons (ps_for PassesOwn.never rfl (pi_list (pv 0)) (pg_tup rfl (pgs_cons (pg_name (i := 7) sc_L_laid.nd rfl (.inl rfl)) (pgs_cons (pg_name (i := 8) sc_L_laid.nd rfl (.inl rfl)) (pgs_cons (pg_name (i := 9) sc_L_laid.nd rfl (.inl rfl)) pgs_nil))))
        (C8.pss_cut (ps_set (i := 10) sc_L_laid.nd rfl (.inl rfl) (pe_and (pe_cmpR op_ne (pv 4) pe_str (nomark _)) (pe_one (pe_call (ok_L_opens T) (hr.mono (by decide)) (by rfl) T.d_L_opens.g T.d_L_opens.fn.kp T.d_L_opens.b .nil passL (pa_cons (pv 2) (pa_cons (pv 3) (pa_cons (pv 4) (pa_cons (pv 7) (pa_cons (pv 1) pa_nil)))))))))
      (pss_cons (ps_set (i := 4) sc_L_laid.nd rfl (.inl rfl) pe_str)
      (C8.pss_cut (ps_if (pw_and (pt_cmpR op_ne (pe_ix ix_tup (pv 7) pe_int (fun _ _ => rfl)) (pv 5) (nomark _)) (pw_and1 (pt_not (pt_val (pv 10))))).pt
        (pss_one (ps_expr (pe_call (ok_L_begins T) (hr.mono (by decide)) (by rfl) T.d_L_begins.g T.d_L_begins.fn.kp T.d_L_begins.b .nil passL (pa_cons (pv 2) (pa_cons (pv 7) (pa_cons (pv 9) (pa_cons (pv 1) pa_nil)))))))
        pss_nil)
      (pss_cons (ps_set (i := 5) sc_L_laid.nd rfl (.inl rfl) (pe_ix ix_tup (pv 7) pe_int (fun _ _ => rfl)))
      (C8.pss_cut (ps_if (pt_cmpR op_eq (pv 9) pe_str (nomark _))
        (pss_one (ps_expr (pe_call (ok_L_in T) (hr.mono (by decide)) (by rfl) T.d_L_in.g T.d_L_in.fn.kp T.d_L_in.b .nil passL (pa_cons (pv 2) (pa_cons (pv 3) (pa_cons (pv 7) (pa_cons (pv 1) pa_nil)))))))
        pss_nil)
      (pss_cons (ps_setLc (i := 11) (own := [("_law_at_here", 12)]) (g := gName 12) rfl sc_L_laid.nd rfl rfl (sw_true rfl rfl rfl (by decide +kernel)) (pi_range1 (by rfl) T.b_range (pa_cons (pe_callB call_len_seq (by rfl) T.b_len PySem.boot_len (pa_cons (pv 2) pa_nil)) pa_nil)) (blkOk_by (own := [("_law_at_here", 12)]) (N := ["_law_lexed", "_law_found", "_law_pile", "_law_lets", "_law_opener", "_law_last", "_law_end", "_law_place", "_law_sort", "_law_said", "_law_opened", "_law_spots", "_law_at_here"]) (sc := defScope s_L_laid) (by decide +kernel)) (fun _ _ _ _ _ => (pg_name (i := 12) sc_L_laid.nd rfl (.inl rfl))) (fun _ _ _ _ _ => pts_one (pt_cmpR op_eq (pe_ix (r := rIxL K) ix_list (pe_ix (r := rIxL K) ix_list (pv 2) (pv 12) (fun _ _ => rfl)) pe_int (fun _ _ => rfl)) pe_str (nomark _))) (fun _ _ _ _ _ => (pv 12)))
      (C8.pss_cut (ps_if (pw_and (pt_cmpR op_eq (pv 9) pe_str (nomark _)) (pw_and1 (pt_cmpR (op_neNil (u64 hr)) (pv 11) (pe_lst pa_nil) (nomark _)))).pt
        (pss_one (ps_expr (pe_call (ok_L_shut_to T) (hr.mono (by decide)) (by rfl) T.d_L_shut_to.g T.d_L_shut_to.fn.kp T.d_L_shut_to.b .nil passL (pa_cons (pv 2) (pa_cons (pe_ix ix_list (pv 11) (pe_un un_neg pe_int) (fun _ _ => rfl)) (pa_cons (pv 7) (pa_cons (pv 1) pa_nil)))))))
        pss_nil)
      (pss_cons (ps_expr (pe_bm PySem.F.plainAttrs_list PySem.F.slot_list_append PySem.F.type_list_append mt_append (pv 1) (pa_cons (pe_tup (pa_cons (pv 7) (pa_cons (pv 8) (pa_cons (pv 9) pa_nil)))) pa_nil)))
      (C8.pss_cut (ps_if (pt_cmpR op_eq (pv 9) pe_str (nomark _))
        (pss_one (ps_expr (pe_bm PySem.F.plainAttrs_list PySem.F.slot_list_append PySem.F.type_list_append mt_append (pv 2) (pa_cons (pe_lst (pa_cons pe_str (pa_cons pe_int (pa_cons pe_int pa_nil)))) pa_nil))))
        pss_nil)
      (C8.pss_cut (ps_if (pt_cmpR op_eq (pv 9) pe_str (nomark _))
        (pss_one (ps_expr (pe_bm PySem.F.plainAttrs_list PySem.F.slot_list_append PySem.F.type_list_append mt_append (pv 3) (pa_cons (pv 7) pa_nil))))
        pss_nil)
      (C8.pss_cut (ps_if (pt_cmpR op_in_seq (pv 9) (pe_lst (pa_cons pe_str (pa_cons pe_str pa_nil))) rfl)
        (pss_one (ps_set (i := 4) sc_L_laid.nd rfl (.inl rfl) (pv 9)))
        pss_nil)
      (pss_one (ps_set (i := 6) sc_L_laid.nd rfl (.inl rfl) (pe_tup (pa_cons (pe_ix ix_tup (pv 7) pe_int (fun _ _ => rfl)) (pa_cons (pe_op op_add (pe_ix ix_tup (pv 7) pe_int (fun _ _ => rfl)) (pe_callB call_len_str (by rfl) T.b_len PySem.boot_len (pa_cons (pv 9) pa_nil))) pa_nil)))))))))))))))))
      (C8.pss_cut (ps_if (pt_cmpR op_eq (pv 4) pe_str (nomark _))
        (pss_cons (ps_expr (pe_bm PySem.F.plainAttrs_list PySem.F.slot_list_append PySem.F.type_list_append mt_append (pv 1) (pa_cons (pe_tup (pa_cons (pv 6) (pa_cons pe_str (pa_cons pe_str pa_nil)))) pa_nil)))
      (pss_one (ps_expr (pe_bm PySem.F.plainAttrs_list PySem.F.slot_list_append PySem.F.type_list_append mt_append (pv 2) (pa_cons (pe_lst (pa_cons pe_str (pa_cons pe_int (pa_cons pe_int pa_nil)))) pa_nil)))))
        pss_nil)
      (pss_cons (ps_expr (pe_call (ok_L_shut_to T) (hr.mono (by decide)) (by rfl) T.d_L_shut_to.g T.d_L_shut_to.fn.kp T.d_L_shut_to.b .nil passL (pa_cons (pv 2) (pa_cons pe_int (pa_cons (pv 6) (pa_cons (pv 1) pa_nil))))))
      (pss_one (ps_ret (pv 1)))))))))))), ?_⟩
    refine ⟨szS (by simp), fun f hf => ⟨szS (by simp), fun p hp => ⟨szS (by simp), fun l hl => ?_⟩⟩⟩
    refine ⟨szS (by simp), fun p3 hp3 => ?_⟩
    -- the three lists
    have n1 : f ≠ p := fun z => by rw [← z, upd_same] at hp; cases hp
    have n2 : p ≠ l := fun z => by rw [← z, upd_same] at hl; cases hl
    have n3 : f ≠ l := fun z => by rw [← z, upd_ne n1, upd_same] at hl; cases hl
    have sf := same_new (o := HO.lst []) hf
    have sp := same_new (o := HO.lst []) hp
    have sl := same_new (o := HO.lst []) hl
    have s3 := same_new (o := HO.tup [V.int 1, V.int 1]) hp3
    have hp0 : H p = none := sf.free hp
    have hl0 : H l = none := (sf.trans sp).free hl
    have s03 := sf.trans (sp.trans (sl.trans s3))
    have hL0 : Lw (upd (upd (upd (upd H f (.lst [])) p (.lst [])) l (.lst [])) p3 (.tup [V.int 1, V.int 1])) ⟨f, p, l⟩ initS :=
      ⟨⟨[], s3 _ _ (sl _ _ (sp _ _ upd_same)), .nil⟩, ⟨[], s3 _ _ (sl _ _ upd_same), .nil⟩, ⟨[], s3 _ _ upd_same, .nil⟩, n1, n3, n2⟩
    have hbe0 : PlT (upd (upd (upd (upd H f (.lst [])) p (.lst [])) l (.lst [])) p3 (.tup [V.int 1, V.int 1])) p3 1 1 := upd_same
    generalize upd (upd (upd (upd H f (.lst [])) p (.lst [])) l (.lst [])) p3 (.tup [V.int 1, V.int 1]) = H3 at s03 hL0 hbe0 ⊢
    have ha3 := s03 _ _ ha
    have hpt3 := pt_same hpt s03
    have na1 : a ≠ f := ne_of_none ha hf
    have na2 : a ≠ p := ne_of_none ha hp0
    have na3 : a ≠ l := ne_of_none ha hl0
    have hul : us.length = ts.length := hpt.length
    have hfold : ∀ i, i ≤ ts.length → phi ((ts.take i).foldl takeS initS) ≤ 5 * i ∧ ((ts.take i).foldl takeS initS).lets.length ≤ i := fun i => by
      induction i with
      | zero => intro _; exact ⟨Nat.le_refl 0, Nat.le_refl 0⟩
      | succ i ih =>
        intro hi
        obtain ⟨h1, h2⟩ := ih (by omega)
        have hg : ts[i]? = some ts[i] := List.getElem?_eq_getElem (by omega)
        rw [List.take_add_one, hg, List.foldl_append]
        obtain ⟨h3, h4⟩ := phi_take ((ts.take i).foldl takeS initS) ts[i]
        exact ⟨by show phi (takeS _ _) ≤ _; omega, by show (takeS _ _).lets.length ≤ _; omega⟩
    have hline : ∀ i t, ts[i]? = some t → ((ts.take i).foldl takeS initS).line ≤ t.row := fun i t ht => by
      cases i with
      | zero => exact Nat.zero_le _
      | succ i =>
        have hi := (List.getElem?_eq_some_iff.mp ht).1
        have hg : ts[i]? = some ts[i] := List.getElem?_eq_getElem (by omega)
        rw [List.take_add_one, hg, List.foldl_append]
        show (takeS _ _).line ≤ _
        rw [line_take]
        have ho := List.pairwise_iff_getElem.mp hord i (i + 1) (by omega) hi (by omega)
        rw [(List.getElem?_eq_some_iff.mp ht).2] at ho
        omega
    refine ⟨_, rfl, a, rfl, ⟨_, .of ha3⟩, ?_⟩
    refine for_list (K := K) (a := a) (xs := us) (fun i σ H' => ∃ (be : Addr) (y7 y8 y9 y10 y11 y12 : Option V), σ = [some (.ref a), some (.ref f), some (.ref p), some (.ref l), some (.str (opS ((ts.take i).foldl takeS initS).op)), some (.int (((ts.take i).foldl takeS initS).line : Int)), some (.ref be), y7, y8, y9, y10, y11, y12] ∧ Fw ⟨f, p, l⟩ H3 H' ∧ Lw H' ⟨f, p, l⟩ ((ts.take i).foldl takeS initS) ∧ PlT H' be (endP (ts.take i)).1 (endP (ts.take i)).2)
      ⟨p3, _, _, _, _, _, _, rfl, Fw.refl _ _, hL0, hbe0⟩ (fun i σ H' _ ⟨_, _, _, _, _, _, _, _, f', _⟩ => .of (f' _ _ na1 na2 na3 ha3)) ?_ ?_
    · rintro i v σ H4 hv ⟨be, y7, y8, y9, y10, y11, y12, rfl, f4, hL4, hbe⟩
      obtain ⟨t, htk, hvt⟩ := L2.paired_get hpt3 hv
      have hi : i < ts.length := (List.getElem?_eq_some_iff.mp htk).1
      have htm := hts t (List.mem_of_getElem? htk)
      have hln := hline i t htk
      obtain ⟨hph, hll⟩ := hfold i (by omega)
      have hI := foldS_inv (ts.take i) initS_inv fun t ht => (hts t (List.mem_of_mem_take ht)).1
      have htoks : toks ((ts.take i).foldl takeS initS).told = ts.take i := by
        rw [toks_fold (ts.take i) fun t ht => (hts t (List.mem_of_mem_take ht)).1]
        rfl
      have hordi : Ord (ts.take i) := hord.take
      have hnext : (ts.take (i + 1)).foldl takeS initS = takeS ((ts.take i).foldl takeS initS) t := by
        rw [List.take_add_one, htk, List.foldl_append]
        rfl
      have hend : endP (ts.take (i + 1)) = (t.row, t.col + t.word.length) := by
        rw [List.take_add_one, htk]
        exact endP_snoc _ _
      rw [hnext, hend]
      generalize (ts.take i).foldl takeS initS = s at hL4 hln hph hll hI htoks ⊢
      obtain ⟨ta, tb, rfl, hta, htb⟩ := hvt.kt (Fw.kt hL0 f4)
      refine ⟨ta, _, rfl, .of hta, rfl, _, _, rfl, _, _, rfl, _, _, rfl, rfl, ?_⟩
      have kt4 : ∀ {H' : Hp}, Fw ⟨f, p, l⟩ H3 H' → PlT H' tb t.row t.col := fun {H'} f' => by
        obtain ⟨ta', tb', e1, h1, h2⟩ := hvt
        have e2 : ta' = ta := (V.ref.inj e1).symm
        subst e2
        have h3 := (Fw.kt hL0 f4) _ _ h1
        rw [hta] at h3
        have e3 : tb = tb' := by
          injection (Option.some.inj h3) with h4
          exact V.ref.inj (List.cons.inj h4).1
        rw [e3]
        exact (Fw.kt hL0 f') _ _ h2
      have p1 := phi_s1 s t
      have I1 := s1S_inv hI t
      have p2 := phi_s2 (s1S s t) t
      have I2 := s2p_inv I1 t
      have o1 := s1S_op s t
      have o2 : (s2p (s1S s t) t).op = none := (op_s2 _ _).trans o1
      -- opened
      refine ⟨fun σ' H' => σ' = [some (.ref a), some (.ref f), some (.ref p), some (.ref l), some (.str (opS s.op)), some (.int (s.line : Int)), some (.ref be), some (.ref tb), some (.str t.sort), some (.str t.word), some (.bl (s1S s t).2), y11, y12] ∧ Fw ⟨f, p, l⟩ H3 H' ∧ Lw H' ⟨f, p, l⟩ (s1S s t).1, ?_, ?_⟩
      · refine ⟨_, rfl, rfl, _, rfl, ?_⟩
        cases ho : s.op with
        | none =>
          rw [show (!decide (V.str (opS none) = V.str "")) = false from by rw [decide_eq_true (show V.str (opS none) = V.str "" from rfl)]; rfl]
          have e1 : s1S s t = (s, false) := by unfold s1S; rw [ho]; rfl
          rw [e1]
          exact iteF ⟨rfl, f4, hL4⟩
        | some o =>
          have hne : ¬ V.str (opS (some o)) = V.str "" := fun z => by
            have z1 : o = "" := V.str.inj z
            rcases hI.ops o ho with rfl | rfl | rfl <;> exact absurd z1 (by decide +kernel)
          rw [show (!decide (V.str (opS (some o)) = V.str "")) = true from by rw [decide_eq_false hne]; rfl]
          have e1 : s1S s t = openS s t.row t.col := by unfold s1S; rw [ho]; rfl
          rw [e1]
          exact iteT ⟨_, rfl, _, rfl, _, rfl, _, rfl, _, rfl, ⟨f, p, l⟩, s, o, tb, t.row, t.col, rfl, hL4, kt4 f4, by omega, ho, hI, fun H5 f5 hL5 => ⟨rfl, f4.trans f5, hL5⟩⟩
      · rintro σ' H5 ⟨rfl, f5, hL5⟩
        have hb5 := kt4 f5
        -- a new line
        refine ⟨fun σ' H' => σ' = [some (.ref a), some (.ref f), some (.ref p), some (.ref l), some (.str ""), some (.int (s.line : Int)), some (.ref be), some (.ref tb), some (.str t.sort), some (.str t.word), some (.bl (s1S s t).2), y11, y12] ∧ Fw ⟨f, p, l⟩ H3 H' ∧ Lw H' ⟨f, p, l⟩ (s2p (s1S s t) t), ?_, ?_⟩
        · refine ⟨_, rfl, tb, _, 0, _, rfl, rfl, .of hb5, rfl, _, rfl, rfl, _, rfl, ?_⟩
          have l1 := line_s1 s t
          by_cases hlt : s.line < t.row
          · rw [show (!decide (V.int (t.row : Int) = V.int (s.line : Int))) = true from by rw [decide_eq_false (fun z => by have := V.int.inj z; omega)]; rfl]
            refine iteT ⟨_, rfl, _, rfl, ?_⟩
            cases ho : (s1S s t).2 with
            | true =>
              have e2 : s2p (s1S s t) t = (s1S s t).1 := if_neg (fun z => by rw [ho] at z; cases z.1)
              rw [e2]
              exact iteF ⟨rfl, f5, hL5⟩
            | false =>
              have e2 : s2p (s1S s t) t = lineS (s1S s t).1 t.row t.col t.word := if_pos ⟨ho, by rw [l1]; exact hlt⟩
              rw [e2]
              exact iteT ⟨_, rfl, _, rfl, _, rfl, _, rfl, ⟨f, p, l⟩, _, tb, t.row, t.col, t.word, rfl, hL5, hb5, by omega, fun H6 f6 hL6 => ⟨rfl, f5.trans f6, hL6⟩⟩
          · rw [show (!decide (V.int (t.row : Int) = V.int (s.line : Int))) = false from by rw [show (t.row : Int) = (s.line : Int) by omega, decide_eq_true rfl]; rfl]
            have e2 : s2p (s1S s t) t = (s1S s t).1 := if_neg (fun z => by rw [l1] at z; exact hlt z.2)
            rw [e2]
            exact iteF ⟨rfl, f5, hL5⟩
        · rintro σ' H6 ⟨rfl, f6, hL6⟩
          have hb6 := kt4 f6
          refine ⟨_, rfl, tb, _, 0, _, rfl, rfl, .of hb6, rfl, ?_⟩
          have hL6' : Lw H6 ⟨f, p, l⟩ (s2S (s1S s t) t) := hL6.ops (s2p (s1S s t) t).op t.row
          have p6 : phi (s2S (s1S s t) t) ≤ phi s + 3 := by show phi (s2p (s1S s t) t) ≤ _; omega
          have I6 : (nums (s2S (s1S s t) t).pile).Nodup := I2.nd
          have o6 : (s2S (s1S s t) t).op = none := o2
          have hpi : PlI (s2S (s1S s t) t).told := plI_of (show toks (s2p (s1S s t) t).told = ts.take i by rw [toks_s2, toks_s1, htoks]) hordi
          have lse : (s2S (s1S s t) t).line = t.row := rfl
          have ll2 : (s2S (s1S s t) t).lets.length ≤ 12000 := by
            rw [show (s2S (s1S s t) t).lets = s.lets from (lets_s2 (s1S s t) t).trans (lets_s1 s t)]
            omega
          have et : takeS s t = s5S (s4S (s3S (s2S (s1S s t) t) t) t) t := rfl
          rw [et]
          generalize s2S (s1S s t) t = s2 at hL6' p6 I6 o6 hpi lse ll2 ⊢
          -- in
          refine ⟨fun σ' H' => σ' = [some (.ref a), some (.ref f), some (.ref p), some (.ref l), some (.str ""), some (.int (t.row : Int)), some (.ref be), some (.ref tb), some (.str t.sort), some (.str t.word), some (.bl (s1S s t).2), y11, y12] ∧ Fw ⟨f, p, l⟩ H3 H' ∧ Lw H' ⟨f, p, l⟩ (if t.word = "in" then letS s2 t.row t.col else s2), ?_, ?_⟩
          · refine ⟨_, rfl, rfl, _, rfl, ?_⟩
            by_cases w1 : t.word = "in"
            · rw [decide_eq_true (congrArg V.str w1), if_pos w1]
              exact iteT ⟨_, rfl, _, rfl, _, rfl, _, rfl, ⟨f, p, l⟩, s2, tb, t.row, t.col, rfl, hL6', hb6, by omega, I6, hpi, fun H7 f7 hL7 => ⟨rfl, f6.trans f7, hL7⟩⟩
            · rw [decide_eq_false (fun z => w1 (V.str.inj z)), if_neg w1]
              exact iteF ⟨rfl, f6, hL6'⟩
          · rintro σ' H7 ⟨rfl, f7, hL7⟩
            have e3 : s3S s2 t = if t.word = ")" then brS (if t.word = "in" then letS s2 t.row t.col else s2) t.row t.col else (if t.word = "in" then letS s2 t.row t.col else s2) := by
              unfold s3S
              by_cases w1 : t.word = "in"
              · rw [if_pos w1, if_neg (show ¬ t.word = ")" by rw [w1]; decide +kernel), if_pos w1]
              · rw [if_neg w1, if_neg w1]
            have p7 : phi (if t.word = "in" then letS s2 t.row t.col else s2) ≤ phi s2 := by
              by_cases w1 : t.word = "in"
              · have := phi_s3 s2 t
                unfold s3S at this
                rw [if_pos w1] at this ⊢
                exact this
              · rw [if_neg w1]
                exact Nat.le_refl _
            have l7 := line_s3 s2 t
            have o7 := op_s3 s2 t
            have p8 := phi_s3 s2 t
            have ll3 := lets_s3 s2 t
            rw [e3] at l7 o7 p8 ll3 ⊢
            generalize (if t.word = "in" then letS s2 t.row t.col else s2) = s3 at hL7 p7 l7 o7 p8 ll3 ⊢
            have q7 : s3.told.length + s3.pile.length = phi s3 := rfl
            obtain ⟨ps, h3, h4⟩ := hL7.pile
            have hpl : ps.length = s3.pile.length := h4.length
            -- the brackets
            refine ⟨_, rfl, p, ps, rfl, .inl (.of h3), _, rfl, by omega, by omega, fun D hD => ?_⟩
            refine lc_range (lo := 0) (n := ((ps.length : Nat) : Int).toNat) (fun i H' => H' D = some (.lst ((ixb s3.pile i).map nV)) ∧ Same H7 H') ⟨upd_same, same_new hD⟩ ?_ ?_
            · rintro j H8 hj ⟨hD8, sm⟩
              have hj2 : j < ps.length := by omega
              have hx : ps[j]? = some ps[j] := List.getElem?_eq_getElem hj2
              obtain ⟨e, he, hv⟩ := L2.paired_get h4 hx
              obtain ⟨a', k, cc, m, ev, ha', hk, _⟩ := (hv.ke0 (.of sm)).head
              rw [ev] at hx
              have hx2 : atI ps ((0 : Int) + (j : Nat)) = some (.ref a') := by rw [Int.zero_add]; exact atI_nat hx
              refine ⟨rfl, _, rfl, _, rfl, p, ps, _, _, rfl, rfl, .of (sm _ _ h3), hx2, a', _, 0, _, rfl, rfl, .of ha', rfl, rfl, _, rfl, ?_⟩
              rw [hk]
              cases hb0 : e.b with
              | true =>
                refine iteF ⟨?_, sm⟩
                rw [hD8, ixb_succ he, hb0]
                simp
              | false =>
                refine iteT ⟨_, rfl, _, hD8, szL ?_, ?_, same_mut sm hD⟩
                · rw [List.length_map]
                  have := List.length_filter_le (fun j => (s3.pile[j]?.map fun e => !e.b).getD false) (List.range j)
                  rw [List.length_range] at this
                  show (ixb s3.pile j).length < _
                  unfold ixb
                  omega
                · rw [upd_same, ixb_succ he, hb0, List.map_append, Int.zero_add]
                  rfl
            · rintro H8 ⟨hD8, sm⟩
              rw [show ((ps.length : Nat) : Int).toNat = s3.pile.length by omega] at hD8
              have hL8 := hL7.same sm
              have f8 := f7.trans (Fw.of (A := ⟨f, p, l⟩) sm)
              have hb8 := kt4 f8
              -- )
              refine ⟨fun σ' H' => (∃ y12 : Option V, σ' = [some (.ref a), some (.ref f), some (.ref p), some (.ref l), some (.str ""), some (.int (t.row : Int)), some (.ref be), some (.ref tb), some (.str t.sort), some (.str t.word), some (.bl (s1S s t).2), some (.ref D), y12]) ∧ Fw ⟨f, p, l⟩ H3 H' ∧ Lw H' ⟨f, p, l⟩ (if t.word = ")" then brS s3 t.row t.col else s3), ?_, ?_⟩
              · refine ⟨_, rfl, rfl, _, rfl, ?_⟩
                by_cases w2 : t.word = ")"
                · rw [decide_eq_true (congrArg V.str w2), if_pos w2]
                  refine iteT ⟨_, rfl, szS (by simp), fun p9 hp9 => ?_⟩
                  have s9 := same_new (o := HO.lst []) hp9
                  refine ⟨D, p9, _, rfl, rfl, .of (s9 _ _ hD8), .of upd_same, _, rfl, ?_⟩
                  have hL9 := hL8.same s9
                  have f9 := f8.trans (Fw.of (A := ⟨f, p, l⟩) s9)
                  have hD9 := s9 _ _ hD8
                  generalize upd H8 p9 (.lst []) = H9 at hL9 f9 hD9 ⊢
                  unfold brS
                  rcases List.eq_nil_or_concat (ixb s3.pile s3.pile.length) with hix | ⟨more, i0, hix⟩
                  · rw [hix]
                    have hno : brR s3.pile.reverse = none := brR_none fun e he => ixb_nil hix e (List.mem_reverse.mp he)
                    rw [hno]
                    exact iteF ⟨⟨_, rfl⟩, f9, hL9⟩
                  · rw [List.concat_eq_append] at hix
                    rw [hix] at hD9 ⊢
                    rw [List.map_append] at hD9
                    obtain ⟨e, he, heb, hall⟩ := ixb_last hix
                    have hi0 : i0 < s3.pile.length := (List.getElem?_eq_some_iff.mp he).1
                    have hsp := split_at he
                    have hrev : s3.pile.reverse = (s3.pile.drop (i0 + 1)).reverse ++ e :: (s3.pile.take i0).reverse := by
                      conv => lhs; rw [hsp]
                      rw [List.reverse_append, List.reverse_cons, List.append_assoc]
                      rfl
                    have hdr : s3.pile.drop i0 = e :: s3.pile.drop (i0 + 1) := by
                      obtain ⟨hi, h2⟩ := List.getElem?_eq_some_iff.mp he
                      rw [List.drop_eq_getElem_cons hi, h2]
                    have hyes : brR s3.pile.reverse = some ((s3.pile.drop (i0 + 1)).reverse.length, (s3.pile.take i0).reverse) := by
                      rw [hrev]
                      exact brR_hit heb fun x hx => hall x (List.mem_reverse.mp hx)
                    rw [hyes]
                    rw [show (if true = true then !(List.map nV (more ++ [i0])).isEmpty else (List.map nV (more ++ [i0])).isEmpty) = true by rw [List.map_append]; simp]
                    refine iteT ⟨_, rfl, _, rfl, _, rfl, D, _, _, nV i0, rfl, rfl, .of hD9, atI_last _ _, _, rfl, _, rfl, ⟨f, p, l⟩, s3, i0, tb, t.row, t.col, rfl, hL9, kt4 f9, by omega, by omega, fun HA fA hLA => ⟨⟨_, rfl⟩, f9.trans fA, ?_⟩⟩
                    have e1 : popS s3 t.row t.col ((s3.pile.drop (i0 + 1)).reverse.length, (s3.pile.take i0).reverse) = { s3 with told := s3.told ++ shuts t.row t.col (nB (s3.pile.drop i0)), pile := s3.pile.take i0 } := by
                      unfold popS
                      rw [List.length_reverse, List.reverse_reverse, hdr, show nB (e :: s3.pile.drop (i0 + 1)) = nB (s3.pile.drop (i0 + 1)) by unfold nB; rw [List.filter_cons_of_neg (by rw [heb]; decide)], nB_all hall]
                    show Lw HA ⟨f, p, l⟩ (popS _ _ _ _)
                    rw [e1]
                    exact hLA
                · rw [decide_eq_false (fun z => w2 (V.str.inj z)), if_neg w2]
                  exact iteF ⟨⟨_, rfl⟩, f8, hL8⟩
              · rintro σ' H9 ⟨⟨y12', rfl⟩, f9, hL9⟩
                generalize (if t.word = ")" then brS s3 t.row t.col else s3) = s4 at hL9 l7 o7 p8 ll3 ⊢
                rw [lse] at l7
                rw [o6] at o7
                have hb9 := kt4 f9
                have q9 : s4.told.length + s4.pile.length = phi s4 := rfl
                obtain ⟨us9, h91, h92⟩ := hL9.found
                have hu9 : us9.length = s4.told.length := h92.length
                refine ⟨_, rfl, .inl ⟨rfl, _, .of h91⟩, _, rfl, _, rfl, _, rfl, szS (by simp), fun pA hpA => ?_⟩
                have sA := same_new (o := HO.tup [V.ref tb, V.str t.sort, V.str t.word]) hpA
                refine ⟨f, us9, .ref pA, rfl, rfl, sA _ _ h91, szL (by omega), ?_⟩
                have hLA := (hL9.same sA).pushF (sA _ _ h91) (tk := t) ⟨pA, tb, rfl, upd_same, sA _ _ hb9⟩
                have fA : Fw ⟨f, p, l⟩ H3 (upd (upd H9 pA (.tup [V.ref tb, V.str t.sort, V.str t.word])) f (.lst (us9 ++ [V.ref pA]))) := f9.trans ((Fw.of sA).trans Fw.updF)
                generalize upd (upd H9 pA (.tup [V.ref tb, V.str t.sort, V.str t.word])) f (.lst (us9 ++ [V.ref pA])) = HA at hLA fA ⊢
                have e5 : ({ s4 with told := s4.told ++ [t] } : LSt) = s4S s4 t := rfl
                rw [e5] at hLA
                have oA : (s4S s4 t).op = none := o7
                have lA : (s4S s4 t).line = t.row := l7
                have tA : (s4S s4 t).told = s4.told ++ [t] := rfl
                have pA' : (s4S s4 t).pile = s4.pile := rfl
                have lsA : (s4S s4 t).lets = s4.lets := rfl
                rw [s5_eq oA, lA]
                generalize s4S s4 t = s5 at hLA tA pA' lsA ⊢
                -- (
                refine ⟨fun σ' H' => (∃ y12 : Option V, σ' = [some (.ref a), some (.ref f), some (.ref p), some (.ref l), some (.str ""), some (.int (t.row : Int)), some (.ref be), some (.ref tb), some (.str t.sort), some (.str t.word), some (.bl (s1S s t).2), some (.ref D), y12]) ∧ Fw ⟨f, p, l⟩ H3 H' ∧ Lw H' ⟨f, p, l⟩ (s6S s5 t), ?_, ?_⟩
                · refine ⟨_, rfl, rfl, _, rfl, ?_⟩
                  by_cases w1 : t.word = "("
                  · rw [decide_eq_true (congrArg V.str w1), show s6S s5 t = { s5 with pile := s5.pile ++ [⟨false, 0, none⟩] } from if_pos w1]
                    obtain ⟨psA, k1, k2⟩ := hLA.pile
                    have hpA : psA.length = s4.pile.length := by rw [← pA']; exact k2.length
                    refine iteT ⟨_, rfl, .inl ⟨rfl, _, .of k1⟩, szS (by simp), fun pB hpB => ?_⟩
                    have sB := same_new (o := HO.lst [V.str "(", V.int 0, V.int 0]) hpB
                    refine ⟨p, psA, .ref pB, rfl, rfl, sB _ _ k1, szL (by omega), ⟨_, rfl⟩, fA.trans ((Fw.of sB).trans Fw.updP), ?_⟩
                    exact (hLA.same sB).setP (Paired.snoc (k2.mono fun _ _ q => q.ke0 (.of sB)) ⟨pB, rfl, .inl ⟨rfl, upd_same⟩⟩)
                  · rw [decide_eq_false (fun z => w1 (V.str.inj z)), show s6S s5 t = s5 from if_neg w1]
                    exact iteF ⟨⟨_, rfl⟩, fA, hLA⟩
                · rintro σ' HB ⟨⟨z12, rfl⟩, fB, hLB⟩
                  have tB : (s6S s5 t).told = s4.told ++ [t] := by
                    rw [← tA]
                    unfold s6S
                    split <;> rfl
                  have lsB : (s6S s5 t).lets = s4.lets := by
                    rw [← lsA]
                    unfold s6S
                    split <;> rfl
                  generalize s6S s5 t = s6 at hLB tB lsB ⊢
                  have hbB := kt4 fB
                  -- let
                  refine ⟨fun σ' H' => (∃ y12 : Option V, σ' = [some (.ref a), some (.ref f), some (.ref p), some (.ref l), some (.str ""), some (.int (t.row : Int)), some (.ref be), some (.ref tb), some (.str t.sort), some (.str t.word), some (.bl (s1S s t).2), some (.ref D), y12]) ∧ Fw ⟨f, p, l⟩ H3 H' ∧ Lw H' ⟨f, p, l⟩ (s7S s6 t), ?_, ?_⟩
                  · refine ⟨_, rfl, rfl, _, rfl, ?_⟩
                    by_cases w1 : t.word = "let"
                    · rw [decide_eq_true (congrArg V.str w1), show s7S s6 t = { s6 with lets := s6.lets ++ [s6.told.length] } from if_pos w1]
                      obtain ⟨lsC, k1, k2⟩ := hLB.lets
                      have hlB : lsC.length < 90000 := by
                        rw [k2.length, lsB]
                        omega
                      refine iteT ⟨_, rfl, .inl ⟨rfl, _, .of k1⟩, _, rfl, l, lsC, .ref tb, rfl, rfl, k1, szL (by omega), ⟨_, rfl⟩, fB.trans Fw.updL, ?_⟩
                      refine hLB.setL (Paired.snoc k2 ⟨tb, t, rfl, hbB, ?_, ?_, htm.1⟩)
                      · rw [tB]
                        simp
                      · rw [tB]
                        simp
                    · rw [decide_eq_false (fun z => w1 (V.str.inj z)), show s7S s6 t = s6 from if_neg w1]
                      exact iteF ⟨⟨_, rfl⟩, fB, hLB⟩
                  · rintro σ' HC ⟨⟨z12', rfl⟩, fC, hLC⟩
                    refine ⟨fun σ' H' => (∃ y12 : Option V, σ' = [some (.ref a), some (.ref f), some (.ref p), some (.ref l), some (.str (opS (opT t))), some (.int (t.row : Int)), some (.ref be), some (.ref tb), some (.str t.sort), some (.str t.word), some (.bl (s1S s t).2), some (.ref D), y12]) ∧ Same HC H', ?_, ?_⟩
                    · refine ⟨_, rfl, szS (by simp), fun pD hpD => ?_⟩
                      refine ⟨pD, (["let", "of"] : List Str).map V.str, rfl, .inl (.of upd_same), rfl, rfl, _, rfl, ?_⟩
                      rw [show (if false = true then !inV (V.str t.word) ((["let", "of"] : List Str).map V.str) else inV (V.str t.word) ((["let", "of"] : List Str).map V.str)) = decide (t.word ∈ (["let", "of"] : List Str)) from in_strs _ _]
                      unfold opT
                      by_cases w1 : t.word = "let"
                      · rw [decide_eq_true (by rw [w1]; simp), if_pos w1]
                        exact iteT ⟨_, rfl, ⟨_, by rw [w1]; rfl⟩, same_new hpD⟩
                      · by_cases w2 : t.word = "of"
                        · rw [decide_eq_true (by rw [w2]; simp), if_neg w1, if_pos w2]
                          exact iteT ⟨_, rfl, ⟨_, by rw [w2]; rfl⟩, same_new hpD⟩
                        · rw [decide_eq_false (by simp [w1, w2]), if_neg w1, if_neg w2]
                          exact iteF ⟨⟨_, rfl⟩, same_new hpD⟩
                    · rintro σ' HD ⟨⟨z12'', rfl⟩, sD⟩
                      have fD := fC.trans (Fw.of (A := ⟨f, p, l⟩) sD)
                      have hbD := kt4 fD
                      refine ⟨_, rfl, tb, _, 0, _, rfl, rfl, .of hbD, rfl, _, rfl, tb, _, 1, _, rfl, rfl, .of hbD, rfl, _, rfl, t.word, rfl, szS (by omega), _, _, rfl, rfl, szS (by simp), fun pE hpE => ?_⟩
                      have sE := same_new (o := HO.tup [V.int (t.row : Int), V.int ((t.col : Int) + (t.word.length : Int))]) hpE
                      refine ⟨pE, _, _, _, _, _, _, rfl, fD.trans (Fw.of sE), (((hLC.same sD).same sE).ops _ _), ?_⟩
                      unfold PlT
                      rw [upd_same]
                      rfl
    · rintro σ H4 ⟨be, y7, y8, y9, y10, y11, y12, rfl, f4, hL4, hbe⟩
      obtain ⟨hph, _⟩ := hfold ts.length (Nat.le_refl _)
      rw [hul] at hL4 hbe ⊢
      rw [List.take_length] at hL4 hbe hph ⊢
      have hI := foldS_inv ts initS_inv fun t ht => (hts t ht).1
      have eL : laidS ts = (endS (ts.foldl takeS initS) (endP ts).1 (endP ts).2).told := rfl
      generalize ts.foldl takeS initS = s at hL4 hph hI eL ⊢
      generalize (endP ts).1 = r at hbe eL
      generalize (endP ts).2 = c at hbe eL
      have hphi : s.told.length + s.pile.length = phi s := rfl
      have sameH : ∀ {H' : Hp}, Fw ⟨f, p, l⟩ H3 H' → Same H H' := fun {H'} f' b o ho => f' b o (ne_of_none ho hf) (ne_of_none ho hp0) (ne_of_none ho hl0) (s03 b o ho)
      have fin : ∀ (s' : LSt) (H5 : Hp), Fw ⟨f, p, l⟩ H3 H5 → Lw H5 ⟨f, p, l⟩ { s' with told := s'.told ++ shuts r c (nB (s'.pile.drop 0)), pile := s'.pile.take 0 } → s'.told ++ shuts r c (nB s'.pile) = laidS ts → Q (.ref f) H5 := fun s' H5 f5 hL5 e => by
        obtain ⟨us5, h1, h2⟩ := hL5.found
        refine q f H5 us5 hf (sameH f5) h1 ?_
        rw [← e]
        exact h2
      refine ⟨fun σ' H' => ∃ s' : LSt, (∃ y4 y5 y7 y8 y9 y10 y11 y12 : Option V, σ' = [some (.ref a), some (.ref f), some (.ref p), some (.ref l), y4, y5, some (.ref be), y7, y8, y9, y10, y11, y12]) ∧ Fw ⟨f, p, l⟩ H3 H' ∧ Lw H' ⟨f, p, l⟩ s' ∧ s'.told ++ shuts r c (nB s'.pile) = laidS ts ∧ phi s' ≤ phi s + 2 ∧ PlT H' be r c, ?_, ?_⟩
      · refine ⟨_, rfl, rfl, _, rfl, ?_⟩
        by_cases ho : s.op = some ("text" : Str)
        · rw [decide_eq_true (show V.str (opS s.op) = V.str "text" by rw [ho]; rfl)]
          obtain ⟨us5, h1, h2⟩ := hL4.found
          have hu5 : us5.length = s.told.length := h2.length
          refine iteT ⟨_, rfl, .inl ⟨rfl, _, .of h1⟩, _, rfl, szS (by simp), fun p5 hp5 => ?_⟩
          have s5 := same_new (o := HO.tup [V.ref be, V.str "mark", V.str "open"]) hp5
          refine ⟨f, us5, .ref p5, rfl, rfl, s5 _ _ h1, szL (by omega), ?_⟩
          have hL5 := (hL4.same s5).pushF (s5 _ _ h1) (tk := mkT r c "open") ⟨p5, be, rfl, upd_same, s5 _ _ hbe⟩
          have g5 : Fw ⟨f, p, l⟩ H4 (upd (upd H4 p5 (.tup [V.ref be, V.str "mark", V.str "open"])) f (.lst (us5 ++ [V.ref p5]))) := (Fw.of s5).trans Fw.updF
          generalize upd (upd H4 p5 (.tup [V.ref be, V.str "mark", V.str "open"])) f (.lst (us5 ++ [V.ref p5])) = H5 at hL5 g5 ⊢
          have f5 := f4.trans g5
          obtain ⟨ps5, k1, k2⟩ := hL5.pile
          have hp5' : ps5.length = s.pile.length := k2.length
          refine ⟨_, rfl, .inl ⟨rfl, _, .of k1⟩, szS (by simp), fun p6 hp6 => ?_⟩
          have s6 := same_new (o := HO.lst [V.str "text", V.int 1, V.int 0]) hp6
          refine ⟨p, ps5, .ref p6, rfl, rfl, s6 _ _ k1, szL (by omega), _, ⟨_, _, _, _, _, _, _, _, rfl⟩, f5.trans ((Fw.of s6).trans Fw.updP), (hL5.same s6).setP (Paired.snoc (k2.mono fun _ _ q => q.ke0 (.of s6)) (b := (⟨true, 1, none⟩ : Ent)) ⟨p6, rfl, .inr ⟨rfl, "text", .int 0, upd_same, by decide +kernel, (fun z => absurd z (by decide +kernel)), fun _ => rfl⟩⟩), ?_, ?_, (Fw.kt hL4 (g5.trans ((Fw.of s6).trans Fw.updP))) _ _ hbe⟩
          · rw [eL]
            unfold endS
            show s.told ++ [mkT r c "open"] ++ shuts r c (nB (s.pile ++ [⟨true, 1, none⟩])) = (if s.op = some ("text" : Str) then s.told ++ [mkT r c "open"] ++ [mkT r c "shut"] else s.told) ++ shuts r c (nB s.pile)
            rw [if_pos ho, nB_app]
            show s.told ++ [mkT r c "open"] ++ shuts r c (nB s.pile + 1) = _
            rw [show shuts r c (nB s.pile + 1) = [mkT r c "shut"] ++ shuts r c (nB s.pile) from rfl]
            simp
          · unfold phi
            simp
            omega
        · rw [decide_eq_false (fun z => by
            have z1 := V.str.inj z
            cases ho2 : s.op with
            | none => rw [ho2] at z1; exact absurd z1 (by decide +kernel)
            | some o => rw [ho2] at z1; exact ho (by rw [ho2]; exact congrArg some z1))]
          refine iteF ⟨s, ⟨_, _, _, _, _, _, _, _, rfl⟩, f4, hL4, ?_, by omega, hbe⟩
          rw [eL]
          unfold endS
          show _ = (if s.op = some ("text" : Str) then s.told ++ [mkT r c "open"] ++ [mkT r c "shut"] else s.told) ++ shuts r c (nB s.pile)
          rw [if_neg ho]
      · rintro σ' H5 ⟨s', ⟨_, _, _, _, _, _, _, _, rfl⟩, f5, hL5, e5, hp5, hb5⟩
        exact ⟨_, rfl, _, rfl, _, rfl, ⟨f, p, l⟩, s', 0, be, r, c, rfl, hL5, hb5, Nat.zero_le _, by omega, fun H6 f6 hL6 => ⟨_, rfl, fin s' H6 (f5.trans f6) hL6 e5⟩⟩
end
end Sw
set_option Elab.async false
set_option pp.maxSteps 600
set_option pp.deepTerms false
set_option linter.all false
set_option maxRecDepth 100000
set_option maxHeartbeats 4000000
namespace Sw
open PySem PySem.Spec PyProof.Rows L2 SX
def balW : Option Nat → Str → Option Nat
  | none, _ => none
  | some n, w => if w = "open" then some (n + 1) else if w = "shut" then (match n with | 0 => none | n + 1 => some n) else some n
theorem balW_open {n : Nat} {w : Str} (h : w = "open") : balW (some n) w = some (n + 1) := if_pos h
theorem balW_s0 {w : Str} (h : ¬ w = "open") (h2 : w = "shut") : balW (some 0) w = none := (if_neg h).trans (if_pos h2)
theorem balW_s1 {n : Nat} {w : Str} (h : ¬ w = "open") (h2 : w = "shut") : balW (some (n + 1)) w = some n := (if_neg h).trans (if_pos h2)
theorem balW_no {n : Nat} {w : Str} (h : ¬ w = "open") (h2 : ¬ w = "shut") : balW (some n) w = some n := (if_neg h).trans (if_neg h2)
def marksOf (l : List Tk) : List Str := (l.filter fun t => decide (t.sort = ("mark" : Str))).map (·.word)
theorem balW_none (ws : List Str) : ws.foldl balW none = none := by
  induction ws with
  | nil => rfl
  | cons w ws ih => exact ih
theorem bal_marks : ∀ (l : List Tk) (o : Option Nat), l.foldl balF o = (marksOf l).foldl balW o
  | [], o => rfl
  | t :: l, o => by
    by_cases h : t.sort = "mark"
    · have e : marksOf (t :: l) = t.word :: marksOf l := by
        unfold marksOf
        rw [List.filter_cons_of_pos (by exact decide_eq_true h)]
        rfl
      rw [e]
      show l.foldl balF (balF o t) = (marksOf l).foldl balW (balW o t.word)
      rw [bal_marks l]
      congr 1
      cases o with
      | none => rfl
      | some n =>
        show (if t.sort = "mark" then _ else _) = _
        rw [if_pos h]
        rfl
    · have e : marksOf (t :: l) = marksOf l := by
        unfold marksOf
        rw [List.filter_cons_of_neg (by simpa using h)]
      rw [e]
      show l.foldl balF (balF o t) = _
      rw [bal_marks l]
      congr 1
      cases o with
      | none => rfl
      | some n =>
        show (if t.sort = "mark" then _ else _) = _
        rw [if_neg h]
section
variable {P : Program} {w : World} {K : PySem.W.Frag} {mg : Str → Option Value} {base : Heap}
def spEven (K : PySem.W.Frag) : Sp := fun vs H Q _ => ∃ (a : Addr) (ws : List Str), vs = [.ref a] ∧ SqL K H a (ws.map V.str) ∧ ws.foldl balW (some 0) = some 0 ∧ Q (.bl true) H
theorem ok_L_even (T : Txt K mg) : FnOk P w K mg base (L2.CX P w) 1 (He.ga K "_law_even") (fdAt K (He.ga K "_law_even")) ["_law_marks"] (spEven K) := by
  refine T.d_L_even.fn.ok sc_L_even (fun vs H Q E h => ?_) (fun cdv A outer s H vs Q E hr h => ?_)
  · obtain ⟨_, _, rfl, _⟩ := h
    rfl
  · obtain ⟨a, ws, rfl, hS, hb, q⟩ := h
    refine ⟨_, PSs.nox (pss_cons (ps_set (i := 1) sc_L_even.nd rfl (.inl rfl) pe_int)
      (pss_cons (ps_for PassesOwn.never rfl (pi_list (pv 0)) (pg_name (i := 2) sc_L_even.nd rfl (.inl rfl))
        (pss_cons (ps_set (i := 1) sc_L_even.nd rfl (.inl rfl) (pe_op op_sub (pe_op op_add (pv 1) (pe_callTy call_int1 (by rfl) T.b_int (by decide +kernel) (pa_cons (pe_cmpR op_eq (pv 2) pe_str (nomark _)) pa_nil))) (pe_callTy call_int1 (by rfl) T.b_int (by decide +kernel) (pa_cons (pe_cmpR op_eq (pv 2) pe_str (nomark _)) pa_nil))))
      (pss_one (ps_if (pt_cmpR op_lt (pv 1) pe_int (nomark _))
        (pss_one (ps_ret pe_bl))
        pss_nil))))
      (pss_one (ps_ret (pe_cmpR op_eq (pv 1) pe_int (nomark _)))))), ?_⟩
    refine ⟨_, rfl, a, rfl, ⟨_, hS⟩, ?_⟩
    refine for_list (K := K) (a := a) (xs := ws.map V.str) (fun i σ H' => ∃ (m : Nat) (y2 : Option V), σ = [some (.ref a), some (.int (m : Int)), y2] ∧ H' = H ∧ (ws.take i).foldl balW (some 0) = some m)
      ⟨0, none, rfl, rfl, rfl⟩ (fun i σ H' _ ⟨_, _, _, e, _⟩ => by rw [e]; exact hS) ?_ ?_
    · rintro i x σ H' hx ⟨m, y2, rfl, rfl, hm⟩
      rw [List.getElem?_map] at hx
      obtain ⟨wd, hw, rfl⟩ := Option.map_eq_some_iff.mp hx
      have hnext : (ws.take (i + 1)).foldl balW (some 0) = balW (some m) wd := by
        rw [List.take_add_one, hw, List.foldl_append, hm]
        rfl
      have hsome : ∃ m', balW (some m) wd = some m' := by
        cases e : balW (some m) wd with
        | some m' => exact ⟨m', rfl⟩
        | none =>
          exfalso
          rw [e] at hnext
          have h2 : ws.foldl balW (some 0) = none := by
            rw [← List.take_append_drop (i + 1) ws, List.foldl_append, hnext, balW_none]
          rw [hb] at h2
          cases h2
      obtain ⟨m', hm'⟩ := hsome
      refine ⟨_, rfl, _, rfl, rfl, .inr ⟨_, rfl, _, _, rfl, rfl, _, rfl, rfl, .inr ⟨_, rfl, _, _, rfl, rfl, ?_⟩⟩⟩
      have key : ((m : Int) + (if decide (V.str wd = V.str "open") = true then 1 else 0)) - (if decide (V.str wd = V.str "shut") = true then 1 else 0) = (m' : Int) := by
        by_cases w1 : wd = "open"
        · rw [balW_open w1] at hm'
          rw [decide_eq_true (congrArg V.str w1), decide_eq_false (fun z => absurd (w1.symm.trans (V.str.inj z)) (by decide +kernel))]
          have := Option.some.inj hm'
          simp
          omega
        · rw [decide_eq_false (fun z => w1 (V.str.inj z))]
          by_cases w2 : wd = "shut"
          · rw [decide_eq_true (congrArg V.str w2)]
            cases m with
            | zero => rw [balW_s0 w1 w2] at hm'; cases hm'
            | succ m =>
              rw [balW_s1 w1 w2] at hm'
              have := Option.some.inj hm'
              simp
              omega
          · rw [balW_no w1 w2] at hm'
            rw [decide_eq_false (fun z => w2 (V.str.inj z))]
            have := Option.some.inj hm'
            simp
            omega
      refine ⟨_, rfl, _, _, rfl, rfl, _, rfl, ?_⟩
      dsimp only
      rw [key, decide_eq_false (show ¬ (m' : Int) < 0 by omega)]
      exact iteF ⟨m', _, rfl, rfl, hnext.trans hm'⟩
    · rintro σ H' ⟨m, y2, rfl, rfl, hm⟩
      rw [List.length_map, List.take_length, hb] at hm
      cases hm
      exact ⟨_, rfl, rfl, q⟩
end
end Sw
set_option Elab.async false
set_option pp.maxSteps 600
set_option pp.deepTerms false
set_option linter.all false
set_option maxRecDepth 100000
set_option maxHeartbeats 4000000
namespace Sw
open PySem PySem.Spec PyProof.Rows L2 SX
theorem strOk_of {w : Str} (h : ∀ c ∈ tl w, c < 128) : PyData.strOk w = true := by
  unfold PyData.strOk
  rw [← Array.all_toList, List.all_eq_true]
  intro c hc
  exact decide_eq_true (Nat.lt_trans (h c hc) (by decide))
/-! ### the order of lexemes -/
theorem sort_ne {c : Nat} {r : List Nat} {so : Str} {n : Nat} (h : lexOne (c :: r) = (so, n)) (hn : so ≠ "none") : so ≠ "mark" ∧ PyData.strOk so = true := by
  rcases tok_shape h hn with ⟨rfl, _⟩ | ⟨rfl, _⟩ | ⟨rfl, _⟩ | ⟨rfl, _⟩
  · exact ⟨by decide +kernel, by decide +kernel⟩
  · exact ⟨by decide +kernel, by decide +kernel⟩
  · split
    · exact ⟨by decide +kernel, by decide +kernel⟩
    · exact ⟨by decide +kernel, by decide +kernel⟩
  · exact ⟨by decide +kernel, by decide +kernel⟩
theorem lexR_ord {num i : Nat} {s : List Nat} {e : Option (Nat × Nat)} {ts : List Tk} (h : LexR num i s e ts) : (∀ t ∈ ts, t.row = num ∧ i < t.col ∧ t.sort ≠ "mark" ∧ PyData.strOk t.sort = true ∧ t.word.length ≤ s.length ∧ ∀ c ∈ tl t.word, c ∈ s) ∧ Ord ts := by
  induction h with
  | fin _ => exact ⟨(fun t ht => by cases ht), List.Pairwise.nil⟩
  | @blank i r e ts _ ih => exact ⟨fun t ht => by
      obtain ⟨h1, h2, h3, h4, h5, h6⟩ := ih.1 t ht
      exact ⟨h1, by omega, h3, h4, by rw [List.length_cons]; omega, fun c hc => List.mem_cons_of_mem _ (h6 c hc)⟩, ih.2⟩
  | @tok i s e ts so n h1 h2 h3 h4 h5 h6 h7 h8 h9 ih =>
    refine ⟨fun t ht => ?_, ?_⟩
    · rcases List.mem_cons.mp ht with rfl | ht
      · cases s with
        | nil => exact absurd rfl h1
        | cons c r =>
          obtain ⟨k1, k2⟩ := sort_ne h4 h5
          refine ⟨rfl, by show i < i + 1; omega, k1, k2, ?_, fun d hd => ?_⟩
          · show (S ((c :: r).take n)).length ≤ _
            rw [S_len]
            exact List.length_take_le' _ _
          · have hd2 : d ∈ tl (S ((c :: r).take n)) := hd
            rw [tl_S] at hd2
            exact List.mem_of_mem_take hd2
      · obtain ⟨k1, k2, k3, k4, k5, k6⟩ := ih.1 t ht
        refine ⟨k1, by omega, k3, k4, ?_, fun d hd => List.mem_of_mem_drop (k6 d hd)⟩
        rw [List.length_drop] at k5
        omega
    · refine List.Pairwise.cons (fun t ht => ?_) ih.2
      obtain ⟨k1, k2, _⟩ := ih.1 t ht
      exact .inr ⟨k1.symm, by show i + 1 < t.col; omega⟩
  | none _ _ _ _ => exact ⟨(fun t ht => by cases ht), List.Pairwise.nil⟩
  | glued _ _ _ _ _ _ _ _ _ => exact ⟨(fun t ht => by cases ht), List.Pairwise.nil⟩
theorem lexE_ord : ∀ {n : Nat} {rows : List Str} {ts : List Tk}, LexE n rows none ts → (∀ r ∈ rows, (tl r).length ≤ 300 ∧ ∀ c ∈ tl r, c < 128) → (∀ t ∈ ts, n ≤ t.row ∧ t.sort ≠ "mark" ∧ PyData.strOk t.sort = true ∧ PyData.strOk t.word = true ∧ t.word.length ≤ 300) ∧ Ord ts
  | _, _, _, .nil, _ => ⟨(fun t ht => by cases ht), List.Pairwise.nil⟩
  | n, _, _, .cons (r := r) (rs := rs) (t1 := t1) (t2 := t2) h1 h2, h => by
    have hr := h r (List.mem_cons_self ..)
    obtain ⟨a1, a2⟩ := lexR_ord h1
    obtain ⟨b1, b2⟩ := lexE_ord h2 fun x hx => h x (List.mem_cons_of_mem _ hx)
    refine ⟨fun t ht => ?_, ?_⟩
    · rcases List.mem_append.mp ht with ht | ht
      · obtain ⟨k1, k2, k3, k4, k5, k6⟩ := a1 t ht
        exact ⟨by omega, k3, k4, strOk_of fun c hc => hr.2 c (k6 c hc), by omega⟩
      · obtain ⟨k1, k2⟩ := b1 t ht
        exact ⟨by omega, k2⟩
    · refine List.pairwise_append.mpr ⟨a2, b2, fun a ha b hb => .inl ?_⟩
      have k1 := (a1 a ha).1
      have k2 := (b1 b hb).1
      omega
/-! ### rows that are read to their end -/
def Lexed (l : List Nat) : Prop := ∀ num, ∃ ts, LexR num 0 l none ts
def RowFree (l : List Nat) : Prop := ∀ num, ∃ ts, RowI num l ts (fun _ => True)
def RowOk (l : List Nat) : Prop := ∀ num, ∃ ts ok, RowI num l ts ok ∧ ok [] ∧ ∀ r, ok (32 :: r)
theorem RowFree.start (k : Nat) : RowFree (List.replicate k 32) := fun num => ⟨[], RowI.start num k⟩
theorem RowFree.ok {l : List Nat} (h : RowFree l) : RowOk l := fun num => by
  obtain ⟨ts, q⟩ := h num
  exact ⟨ts, _, q, True.intro, fun _ => True.intro⟩
theorem RowFree.tok {l : List Nat} (h : RowFree l) {so w : Str} (t : TokOk so w) (hn : so ≠ "none") : RowOk (l ++ tl w) := fun num => by
  obtain ⟨ts, q⟩ := h num
  exact ⟨_, _, q.tok t (fun _ => True.intro) hn, Sep.nil so w, fun r => Sep.blank so w r⟩
theorem RowOk.blanks {l : List Nat} (h : RowOk l) (k : Nat) : RowFree (l ++ List.replicate (k + 1) 32) := fun num => by
  obtain ⟨ts, ok, q, h1, h2⟩ := h num
  exact ⟨ts, q.blanks k h2⟩
theorem RowOk.lexed {l : List Nat} (h : RowOk l) : Lexed l := fun num => by
  obtain ⟨ts, ok, q, h1, h2⟩ := h num
  exact ⟨ts, q.done h1⟩
theorem lexE_all : ∀ (rows : List Str) (n : Nat), (∀ r ∈ rows, Lexed (tl r)) → ∃ ts, LexE n rows none ts
  | [], n, _ => ⟨[], .nil⟩
  | r :: rows, n, h => by
    obtain ⟨t1, h1⟩ := h r (List.mem_cons_self ..) n
    obtain ⟨t2, h2⟩ := lexE_all rows (n + 1) fun x hx => h x (List.mem_cons_of_mem _ hx)
    exact ⟨_, .cons h1 h2⟩
/-- drawn words, each a lexeme -/
def tokB (w : Str) : Bool := (decide (w ∈ WORDS) || decide (w ∈ SIGNS)) || ((tl w).all isSm && (decide (1 ≤ (tl w).length) && (decide ((tl w).length ≤ 8) && decide (w ∉ WORDS)))) || (match tl w with | [c] => isGr c || (isFi c && decide (c ≠ 48)) | _ => false)
theorem tokB_ok {w : Str} (h : tokB w = true) : ∃ so, TokOk so w ∧ so ≠ "none" := by
  unfold tokB at h
  rcases Bool.or_eq_true_iff.mp h with h | h
  · rcases Bool.or_eq_true_iff.mp h with h | h
    · rcases Bool.or_eq_true_iff.mp h with h | h
      · exact ⟨"word", .inr (.inl ⟨rfl, of_decide_eq_true h⟩), by decide +kernel⟩
      · exact ⟨"sign", .inr (.inr (.inr (.inr ⟨rfl, of_decide_eq_true h⟩))), by decide +kernel⟩
    · obtain ⟨h1, h⟩ := Bool.and_eq_true_iff.mp h
      obtain ⟨h2, h⟩ := Bool.and_eq_true_iff.mp h
      obtain ⟨h3, h4⟩ := Bool.and_eq_true_iff.mp h
      exact ⟨"name", .inl ⟨rfl, h1, of_decide_eq_true h2, of_decide_eq_true h3, of_decide_eq_true h4⟩, by decide +kernel⟩
  · split at h
    · rename_i c e
      rcases Bool.or_eq_true_iff.mp h with h | h
      · exact ⟨"maker", .inr (.inr (.inl ⟨rfl, c, [], e, h, rfl, Nat.zero_le _⟩)), by decide +kernel⟩
      · obtain ⟨h1, h2⟩ := Bool.and_eq_true_iff.mp h
        exact ⟨"number", .inr (.inr (.inr (.inl ⟨rfl, .inr ⟨c, [], e, h1, of_decide_eq_true h2, rfl⟩⟩))), by decide +kernel⟩
    · cases h
theorem RowFree.word {l : List Nat} (h : RowFree l) {w : Str} (t : tokB w = true) : RowOk (l ++ tl w) := by
  obtain ⟨so, h1, h2⟩ := tokB_ok t
  exact h.tok h1 h2
def SC14 : List Str := ["x", "let", "of", "in", "(", ")", "f", "=", "A", "then", "|", "else", "7", "let"]
theorem sc14_ok : ∀ w ∈ SC14, tokB w = true ∧ (tl w).length ≤ 4 ∧ ∀ c ∈ tl w, c < 128 := by decide +kernel
theorem mul_blk (n : Nat) : tl (S (List.replicate n (tl " ")).flatten) = List.replicate n 32 := by
  have e : tl " " = [32] := by decide +kernel
  rw [tl_S, e]
  induction n with
  | zero => rfl
  | succ n ih => rw [List.replicate_succ, List.flatten_cons, ih, List.replicate_succ]; rfl
theorem sp_S : (Str.ofString " ") = S (tl " ") := (S_tl' _).symm
theorem sp_len : (tl " ").length = 1 := by decide +kernel
theorem rep_lt (n : Nat) : ∀ c ∈ List.replicate n 32, c < 128 := fun c h => by
  rw [(List.mem_replicate.mp h).2]
  decide
/-- rows, each read to its end -/
def RowsL (n : Nat) (rows : List Str) : Prop := ∀ r ∈ rows, (tl r).length ≤ n ∧ (∀ c ∈ tl r, c < 128) ∧ Lexed (tl r)
theorem pu_ne {H : Hp} {pu p : Addr} {n : Nat} (h : PuOk H pu n) (hp : H p = none) : p ≠ pu := fun z => by
  obtain ⟨a, b, c, h1, _⟩ := h
  rw [z, h1] at hp
  cases hp
section
variable {P : Program} {w : World} {K : PySem.W.Frag} {mg : Str → Option Value} {base : Heap}
def spScat : Sp := fun vs H Q _ => ∃ (pu : Addr) (steps n : Nat), vs = [.ref pu, .int (steps : Int)] ∧ steps ≤ 10 ∧ PuOk H pu n ∧ n ≤ 1000 ∧
  ∀ p H' rows, H p = none → But pu H H' → H' p = some (.lst (rows.map V.str)) → rows.length ≤ 10 → RowsL 300 rows → Q (.ref p) H'
theorem ok_L_scattered (T : Txt K mg) : FnOk P w K mg base (L2.CX P w) 3 (He.ga K "_law_scattered") (fdAt K (He.ga K "_law_scattered")) ["_law_purse_here", "_law_steps"] spScat := by
  refine T.d_L_scattered.fn.ok sc_L_scattered (fun vs H Q E h => ?_) (fun cdv A outer s H vs Q E hr h => ?_)
  · obtain ⟨_, _, _, rfl, _⟩ := h
    rfl
  · obtain ⟨pu, steps, n, rfl, hst, hpu, hn, q⟩ := h
    refine ⟨_, PSs.nox (pss_cons (ps_set (i := 2) sc_L_scattered.nd rfl (.inl rfl) (pe_lst pa_nil))
      (pss_cons (ps_for PassesOwn.never rfl (pi_range1 (by rfl) T.b_range (pa_cons (pv 1) pa_nil)) (pg_name (i := 3) sc_L_scattered.nd rfl (.inl rfl))
        (pss_cons (ps_set (i := 4) sc_L_scattered.nd rfl (.inl rfl) (pe_op op_mulS pe_str (pe_call (ok_L_take T) (hr.mono (by decide)) (by rfl) T.d_L_take.g T.d_L_take.fn.kp T.d_L_take.b .nil passL (pa_cons (pv 0) (pa_cons pe_int pa_nil)))))
      (pss_cons (ps_for PassesOwn.never rfl (pi_range1 (by rfl) T.b_range (pa_cons (pe_call (ok_L_take T) (hr.mono (by decide)) (by rfl) T.d_L_take.g T.d_L_take.fn.kp T.d_L_take.b .nil passL (pa_cons (pv 0) (pa_cons pe_int pa_nil))) pa_nil)) (pg_name (i := 5) sc_L_scattered.nd rfl (.inl rfl))
        (pss_cons (ps_set (i := 6) sc_L_scattered.nd rfl (.inl rfl) (pe_lst (pa_cons pe_str (pa_cons pe_str (pa_cons pe_str (pa_cons pe_str (pa_cons pe_str (pa_cons pe_str (pa_cons pe_str (pa_cons pe_str (pa_cons pe_str (pa_cons pe_str (pa_cons pe_str (pa_cons pe_str (pa_cons pe_str (pa_cons pe_str pa_nil))))))))))))))))
      (pss_cons (ps_set (i := 7) sc_L_scattered.nd rfl (.inl rfl) (pe_ix ix_list (pv 6) (pe_call (ok_L_take T) (hr.mono (by decide)) (by rfl) T.d_L_take.g T.d_L_take.fn.kp T.d_L_take.b .nil passL (pa_cons (pv 0) (pa_cons pe_int pa_nil))) (fun _ _ => rfl)))
      (pss_one (ps_set (i := 4) sc_L_scattered.nd rfl (.inl rfl) (pe_op op_add_str (pe_op op_add_str (pv 4) (pv 7)) (pe_op op_mulS pe_str (pe_op op_add pe_int (pe_call (ok_L_take T) (hr.mono (by decide)) (by rfl) T.d_L_take.g T.d_L_take.fn.kp T.d_L_take.b .nil passL (pa_cons (pv 0) (pa_cons pe_int pa_nil)))))))))))
      (pss_one (ps_expr (pe_bm PySem.F.plainAttrs_list PySem.F.slot_list_append PySem.F.type_list_append mt_append (pv 2) (pa_cons (pv 4) pa_nil)))))))
      (pss_one (ps_ret (pv 2))))), ?_⟩
    refine ⟨szS (by simp), fun la hla => ⟨_, rfl, steps, rfl, by omega, by omega, ?_⟩⟩
    have nela := pu_ne hpu hla
    refine for_range (lo := 0) (n := (steps : Int).toNat) (fun i σ H' => ∃ (rows : List Str) (y3 y4 y5 y6 y7 : Option V), σ = [some (.ref pu), some (.int (steps : Int)), some (.ref la), y3, y4, y5, y6, y7] ∧ But pu H H' ∧ PuOk H' pu (n + 20 * i) ∧ H' la = some (.lst (rows.map V.str)) ∧ rows.length = i ∧ RowsL 300 rows)
      ⟨[], none, none, none, none, none, rfl, (But.refl pu H).new hla, hpu.same (same_new hla), upd_same, rfl, fun r hr => by cases hr⟩ ?_ ?_
    · rintro i σ H1 hi ⟨rows, y3, y4, y5, y6, y7, rfl, bt, hp, hl, hrl, hro⟩
      refine ⟨_, rfl, pu, 13, n + 20 * i, rfl, by decide, by decide, hp, by omega, fun r1 H2 r10 r11 bt2 fr2 hp2 => ?_⟩
      obtain ⟨k, rfl⟩ := Int.eq_ofNat_of_zero_le r10
      refine ⟨tl " ", k, congrArg V.str sp_S, rfl, by rw [sp_len]; omega, by omega, ?_⟩
      refine ⟨_, rfl, pu, 5, n + 20 * i + 1, rfl, by decide, by decide, hp2, by omega, fun r2 H3 r20 r21 bt3 fr3 hp3 => ?_⟩
      obtain ⟨m, rfl⟩ := Int.eq_ofNat_of_zero_le r20
      refine ⟨m, rfl, by omega, by omega, ?_⟩
      have bt03 := bt.trans (bt2.trans bt3)
      have hl3 := bt3 _ _ nela (bt2 _ _ nela hl)
      refine for_range (lo := 0) (n := (m : Int).toNat) (fun j σ H' => ∃ (line : Str) (y5 y6 y7 : Option V), σ = [some (.ref pu), some (.int (steps : Int)), some (.ref la), some (.int ((0 : Int) + (i : Nat))), some (.str line), y5, y6, y7] ∧ But pu H H' ∧ PuOk H' pu (n + 20 * i + 2 + 2 * j) ∧ H' la = some (.lst (rows.map V.str)) ∧ (tl line).length ≤ 13 + 7 * j ∧ (∀ c ∈ tl line, c < 128) ∧ RowFree (tl line))
        ⟨_, y5, y6, y7, rfl, bt03, hp3, hl3, by rw [mul_blk, List.length_replicate]; omega, by rw [mul_blk]; exact rep_lt k, by rw [mul_blk]; exact RowFree.start k⟩ ?_ ?_
      · rintro j σ H4 hj ⟨line, z5, z6, z7, rfl, bt4, hp4, hl4, hll, hlt, hfree⟩
        refine ⟨szS (by simp), fun ps hps => ?_⟩
        have s5 := same_new (o := HO.lst (SC14.map V.str)) hps
        have hps5 : upd H4 ps (.lst (SC14.map V.str)) ps = some (.lst (SC14.map V.str)) := upd_same
        have nps := pu_ne hp4 hps
        refine ⟨_, rfl, _, rfl, pu, 14, n + 20 * i + 2 + 2 * j, rfl, by decide, by decide, hp4.same s5, by omega, fun r3 H5 r30 r31 bt5 fr5 hp5 => ?_⟩
        obtain ⟨x, rfl⟩ := Int.eq_ofNat_of_zero_le r30
        have hx : x < SC14.length := by show x < 14; omega
        obtain ⟨wd, hwd⟩ : ∃ wd, SC14[x]? = some wd := ⟨_, List.getElem?_eq_getElem hx⟩
        obtain ⟨t1, t2, t3⟩ := sc14_ok wd (List.mem_of_getElem? hwd)
        have hps6 := bt5 _ _ nps hps5
        refine ⟨ps, _, _, .str wd, rfl, rfl, .of hps6, atI_nat (by rw [List.getElem?_map, hwd]; rfl), ?_⟩
        have hll' : line.length ≤ 50 := by rw [← tl_len]; omega
        have hwl : wd.length ≤ 4 := by rw [← tl_len]; exact t2
        refine ⟨_, rfl, _, rfl, line, wd, rfl, rfl, szS (by omega), _, rfl, pu, 3, n + 20 * i + 2 + 2 * j + 1, rfl, by decide, by decide, hp5, by omega, fun r4 H6 r40 r41 bt6 fr6 hp6 => ?_⟩
        obtain ⟨y, rfl⟩ := Int.eq_ofNat_of_zero_le r40
        refine ⟨_, _, rfl, rfl, tl " ", y + 1, congrArg V.str sp_S, by show V.int (1 + (y : Int)) = _; rw [show (1 + (y : Int)) = ((y + 1 : Nat) : Int) by omega], by rw [sp_len]; omega, by omega, ?_⟩
        have hml : (S (List.replicate (y + 1) (tl " ")).flatten).length = y + 1 := by rw [← tl_len, mul_blk, List.length_replicate]
        refine ⟨_, _, rfl, rfl, szS ?_, _, _, _, _, rfl, ?_, hp6.mono (by omega), ?_, ?_, ?_, ?_⟩
        · rw [hml, ← tl_len, tl_app, List.length_append]
          rw [← tl_len] at hll'
          omega
        · exact bt4.trans ((But.of s5).trans (bt5.trans bt6))
        · exact bt6 _ _ nela (bt5 _ _ nela (s5 _ _ hl4))
        · rw [tl_app, tl_app, mul_blk, List.length_append, List.length_append, List.length_replicate]
          omega
        · rw [tl_app, tl_app, mul_blk]
          intro c hc
          rcases List.mem_append.mp hc with hc | hc
          · rcases List.mem_append.mp hc with hc | hc
            · exact hlt c hc
            · exact t3 c hc
          · exact rep_lt _ c hc
        · rw [tl_app, tl_app, mul_blk]
          exact (hfree.word t1).blanks y
      · rintro σ H4 ⟨line, z5, z6, z7, rfl, bt4, hp4, hl4, hll, hlt, hfree⟩
        refine ⟨_, rfl, .inl ⟨rfl, _, .of hl4⟩, _, rfl, la, _, _, rfl, rfl, hl4, szL (by rw [List.length_map]; omega), rows ++ [line], _, _, _, _, _, rfl, fun b o hb ho => ?_, ?_, ?_, by rw [List.length_append, hrl]; rfl, fun r hr => ?_⟩
        · rw [upd_ne (ne_of_none ho hla)]
          exact bt4 b o hb ho
        · exact (hp4.but (But.upd (But.refl la _)) nela.symm).mono (by omega)
        · rw [upd_same, List.map_append]
          rfl
        · rcases List.mem_append.mp hr with hr | hr
          · exact hro r hr
          · rw [List.mem_singleton.mp hr]
            exact ⟨by omega, hlt, hfree.ok.lexed⟩
    · rintro σ H1 ⟨rows, y3, y4, y5, y6, y7, rfl, bt, hp, hl, hrl, hro⟩
      exact ⟨_, rfl, q la H1 rows hla bt hl (by omega) hro⟩
end
end Sw
set_option Elab.async false
set_option pp.maxSteps 600
set_option pp.deepTerms false
set_option linter.all false
set_option maxRecDepth 100000
set_option maxHeartbeats 4000000
namespace Sw
open PySem PySem.Spec PyProof.Rows L2 SX
def joinB : List Str → List Nat
  | [] => []
  | [w] => tl w
  | w :: v :: ws => tl w ++ (32 :: joinB (v :: ws))
theorem RowFree.words : ∀ (ws : List Str) {l : List Nat}, RowFree l → (∀ w ∈ ws, tokB w = true) → RowOk (l ++ joinB ws)
  | [], l, h, _ => by
    show RowOk (l ++ [])
    rw [List.append_nil]
    exact h.ok
  | [w], l, h, hw => h.word (hw w (List.mem_cons_self ..))
  | w :: v :: ws, l, h, hw => by
    show RowOk (l ++ (tl w ++ (32 :: joinB (v :: ws))))
    have h1 := (h.word (hw w (List.mem_cons_self ..))).blanks 0
    have h2 := RowFree.words (v :: ws) h1 fun x hx => hw x (List.mem_cons_of_mem _ hx)
    have e : l ++ tl w ++ List.replicate (0 + 1) 32 ++ joinB (v :: ws) = l ++ (tl w ++ (32 :: joinB (v :: ws))) := by simp
    rw [← e]
    exact h2
def K4 : List Str := ["x", "f x", "y =", "( a"]
def K7 : List Str := ["let", "of", "in", ")", "", "( let", "of let"]
def spaced (w : Str) : Option (List Str) := ([["x"], ["f", "x"], ["y", "="], ["(", "a"], ["let"], ["of"], ["in"], [")"], [], ["(", "let"], ["of", "let"]] : List (List Str)).find? fun ws => decide (joinB ws = tl w)
theorem k4_ok : ∀ w ∈ K4, ((spaced w).any fun ws => ws.all tokB && decide (joinB ws = tl w)) = true ∧ (tl w).length ≤ 3 ∧ ∀ c ∈ tl w, c < 128 := by decide +kernel
theorem k7_ok : ∀ w ∈ K7, ((spaced w).any fun ws => ws.all tokB && decide (joinB ws = tl w)) = true ∧ (tl w).length ≤ 6 ∧ ∀ c ∈ tl w, c < 128 := by decide +kernel
theorem RowFree.spaced {l : List Nat} (h : RowFree l) {w : Str} (hw : ((spaced w).any fun ws => ws.all tokB && decide (joinB ws = tl w)) = true) : RowOk (l ++ tl w) := by
  cases e : Sw.spaced w with
  | none => rw [e] at hw; cases hw
  | some ws =>
    rw [e] at hw
    have hw2 : (ws.all tokB && decide (joinB ws = tl w)) = true := hw
    obtain ⟨h1, h2⟩ := Bool.and_eq_true_iff.mp hw2
    rw [← of_decide_eq_true h2]
    exact h.words ws fun x hx => List.all_eq_true.mp h1 x hx
theorem z_ok : tl " z" = [32] ++ tl "z" ∧ tokB "z" = true ∧ (∀ c ∈ tl "z", c < 128) ∧ (tl "z").length = 1 := by decide +kernel
section
variable {P : Program} {w : World} {K : PySem.W.Frag} {mg : Str → Option Value} {base : Heap}
theorem ok_L_kept_lines (T : Txt K mg) : FnOk P w K mg base (L2.CX P w) 3 (He.ga K "_law_kept_lines") (fdAt K (He.ga K "_law_kept_lines")) ["_law_purse_here", "_law_steps"] spScat := by
  refine T.d_L_kept_lines.fn.ok sc_L_kept_lines (fun vs H Q E h => ?_) (fun cdv A outer s H vs Q E hr h => ?_)
  · obtain ⟨_, _, _, rfl, _⟩ := h
    rfl
  · obtain ⟨pu, steps, n, rfl, hst, hpu, hn, q⟩ := h
    refine ⟨_, PSs.nox (pss_cons (ps_set (i := 2) sc_L_kept_lines.nd rfl (.inl rfl) (pe_lst pa_nil))
      (pss_cons (ps_set (i := 3) sc_L_kept_lines.nd rfl (.inl rfl) (pe_lst (pa_cons pe_int pa_nil)))
      (pss_cons (ps_for PassesOwn.never rfl (pi_range1 (by rfl) T.b_range (pa_cons (pv 1) pa_nil)) (pg_name (i := 4) sc_L_kept_lines.nd rfl (.inl rfl))
        (pss_cons (ps_set (i := 5) sc_L_kept_lines.nd rfl (.inl rfl) (pe_call (ok_L_take T) (hr.mono (by decide)) (by rfl) T.d_L_take.g T.d_L_take.fn.kp T.d_L_take.b .nil passL (pa_cons (pv 0) (pa_cons pe_int pa_nil))))
      (pss_cons (ps_set (i := 6) sc_L_kept_lines.nd rfl (.inl rfl) (pe_ix ix_list (pv 3) (pe_un un_neg pe_int) (fun _ _ => rfl)))
      (C8.pss_cut (ps_if (pt_cmpR op_eq (pv 5) pe_int (nomark _))
        (pss_cons (ps_set (i := 3) sc_L_kept_lines.nd rfl (.inl rfl) (pe_slice sl_list (pv 3) po_none (po_some (pe_op op_add pe_int (pe_call (ok_L_take T) (hr.mono (by decide)) (by rfl) T.d_L_take.g T.d_L_take.fn.kp T.d_L_take.b .nil passL (pa_cons (pv 0) (pa_cons (pe_callB call_len_seq (by rfl) T.b_len PySem.boot_len (pa_cons (pv 3) pa_nil)) pa_nil)))))))
      (pss_one (ps_set (i := 6) sc_L_kept_lines.nd rfl (.inl rfl) (pe_ix ix_list (pv 3) (pe_un un_neg pe_int) (fun _ _ => rfl)))))
        pss_nil)
      (C8.pss_cut (ps_if (pt_cmpR op_eq (pv 5) pe_int (nomark _))
        (pss_one (ps_set (i := 6) sc_L_kept_lines.nd rfl (.inl rfl) (pe_op op_add (pe_op op_add (pv 6) pe_int) (pe_call (ok_L_take T) (hr.mono (by decide)) (by rfl) T.d_L_take.g T.d_L_take.fn.kp T.d_L_take.b .nil passL (pa_cons (pv 0) (pa_cons pe_int pa_nil))))))
        pss_nil)
      (pss_cons (ps_set (i := 7) sc_L_kept_lines.nd rfl (.inl rfl) (pe_op op_add_str (pe_op op_add_str (pe_op op_mulS pe_str (pv 6)) (pe_ix ix_list (pe_lst (pa_cons pe_str (pa_cons pe_str (pa_cons pe_str (pa_cons pe_str pa_nil))))) (pe_call (ok_L_take T) (hr.mono (by decide)) (by rfl) T.d_L_take.g T.d_L_take.fn.kp T.d_L_take.b .nil passL (pa_cons (pv 0) (pa_cons pe_int pa_nil))) (fun _ _ => rfl))) pe_str))
      (pss_cons (ps_set (i := 8) sc_L_kept_lines.nd rfl (.inl rfl) (pe_ix ix_list (pe_lst (pa_cons pe_str (pa_cons pe_str (pa_cons pe_str (pa_cons pe_str (pa_cons pe_str (pa_cons pe_str (pa_cons pe_str pa_nil)))))))) (pe_call (ok_L_take T) (hr.mono (by decide)) (by rfl) T.d_L_take.g T.d_L_take.fn.kp T.d_L_take.b .nil passL (pa_cons (pv 0) (pa_cons pe_int pa_nil))) (fun _ _ => rfl)))
      (pss_cons (ps_set (i := 7) sc_L_kept_lines.nd rfl (.inl rfl) (pe_op op_add_str (pv 7) (pv 8)))
      (C8.pss_cut (ps_if (pw_or (pt_cmpR op_eq (pe_slice sl_str (pv 8) (po_some (pe_un un_neg pe_int)) po_none) pe_str (nomark _)) (pw_or1 (pt_cmpR op_eq (pv 8) pe_str (nomark _)))).pt
        (pss_one (ps_if (pt_cmpR op_eq (pe_call (ok_L_take T) (hr.mono (by decide)) (by rfl) T.d_L_take.g T.d_L_take.fn.kp T.d_L_take.b .nil passL (pa_cons (pv 0) (pa_cons pe_int pa_nil))) pe_int (nomark _))
        (pss_cons (ps_set (i := 7) sc_L_kept_lines.nd rfl (.inl rfl) (pe_op op_add_str (pv 7) pe_str))
      (pss_one (ps_expr (pe_bm PySem.F.plainAttrs_list PySem.F.slot_list_append PySem.F.type_list_append mt_append (pv 3) (pa_cons (pe_op op_sub (pe_callB call_len_str (by rfl) T.b_len PySem.boot_len (pa_cons (pv 7) pa_nil)) pe_int) pa_nil)))))
        (pss_one (ps_expr (pe_bm PySem.F.plainAttrs_list PySem.F.slot_list_append PySem.F.type_list_append mt_append (pv 3) (pa_cons (pe_op op_add (pe_op op_add (pv 6) pe_int) (pe_call (ok_L_take T) (hr.mono (by decide)) (by rfl) T.d_L_take.g T.d_L_take.fn.kp T.d_L_take.b .nil passL (pa_cons (pv 0) (pa_cons pe_int pa_nil)))) pa_nil))))))
        pss_nil)
      (pss_one (ps_expr (pe_bm PySem.F.plainAttrs_list PySem.F.slot_list_append PySem.F.type_list_append mt_append (pv 2) (pa_cons (pv 7) pa_nil)))))))))))))
      (pss_one (ps_ret (pv 2)))))), ?_⟩
    refine ⟨szS (by simp), fun la hla => ⟨szS (by simp), fun p0 hp0 => ⟨_, rfl, steps, rfl, by omega, by omega, ?_⟩⟩⟩
    have nela := pu_ne hpu hla
    have s0 := (same_new (o := HO.lst []) hla).trans (same_new (o := HO.lst [V.int 0]) hp0)
    refine for_range (lo := 0) (n := (steps : Int).toNat) (fun i σ H' => ∃ (rows : List Str) (pi : Addr) (ns : List Nat) (y4 y5 y6 y7 y8 : Option V), σ = [some (.ref pu), some (.int (steps : Int)), some (.ref la), some (.ref pi), y4, y5, y6, y7, y8] ∧ pi ≠ pu ∧ pi ≠ la ∧ H pi = none ∧ But pu H H' ∧ PuOk H' pu (n + 20 * i) ∧ H' la = some (.lst (rows.map V.str)) ∧ H' pi = some (.lst (ns.map nV)) ∧ ns ≠ [] ∧ ns.length ≤ i + 1 ∧ (∀ x ∈ ns, x ≤ 28 * i) ∧ rows.length = i ∧ RowsL 300 rows)
      ⟨[], p0, [0], none, none, none, none, none, rfl, pu_ne (hpu.same (same_new hla)) hp0, (fun z => by rw [z, upd_same] at hp0; cases hp0), (same_new hla).free hp0, But.of s0, hpu.same s0, (same_new hp0) _ _ upd_same, upd_same, by simp, by simp, by simp, rfl, fun r hr => by cases hr⟩ ?_ ?_
    · rintro i σ H1 hi ⟨rows, pi, ns, y4, y5, y6, y7, y8, rfl, npu, npl, hpi0, bt, hp, hl, hpi, hne, hnl, hnb, hrl, hro⟩
      refine ⟨_, rfl, pu, 5, n + 20 * i, rfl, by decide, by decide, hp, by omega, fun r1 H2 r10 r11 bt2 fr2 hp2 => ?_⟩
      have last : ∀ {ns : List Nat}, ns ≠ [] → ∃ x, x ∈ ns ∧ atI (ns.map nV) (-1) = some (nV x) := fun {ns} h => by
        rcases List.eq_nil_or_concat ns with rfl | ⟨l, z, rfl⟩
        · exact absurd rfl h
        · rw [List.concat_eq_append, List.map_append]
          exact ⟨z, by simp, atI_last _ _⟩
      obtain ⟨x0, hx0, hx1⟩ := last hne
      have hl2 := bt2 _ _ nela hl
      have hpi2 := bt2 _ _ npu hpi
      refine ⟨_, rfl, _, rfl, pi, _, _, _, rfl, rfl, .of hpi2, hx1, ?_⟩
      -- fewer
      refine ⟨fun σ' H' => ∃ (pi : Addr) (ns : List Nat) (x : Nat), σ' = [some (.ref pu), some (.int (steps : Int)), some (.ref la), some (.ref pi), some (.int ((0 : Int) + (i : Nat))), some (.int r1), some (nV x), y7, y8] ∧ pi ≠ pu ∧ pi ≠ la ∧ H pi = none ∧ But pu H H' ∧ PuOk H' pu (n + 20 * i + 2) ∧ H' la = some (.lst (rows.map V.str)) ∧ H' pi = some (.lst (ns.map nV)) ∧ ns ≠ [] ∧ ns.length ≤ i + 1 ∧ (∀ x ∈ ns, x ≤ 28 * i) ∧ x ≤ 28 * i, ?_, ?_⟩
      · refine ⟨_, rfl, rfl, _, rfl, ite2 (fun _ => ?_) (fun _ => ?_)⟩
        · have hlen : 1 ≤ ns.length := List.length_pos_iff.mpr hne
          refine ⟨_, rfl, _, rfl, _, rfl, pi, _, rfl, .inl (.of hpi2), pu, _, n + 20 * i + 1, rfl, by rw [List.length_map]; omega, by rw [List.length_map]; omega, hp2, by omega, fun r3 H3 r30 r31 bt3 fr3 hp3 => ?_⟩
          obtain ⟨k, rfl⟩ := Int.eq_ofNat_of_zero_le r30
          have hpi3 := bt3 _ _ npu hpi2
          refine ⟨_, _, rfl, rfl, _, rfl, pi, _, rfl, .of hpi3, fun p4 hp4 => ?_⟩
          have ecut : cutV (ns.map nV) none (some ((1 : Int) + (k : Int))) = (ns.take (1 + k)).map nV := by
            unfold cutV
            rw [show ((1 : Int) + (k : Int)) = ((1 + k : Nat) : Int) by omega, HT.sIx_nat, HT.sIx_none, List.drop_zero, Nat.sub_zero, List.map_take, List.length_map]
            by_cases h : 1 + k ≤ ns.length
            · rw [Nat.min_eq_left h]
            · rw [Nat.min_eq_right (by omega), List.take_of_length_le (by simp), List.take_of_length_le (by simp; omega)]
          rw [ecut]
          have s4 := same_new (o := HO.lst ((ns.take (1 + k)).map nV)) hp4
          have hne4 : ns.take (1 + k) ≠ [] := fun z => by
            have := congrArg List.length z
            rw [List.length_take] at this
            have this : min (1 + k) ns.length = 0 := this
            omega
          obtain ⟨x4, hx4, hx5⟩ := last hne4
          refine ⟨_, rfl, _, rfl, p4, _, _, _, rfl, rfl, .of upd_same, hx5, p4, _, x4, rfl, pu_ne hp3 hp4, (fun z => by rw [z, bt3 _ _ nela hl2] at hp4; cases hp4), (bt.trans (bt2.trans bt3)).free (pu_ne hp3 hp4) hp4, (bt.trans (bt2.trans bt3)).new hp4, (hp3.same s4).mono (by omega), s4 _ _ (bt3 _ _ nela hl2), upd_same, hne4, ?_, fun x hx => hnb x (List.mem_of_mem_take hx), hnb x4 (List.mem_of_mem_take hx4)⟩
          have := List.length_take_le' (1 + k) ns
          omega
        · exact ⟨pi, ns, x0, rfl, npu, npl, hpi0, bt.trans bt2, hp2.mono (by omega), hl2, hpi2, hne, hnl, hnb, hnb x0 hx0⟩
      · rintro σ' H4 ⟨pi, ns, x, rfl, npu, npl, hpi0, bt4, hp4, hl4, hpi4, hne, hnl, hnb, hxb⟩
        refine ⟨fun σ' H' => ∃ x : Nat, σ' = [some (.ref pu), some (.int (steps : Int)), some (.ref la), some (.ref pi), some (.int ((0 : Int) + (i : Nat))), some (.int r1), some (nV x), y7, y8] ∧ But pu H H' ∧ PuOk H' pu (n + 20 * i + 3) ∧ H' la = some (.lst (rows.map V.str)) ∧ H' pi = some (.lst (ns.map nV)) ∧ x ≤ 28 * i + 4, ?_, ?_⟩
        · refine ⟨_, rfl, rfl, _, rfl, ite2 (fun _ => ?_) (fun _ => ?_)⟩
          · refine ⟨_, rfl, _, _, rfl, rfl, _, rfl, pu, 4, n + 20 * i + 2, rfl, by decide, by decide, hp4, by omega, fun r3 H5 r30 r31 bt5 fr5 hp5 => ?_⟩
            obtain ⟨k, rfl⟩ := Int.eq_ofNat_of_zero_le r30
            refine ⟨_, _, rfl, rfl, x + 1 + k, ?_, bt4.trans bt5, hp5.mono (by omega), bt5 _ _ nela hl4, bt5 _ _ npu hpi4, by omega⟩
            show _ = [some (V.ref pu), some (.int (steps : Int)), some (.ref la), some (.ref pi), some (.int ((0 : Int) + (i : Nat))), some (.int r1), some (V.int ((x + 1 + k : Nat) : Int)), y7, y8]
            rw [show ((x + 1 + k : Nat) : Int) = (x : Int) + 1 + (k : Int) by omega]
            rfl
          · exact ⟨x, rfl, bt4, hp4.mono (by omega), hl4, hpi4, by omega⟩
        · rintro σ' H5 ⟨x, rfl, bt5, hp5, hl5, hpi5, hxb⟩
          -- the line
          refine ⟨_, rfl, tl " ", x, congrArg V.str sp_S, rfl, by rw [sp_len]; omega, by omega, szS (by simp), fun pa hpa => ?_⟩
          have sa := same_new (o := HO.lst (K4.map V.str)) hpa
          refine ⟨_, rfl, pu, 4, n + 20 * i + 3, rfl, by decide, by decide, hp5.same sa, by omega, fun r3 H6 r30 r31 bt6 fr6 hp6 => ?_⟩
          obtain ⟨k, rfl⟩ := Int.eq_ofNat_of_zero_le r30
          have npa := pu_ne hp5 hpa
          have hk : k < K4.length := by show k < 4; omega
          obtain ⟨w4, hw4⟩ : ∃ wd, K4[k]? = some wd := ⟨_, List.getElem?_eq_getElem hk⟩
          obtain ⟨t1, t2, t3⟩ := k4_ok w4 (List.mem_of_getElem? hw4)
          refine ⟨pa, K4.map V.str, _, .str w4, rfl, rfl, .of (bt6 _ _ npa upd_same), atI_nat (by rw [List.getElem?_map, hw4]; rfl), ?_⟩
          have hml : (S (List.replicate x (tl " ")).flatten).length = x := by rw [← tl_len, mul_blk, List.length_replicate]
          have hw4l : w4.length ≤ 3 := by rw [← tl_len]; exact t2
          have hs1 : (" " : Str).length = 1 := by decide +kernel
          refine ⟨_, _, rfl, rfl, szS (by rw [hml]; omega), _, _, rfl, rfl, szS (by rw [Str.length_append, hml, hs1]; omega), szS (by simp), fun pb hpb => ?_⟩
          have hl6 := bt6 _ _ nela (sa _ _ hl5)
          have hpi6 := bt6 _ _ npu (sa _ _ hpi5)
          have sb := same_new (o := HO.lst (K7.map V.str)) hpb
          have npb := pu_ne hp6 hpb
          refine ⟨_, rfl, pu, 7, n + 20 * i + 4, rfl, by decide, by decide, hp6.same sb, by omega, fun r4 H7 r40 r41 bt7 fr7 hp7 => ?_⟩
          obtain ⟨m, rfl⟩ := Int.eq_ofNat_of_zero_le r40
          have hm : m < K7.length := by show m < 7; omega
          obtain ⟨w7, hw7⟩ : ∃ wd, K7[m]? = some wd := ⟨_, List.getElem?_eq_getElem hm⟩
          obtain ⟨u1, u2, u3⟩ := k7_ok w7 (List.mem_of_getElem? hw7)
          have hw7l : w7.length ≤ 6 := by rw [← tl_len]; exact u2
          refine ⟨pb, K7.map V.str, _, .str w7, rfl, rfl, .of (bt7 _ _ npb upd_same), atI_nat (by rw [List.getElem?_map, hw7]; rfl), ?_⟩
          refine ⟨_, rfl, _, rfl, _, _, rfl, rfl, szS (by rw [Str.length_append, Str.length_append, hml, hs1]; omega), ?_⟩
          have hl7 := bt7 _ _ nela (sb _ _ hl6)
          have hpi7 := bt7 _ _ npu (sb _ _ hpi6)
          have bt07 : But pu H H7 := bt5.trans ((But.of sa).trans (bt6.trans ((But.of sb).trans bt7)))
          have b32 : tl " " = [32] := by decide +kernel
          have etl : tl (S (List.replicate x (tl " ")).flatten ++ w4 ++ " " ++ w7) = List.replicate x 32 ++ tl w4 ++ [32] ++ tl w7 := by rw [tl_app, tl_app, tl_app, mul_blk, b32]
          have hok : RowOk (tl (S (List.replicate x (tl " ")).flatten ++ w4 ++ " " ++ w7)) := by
            rw [etl]
            exact (((RowFree.start x).spaced t1).blanks 0).spaced u1
          have hlen : (tl (S (List.replicate x (tl " ")).flatten ++ w4 ++ " " ++ w7)).length ≤ 28 * i + 14 := by
            rw [etl, List.length_append, List.length_append, List.length_append, List.length_replicate]
            show x + (tl w4).length + 1 + (tl w7).length ≤ _
            omega
          have hasc : ∀ c ∈ tl (S (List.replicate x (tl " ")).flatten ++ w4 ++ " " ++ w7), c < 128 := by
            rw [etl]
            intro c hc
            rcases List.mem_append.mp hc with hc | hc
            · rcases List.mem_append.mp hc with hc | hc
              · rcases List.mem_append.mp hc with hc | hc
                · exact rep_lt _ c hc
                · exact t3 c hc
              · rw [List.mem_singleton.mp hc]
                decide
            · exact u3 c hc
          generalize S (List.replicate x (tl " ")).flatten ++ w4 ++ " " ++ w7 = line at hok hlen hasc ⊢
          have hll : line.length ≤ 28 * i + 14 := by rw [← tl_len]; exact hlen
          refine ⟨fun σ' H' => ∃ (line' : Str) (ns' : List Nat), σ' = [some (.ref pu), some (.int (steps : Int)), some (.ref la), some (.ref pi), some (.int ((0 : Int) + (i : Nat))), some (.int r1), some (nV x), some (.str line'), some (.str w7)] ∧ But pu H H' ∧ PuOk H' pu (n + 20 * i + 8) ∧ H' la = some (.lst (rows.map V.str)) ∧ H' pi = some (.lst (ns'.map nV)) ∧ ns' ≠ [] ∧ ns'.length ≤ i + 2 ∧ (∀ x ∈ ns', x ≤ 28 * (i + 1)) ∧ RowOk (tl line') ∧ (tl line').length ≤ 28 * i + 16 ∧ ∀ c ∈ tl line', c < 128, ?_, ?_⟩
          · have skip : ∃ (line' : Str) (ns' : List Nat), [some (V.ref pu), some (.int (steps : Int)), some (.ref la), some (.ref pi), some (.int ((0 : Int) + (i : Nat))), some (.int r1), some (nV x), some (.str line), some (.str w7)] = [some (.ref pu), some (.int (steps : Int)), some (.ref la), some (.ref pi), some (.int ((0 : Int) + (i : Nat))), some (.int r1), some (nV x), some (.str line'), some (.str w7)] ∧ But pu H H7 ∧ PuOk H7 pu (n + 20 * i + 8) ∧ H7 la = some (.lst (rows.map V.str)) ∧ H7 pi = some (.lst (ns'.map nV)) ∧ ns' ≠ [] ∧ ns'.length ≤ i + 2 ∧ (∀ x ∈ ns', x ≤ 28 * (i + 1)) ∧ RowOk (tl line') ∧ (tl line').length ≤ 28 * i + 16 ∧ ∀ c ∈ tl line', c < 128 :=
              ⟨line, ns, rfl, bt07, hp7.mono (by omega), hl7, hpi7, hne, by omega, fun x hx => Nat.le_trans (hnb x hx) (by omega), hok, by omega, hasc⟩
            have push : ∀ (H8 : Hp) (m : Nat) (line' : Str), But pu H H8 → PuOk H8 pu (n + 20 * i + 7) → H8 la = some (.lst (rows.map V.str)) → H8 pi = some (.lst (ns.map nV)) → m ≤ 28 * (i + 1) → RowOk (tl line') → (tl line').length ≤ 28 * i + 16 → (∀ c ∈ tl line', c < 128) →
                ∃ (line'' : Str) (ns' : List Nat), [some (V.ref pu), some (.int (steps : Int)), some (.ref la), some (.ref pi), some (.int ((0 : Int) + (i : Nat))), some (.int r1), some (nV x), some (.str line'), some (.str w7)] = [some (.ref pu), some (.int (steps : Int)), some (.ref la), some (.ref pi), some (.int ((0 : Int) + (i : Nat))), some (.int r1), some (nV x), some (.str line''), some (.str w7)] ∧ But pu H (upd H8 pi (.lst (ns.map nV ++ [nV m]))) ∧ PuOk (upd H8 pi (.lst (ns.map nV ++ [nV m]))) pu (n + 20 * i + 8) ∧ upd H8 pi (.lst (ns.map nV ++ [nV m])) la = some (.lst (rows.map V.str)) ∧ upd H8 pi (.lst (ns.map nV ++ [nV m])) pi = some (.lst (ns'.map nV)) ∧ ns' ≠ [] ∧ ns'.length ≤ i + 2 ∧ (∀ x ∈ ns', x ≤ 28 * (i + 1)) ∧ RowOk (tl line'') ∧ (tl line'').length ≤ 28 * i + 16 ∧ ∀ c ∈ tl line'', c < 128 := fun H8 m line' b1 b2 b3 b4 b5 b6 b7 b8 => by
              refine ⟨line', ns ++ [m], rfl, fun b o hb ho => ?_, ?_, ?_, ?_, by simp, ?_, fun y hy => ?_, b6, b7, b8⟩
              · rw [upd_ne (ne_of_none ho hpi0)]
                exact b1 b o hb ho
              · exact (b2.but (But.upd (But.refl pi _)) npu.symm).mono (by omega)
              · rw [upd_ne npl.symm]
                exact b3
              · rw [upd_same, List.map_append]
                rfl
              · rw [List.length_append]
                show ns.length + 1 ≤ _
                omega
              · rcases List.mem_append.mp hy with hy | hy
                · exact Nat.le_trans (hnb y hy) (by omega)
                · rw [List.mem_singleton.mp hy]
                  exact b5
            refine ⟨_, rfl, _, rfl, _, rfl, w7, rfl, szS (by omega), rfl, _, rfl, ite2 (fun _ => iteT ?_) (fun _ => ⟨_, rfl, rfl, _, rfl, ite2 (fun _ => ?_) (fun _ => skip)⟩)⟩
            all_goals
              refine ⟨_, rfl, pu, 2, n + 20 * i + 5, rfl, by decide, by decide, hp7, by omega, fun r5 H8 r50 r51 bt8 fr8 hp8 => ⟨rfl, _, rfl, ite2 (fun _ => ?_) (fun _ => ?_)⟩⟩
              · have hzl : (" z" : Str).length = 2 := by decide +kernel
                refine ⟨_, rfl, line, _, rfl, rfl, szS (by rw [hzl]; omega), ?_⟩
                have hl9 : (line ++ " z").length = line.length + 2 := by rw [Str.length_append, hzl]
                refine ⟨_, rfl, .inl ⟨rfl, _, .of (bt8 _ _ npu hpi7)⟩, _, rfl, _, rfl, szS (by rw [hl9]; omega), _, _, rfl, rfl, pi, _, _, rfl, rfl, bt8 _ _ npu hpi7, szL (by rw [List.length_map]; omega), ?_⟩
                have ev : V.int (((line ++ " z").length : Int) - 1) = nV (line.length + 1) := by
                  rw [hl9]
                  show V.int _ = V.int _
                  congr 1
                  omega
                dsimp only
                rw [ev]
                refine push H8 (line.length + 1) (line ++ " z") (bt07.trans bt8) (hp8.mono (by omega)) (bt8 _ _ nela hl7) (bt8 _ _ npu hpi7) (by omega) ?_ ?_ ?_
                · rw [tl_app, z_ok.1, ← List.append_assoc]
                  exact (hok.blanks 0).word z_ok.2.1
                · rw [tl_app, z_ok.1, List.length_append, List.length_append, z_ok.2.2.2]
                  show (tl line).length + (1 + 1) ≤ _
                  omega
                · rw [tl_app, z_ok.1]
                  intro c hc
                  rcases List.mem_append.mp hc with hc | hc
                  · exact hasc c hc
                  · rcases List.mem_append.mp hc with hc | hc
                    · rw [List.mem_singleton.mp hc]
                      decide
                    · exact z_ok.2.2.1 c hc
              · refine ⟨_, rfl, .inl ⟨rfl, _, .of (bt8 _ _ npu hpi7)⟩, _, rfl, _, _, rfl, rfl, _, rfl, pu, 4, n + 20 * i + 6, rfl, by decide, by decide, hp8, by omega, fun r6 H9 r60 r61 bt9 fr9 hp9 => ?_⟩
                obtain ⟨z, rfl⟩ := Int.eq_ofNat_of_zero_le r60
                refine ⟨_, _, rfl, rfl, pi, _, _, rfl, rfl, bt9 _ _ npu (bt8 _ _ npu hpi7), szL (by rw [List.length_map]; omega), ?_⟩
                have ev : V.int ((x : Int) + 2 + (z : Int)) = nV (x + 2 + z) := by
                  show V.int _ = V.int _
                  congr 1
                dsimp only
                rw [ev]
                exact push H9 (x + 2 + z) line (bt07.trans (bt8.trans bt9)) (hp9.mono (by omega)) (bt9 _ _ nela (bt8 _ _ nela hl7)) (bt9 _ _ npu (bt8 _ _ npu hpi7)) (by omega) hok (by omega) hasc
          · rintro σ' H8 ⟨line', ns', rfl, bt8, hp8, hl8, hpi8, hne8, hnl8, hnb8, hok8, hlen8, hasc8⟩
            refine ⟨_, rfl, .inl ⟨rfl, _, .of hl8⟩, _, rfl, la, _, _, rfl, rfl, hl8, szL (by rw [List.length_map]; omega), rows ++ [line'], pi, ns', _, _, _, _, _, rfl, npu, npl, hpi0, fun b o hb ho => ?_, ?_, ?_, ?_, hne8, by omega, hnb8, by rw [List.length_append, hrl]; rfl, fun r hr => ?_⟩
            · rw [upd_ne (ne_of_none ho hla)]
              exact bt8 b o hb ho
            · exact (hp8.but (But.upd (But.refl la _)) nela.symm).mono (by omega)
            · rw [upd_same, List.map_append]
              rfl
            · rw [upd_ne npl]
              exact hpi8
            · rcases List.mem_append.mp hr with hr | hr
              · exact hro r hr
              · rw [List.mem_singleton.mp hr]
                exact ⟨by omega, hasc8, hok8.lexed⟩
    · rintro σ H1 ⟨rows, pi, ns, y4, y5, y6, y7, y8, rfl, npu, npl, hpi0, bt, hp, hl, hpi, hne, hnl, hnb, hrl, hro⟩
      exact ⟨_, rfl, q la H1 rows hla bt hl (by omega) hro⟩
end
end Sw
set_option Elab.async false
set_option pp.maxSteps 600
set_option pp.deepTerms false
set_option linter.all false
set_option maxRecDepth 100000
set_option maxHeartbeats 4000000
namespace Sw
open PySem PySem.Spec PyProof.Rows L2 SX
theorem same_but {H H1 H2 : Hp} {pu : Addr} (a : Same H H1) (n : H pu = none) (b : But pu H1 H2) : Same H H2 := fun x o h => b x o (ne_of_none h n) (a x o h)
def TsOk (ts : List Tk) : Prop := ∀ t ∈ ts, PyData.strOk t.sort = true ∧ PyData.strOk t.word = true
def tkD (t : Tk) : PyData := .tuple [.tuple [.int (t.row : Int), .int (t.col : Int)], .str t.sort, .str t.word]
section
variable {P : Program} {w : World} {K : PySem.W.Frag} {mg : Str → Option Value} {base : Heap}
theorem dp_tk {H : Hp} {v : V} {t : Tk} (h : TkT H v t) : Dp K H v (tkD t) := by
  obtain ⟨a, b, rfl, h2, h3⟩ := h
  exact .tup (.of h2) (.cons (.tup (.of h3) (.cons (.int _) (.cons (.int _) .nil))) (.cons (.str _) (.cons (.str _) .nil)))
theorem dp_tks {H : Hp} : ∀ {us : List V} {ts : List Tk}, Paired (TkT H) us ts → DpAll K H us (ts.map tkD)
  | _, _, .nil => .nil
  | _, _, .cons h t => .cons (dp_tk h) (dp_tks t)
theorem lay_tks : ∀ {ts : List Tk}, TsOk ts → PyData.canLayAll0 (ts.map tkD) = true
  | [], _ => rfl
  | t :: ts, h => by
    have h1 := h t (List.mem_cons_self ..)
    have h2 := lay_tks (ts := ts) fun x hx => h x (List.mem_cons_of_mem _ hx)
    simp [PyData.canLayAll0, tkD, PyData.canLay0, h1.1, h1.2, h2]
theorem dep_tks : ∀ (ts : List Tk), PyData.depthAll (ts.map tkD) ≤ 3
  | [] => by simp [PyData.depthAll]
  | t :: ts => by
    have h := dep_tks ts
    have h1 : (tkD t).depth ≤ 3 := by simp [tkD, PyData.depth, PyData.depthAll]
    simp only [List.map_cons, PyData.depthAll]
    omega
theorem shp_tks {ts : List Tk} (h : TsOk ts) : SeqAt.shaped (.list (ts.map tkD)) = true := by
  have h1 := dep_tks ts
  have h2 : PyData.depth (.list (ts.map tkD)) ≤ 64 := by
    simp only [PyData.depth]
    omega
  show (PyData.canLay0 (.list (ts.map tkD)) && decide (PyData.depth (.list (ts.map tkD)) ≤ 64)) = true
  rw [Bool.and_eq_true]
  exact ⟨by simp only [PyData.canLay0]; exact lay_tks h, decide_eq_true h2⟩
theorem eqv_self {d : PyData} (h : SeqAt.shaped d = true) : PyData.eqv d d = true := SeqAt.eqv_refl d (SeqAt.canLay_of_shaped h)
/-! ### what is told is data -/
theorem tsOk_app {a b : List Tk} (h1 : TsOk a) (h2 : TsOk b) : TsOk (a ++ b) := fun t ht => by
  rcases List.mem_append.mp ht with ht | ht
  · exact h1 t ht
  · exact h2 t ht
def MW (w : Str) : Prop := w = "open" ∨ w = "shut" ∨ w = "item"
def ToldOk (ts : List Tk) (td : List Tk) : Prop := ∀ t ∈ td, t ∈ ts ∨ (t.sort = "mark" ∧ MW t.word)
theorem tsOk_told {ts td : List Tk} (h : TsOk ts) (ht : ToldOk ts td) : TsOk td := fun t hm => by
  rcases ht t hm with h1 | ⟨h1, h2⟩
  · exact h t h1
  · rw [h1]
    rcases h2 with h2 | h2 | h2 <;> rw [h2] <;> exact ⟨by decide +kernel, by decide +kernel⟩
theorem told_mk {ts td : List Tk} {r c : Nat} {wd : Str} (h : ToldOk ts td) (hw : MW wd) : ToldOk ts (td ++ [mkT r c wd]) := fun t hm => by
  rcases List.mem_append.mp hm with hm | hm
  · exact h t hm
  · rw [List.mem_singleton.mp hm]
    exact .inr ⟨rfl, hw⟩
theorem told_sh {ts td : List Tk} {r c n : Nat} (h : ToldOk ts td) : ToldOk ts (td ++ shuts r c n) := fun t hm => by
  rcases List.mem_append.mp hm with hm | hm
  · exact h t hm
  · rw [(List.mem_replicate.mp hm).2]
    exact .inr ⟨rfl, .inr (.inl rfl)⟩
theorem told_take {ts : List Tk} {s : LSt} {t : Tk} (h : ToldOk ts s.told) (hm : t ∈ ts) : ToldOk ts (takeS s t).told := by
  have h1 : ToldOk ts (s1S s t).1.told := by
    unfold s1S
    split
    · unfold openS
      split
      · exact told_mk (told_mk h (.inl rfl)) (.inr (.inl rfl))
      · exact told_mk h (.inl rfl)
    · exact h
  have h2 : ToldOk ts (s2S (s1S s t) t).told := by
    show ToldOk ts (s2p (s1S s t) t).told
    unfold s2p
    split
    · unfold lineS itemS
      split
      · exact told_mk (told_sh h1) (.inr (.inr rfl))
      · exact told_sh h1
    · exact h1
  show ToldOk ts (s5S (s4S (s3S (s2S (s1S s t) t) t) t) t).told
  generalize s2S (s1S s t) t = s2 at h2 ⊢
  have h3 : ToldOk ts (s3S s2 t).told := by
    unfold s3S
    split
    · unfold letS
      split
      · exact h2
      · split
        · exact h2
        · exact told_sh h2
    · split
      · unfold brS
        split
        · exact h2
        · exact told_sh h2
      · exact h2
  generalize s3S s2 t = s3 at h3 ⊢
  have h4 : ToldOk ts (s4S s3 t).told := fun x hx => by
    rcases List.mem_append.mp (show x ∈ s3.told ++ [t] from hx) with hx | hx
    · exact h3 x hx
    · rw [List.mem_singleton.mp hx]
      exact .inl hm
  generalize s4S s3 t = s4 at h4 ⊢
  unfold s5S
  split
  · exact h4
  · split
    · exact h4
    · split <;> exact h4
theorem told_fold {ts : List Tk} : ∀ (l : List Tk) {s : LSt}, ToldOk ts s.told → (∀ t ∈ l, t ∈ ts) → ToldOk ts (l.foldl takeS s).told
  | [], _, h, _ => h
  | t :: l, _, h, hl => told_fold l (told_take h (hl t (List.mem_cons_self ..))) fun x hx => hl x (List.mem_cons_of_mem _ hx)
theorem told_laid (ts : List Tk) : ToldOk ts (laidS ts) := by
  have h := told_fold ts (s := initS) (fun t ht => by cases ht) fun t ht => ht
  unfold laidS endS
  refine told_sh ?_
  split
  · exact told_mk (told_mk h (.inl rfl)) (.inr (.inl rfl))
  · exact h
end
end Sw
set_option Elab.async false
set_option pp.maxSteps 600
set_option pp.deepTerms false
set_option linter.all false
set_option maxRecDepth 100000
set_option maxHeartbeats 4000000
namespace Sw
open PySem PySem.Spec PyProof.Rows L2 SX
section
variable {P : Program} {w : World} {K : PySem.W.Frag} {mg : Str → Option Value} {base : Heap}
def spLaw (K : PySem.W.Frag) : Sp := fun vs H Q _ => ∃ (a : Addr) (ns : List Int), vs = [.ref a] ∧ SqL K H a (ns.map V.int) ∧ ns.length ≤ 63 ∧ ∀ H', Q (.bl true) H'
theorem ok_law (T : Txt K mg) : FnOk P w K mg base (L2.CX P w) 12 (He.ga K "law") (fdAt K (He.ga K "law")) ["_law_script"] (spLaw K) := by
  refine T.d_law.fn.ok sc_law (fun vs H Q E h => ?_) (fun cdv A outer s H vs Q E hr h => ?_)
  · obtain ⟨_, _, rfl, _⟩ := h
    rfl
  · obtain ⟨a, ns, rfl, hS, hlen, q⟩ := h
    refine ⟨_, PSs.nox (pss_cons (ps_for PassesOwn.never rfl (pi_list (pe_op op_cat (pe_slice sl_list (pv 0) po_none (po_some pe_int)) (pe_lst (pa_cons (pe_call (ok_L_at T) (hr.mono (by decide)) (by rfl) T.d_L_at.g T.d_L_at.fn.kp T.d_L_at.b .nil passL (pa_cons (pv 0) (pa_cons pe_int pa_nil))) pa_nil)))) (pg_name (i := 1) sc_law.nd rfl (.inl rfl))
        (pss_cons (ps_set (i := 2) sc_law.nd rfl (.inl rfl) (pe_call (ok_L_purse T) (hr.mono (by decide)) (by rfl) T.d_L_purse.g T.d_L_purse.fn.kp T.d_L_purse.b .nil passL (pa_cons (pv 1) (pa_cons pe_int pa_nil))))
      (C8.pss_cut (ps_if (pt_cmpR op_eq (pe_call (ok_L_take T) (hr.mono (by decide)) (by rfl) T.d_L_take.g T.d_L_take.fn.kp T.d_L_take.b .nil passL (pa_cons (pv 2) (pa_cons pe_int pa_nil))) pe_int (nomark _))
        (pss_one (ps_set (i := 3) sc_law.nd rfl (.inl rfl) (pe_call (ok_L_scattered T) (hr.mono (by decide)) (by rfl) T.d_L_scattered.g T.d_L_scattered.fn.kp T.d_L_scattered.b .nil passL (pa_cons (pv 2) (pa_cons (pe_call (ok_L_take T) (hr.mono (by decide)) (by rfl) T.d_L_take.g T.d_L_take.fn.kp T.d_L_take.b .nil passL (pa_cons (pv 2) (pa_cons pe_int pa_nil))) pa_nil)))))
        (pss_one (ps_set (i := 3) sc_law.nd rfl (.inl rfl) (pe_call (ok_L_kept_lines T) (hr.mono (by decide)) (by rfl) T.d_L_kept_lines.g T.d_L_kept_lines.fn.kp T.d_L_kept_lines.b .nil passL (pa_cons (pv 2) (pa_cons (pe_call (ok_L_take T) (hr.mono (by decide)) (by rfl) T.d_L_take.g T.d_L_take.fn.kp T.d_L_take.b .nil passL (pa_cons (pv 2) (pa_cons pe_int pa_nil))) pa_nil))))))
      (pss_cons (ps_setLc (i := 3) (own := [("_law_line", 4)]) (g := gName 4) rfl sc_law.nd rfl rfl (sw_true rfl rfl rfl (by decide +kernel)) (pi_list (pv 3)) (blkOk_by (own := [("_law_line", 4)]) (N := ["_law_script", "_law_cell", "_law_purse_here", "_law_lines", "_law_line", "_law_due", "_law_turn", "_law_told", "_law_mark"]) (sc := defScope s_law) (by decide +kernel)) (fun _ _ _ _ _ => (pg_name (i := 4) sc_law.nd rfl (.inl rfl))) (fun _ _ _ _ _ => pts_one (pt_cmpR op_le (pe_callB call_len_str (by rfl) T.b_len PySem.boot_len (pa_cons (pv 4) pa_nil)) pe_int (nomark _))) (fun _ _ _ _ _ => (pv 4)))
      (pss_cons (ps_set (i := 5) sc_law.nd rfl (.inl rfl) (pe_call (ok_L_laid T) (hr.mono (by decide)) (by rfl) T.d_L_laid.g T.d_L_laid.fn.kp T.d_L_laid.b .nil passL (pa_cons (pe_call (ok_lexemes T) (hr.mono (by decide)) (by rfl) T.d_lexemes.g T.d_lexemes.fn.kp T.d_lexemes.b .nil passL (pa_cons (pv 3) pa_nil)) pa_nil)))
      (pss_one (ps_for PassesOwn.never rfl (pi_range1 (by rfl) T.b_range (pa_cons pe_int pa_nil)) (pg_name (i := 6) sc_law.nd rfl (.inl rfl))
        (pss_cons (ps_set (i := 7) sc_law.nd rfl (.inl rfl) (pe_ix ix_list (pe_lst (pa_cons (pe_call (ok_laid T) (hr.mono (by decide)) (by rfl) T.d_laid.g T.d_laid.fn.kp T.d_laid.b .nil passL (pa_cons (pv 3) pa_nil)) (pa_cons (pe_callN0 (ok_laid T) (hr.mono (by decide)) (by rfl) T.d_laid.g T.d_laid.fn.kp T.k_laid passL (pk_cons (pv 3) pk_nil)) pa_nil))) (pv 6) (fun _ _ => rfl)))
      (pss_cons (ps_if (pw_or (pt_not (pt_val (pe_callB call_isi (by rfl) T.b_isinstance (by decide +kernel) (pa_cons (pv 7) (pa_cons (pe_bltn (v := .ty "list") (by rfl) T.b_list (by decide +kernel) rfl) pa_nil))))) (pw_or1 (pt_cmpR (op_neD (u64 hr)) (pv 7) (pv 5) (nomark _)))).pt
        (pss_one (ps_ret pe_bl))
        pss_nil)
      (pss_cons (ps_if (pt_cmpR (op_neD (u64 hr)) (pe_lc (own := [("_law_mark", 8)]) (g := gName 8) rfl sc_law.nd (pi_list (pv 7)) (blkOk_by (own := [("_law_mark", 8)]) (N := ["_law_script", "_law_cell", "_law_purse_here", "_law_lines", "_law_line", "_law_due", "_law_turn", "_law_told", "_law_mark"]) (sc := defScope s_law) (by decide +kernel)) (fun _ _ _ _ _ => (pg_name (i := 8) sc_law.nd rfl (.inl rfl))) (fun _ _ _ _ _ => pts_one (pt_cmpR op_ne (pe_ix (r := rIxT K) ix_tup (pv 8) pe_int (fun _ _ => rfl)) pe_str (nomark _))) (fun _ _ _ _ _ => (pv 8))) (pe_call (ok_lexemes T) (hr.mono (by decide)) (by rfl) T.d_lexemes.g T.d_lexemes.fn.kp T.d_lexemes.b .nil passL (pa_cons (pv 3) pa_nil)) (nomark _))
        (pss_one (ps_ret pe_bl))
        pss_nil)
      (pss_cons (ps_if (pt_not (pt_val (pe_call (ok_L_even T) (hr.mono (by decide)) (by rfl) T.d_L_even.g T.d_L_even.fn.kp T.d_L_even.b .nil passL (pa_cons (pe_lc (own := [("_law_mark", 8)]) (g := gName 8) rfl sc_law.nd (pi_list (pv 7)) (blkOk_by (own := [("_law_mark", 8)]) (N := ["_law_script", "_law_cell", "_law_purse_here", "_law_lines", "_law_line", "_law_due", "_law_turn", "_law_told", "_law_mark"]) (sc := defScope s_law) (by decide +kernel)) (fun _ _ _ _ _ => (pg_name (i := 8) sc_law.nd rfl (.inl rfl))) (fun _ _ _ _ _ => pts_one (pt_cmpR op_eq (pe_ix (r := rIxT K) ix_tup (pv 8) pe_int (fun _ _ => rfl)) pe_str (nomark _))) (fun _ _ _ _ _ => (pe_ix (r := rIxT K) ix_tup (pv 8) pe_int (fun _ _ => rfl)))) pa_nil))))
        (pss_one (ps_ret pe_bl))
        pss_nil)
      (pss_cons (ps_expr (pe_bm0 PySem.F.plainAttrs_list PySem.F.slot_list_pop PySem.F.type_list_pop mt_pop (pv 7)))
      (pss_one (ps_expr (pe_bm PySem.F.plainAttrs_list PySem.F.slot_list_append PySem.F.type_list_append mt_append (pv 7) (pa_cons pe_str pa_nil))))))))))))))))
      (pss_one (ps_ret pe_bl))), ?_⟩
    -- the cells
    refine ⟨_, rfl, 5, rfl, a, _, rfl, hS, fun p1 hp1 => ?_⟩
    refine ⟨_, rfl, a, ns, 2, rfl, (same_new hp1).seq hS, fun r => ?_⟩
    refine ⟨szS (by simp), fun p2 hp2 => ?_⟩
    have hcut : (cutV (ns.map V.int) none (some 5)).length ≤ 63 := Nat.le_trans (cutV_length _ _ _) (by rw [List.length_map]; exact hlen)
    refine ⟨p1, p2, _, _, rfl, rfl, (same_new hp2) _ _ upd_same, upd_same, szS (by simp; omega), fun p3 hp3 => ?_⟩
    have hint : ∀ v ∈ cutV (ns.map V.int) none (some 5) ++ [V.int r], ∃ i : Int, v = .int i := by
      intro v hv
      rcases List.mem_append.mp hv with hv | hv
      · have h1 : v ∈ ns.map V.int := List.mem_of_mem_drop (List.mem_of_mem_take hv)
        obtain ⟨i, _, e⟩ := List.mem_map.mp h1
        exact ⟨i, e.symm⟩
      · exact ⟨r, by simpa using hv⟩
    refine ⟨p3, rfl, ⟨_, .of upd_same⟩, ?_⟩
    generalize cutV (ns.map V.int) none (some 5) ++ [V.int r] = cells at hint ⊢
    have hc0 : (upd (upd (upd H p1 (.lst (cutV (ns.map V.int) none (some 5)))) p2 (.lst [V.int r])) p3 (.lst cells)) p3 = some (.lst cells) := upd_same
    generalize upd (upd (upd H p1 (.lst (cutV (ns.map V.int) none (some 5)))) p2 (.lst [V.int r])) p3 (.lst cells) = H0 at hc0 ⊢
    refine for_list (K := K) (a := p3) (xs := cells) (fun i σ H' => ∃ y1 y2 y3 y4 y5 y6 y7 y8 : Option V, σ = [some (.ref a), y1, y2, y3, y4, y5, y6, y7, y8] ∧ Same H0 H')
      ⟨none, none, none, none, none, none, none, none, rfl, Same.refl _⟩ (fun i σ H' _ ⟨_, _, _, _, _, _, _, _, _, sm⟩ => .of (sm _ _ hc0)) ?_ ?_
    · rintro i x σ H' hx ⟨y1, y2, y3, y4, y5, y6, y7, y8, rfl, sm⟩
      obtain ⟨c, rfl⟩ := hint x (List.mem_of_getElem? hx)
      refine ⟨_, rfl, c, 3, rfl, by decide, by decide, fun pu H1 hpu0 s1 hpu => ?_⟩
      -- rows
      refine ⟨fun σ' H'' => ∃ (la : Addr) (rows : List Str), σ' = [some (.ref a), some (.int c), some (.ref pu), some (.ref la), y4, y5, y6, y7, y8] ∧ Same H' H'' ∧ H'' la = some (.lst (rows.map V.str)) ∧ rows.length ≤ 10 ∧ RowsL 300 rows, ?_, ?_⟩
      · refine ⟨_, rfl, pu, 2, 0, rfl, by decide, by decide, hpu, by omega, fun r2 H2 r20 r21 bt2 fr2 hp2 => ⟨rfl, _, rfl, ite2 (fun _ => ?_) (fun _ => ?_)⟩⟩
        all_goals
          refine ⟨_, rfl, _, rfl, pu, 10, 1, rfl, by decide, by decide, hp2, by omega, fun r3 H3 r30 r31 bt3 fr3 hp3 => ?_⟩
          obtain ⟨k, rfl⟩ := Int.eq_ofNat_of_zero_le r30
          exact ⟨pu, k, 2, rfl, by omega, hp3, by omega, fun p H4 rows hp4 bt4 hp44 hr1 hr2 => ⟨p, rows, rfl, same_but s1 hpu0 (bt2.trans (bt3.trans bt4)), hp44, hr1, hr2⟩⟩
      · rintro σ' H2 ⟨la0, rows0, rfl, s2, hla0, hrl0, hro0⟩
        -- those of at most a hundred
        refine ⟨_, rfl, la0, rfl, ⟨_, .of hla0⟩, fun D hD => ?_⟩
        refine lc_list (K := K) (a := la0) (xs := rows0.map V.str) (fun i H' => ∃ rows : List Str, H' D = some (.lst (rows.map V.str)) ∧ Same H2 H' ∧ rows.length ≤ i ∧ ∀ r ∈ rows, r ∈ rows0)
          ⟨[], upd_same, same_new hD, Nat.le_refl _, fun r hr => by cases hr⟩ (fun i H' _ ⟨_, _, sm, _⟩ => .of (sm _ _ hla0)) ?_ ?_
        · rintro i x H3 hx ⟨rows, hD3, s3, hrl, hin⟩
          obtain ⟨row, hrow, rfl⟩ := List.mem_map.mp (List.mem_of_getElem? hx)
          have hi : i < rows0.length := by
            have := (List.getElem?_eq_some_iff.mp hx).1
            rw [List.length_map] at this
            exact this
          have hlr : row.length ≤ 300 := by rw [← tl_len]; exact (hro0 row hrow).1
          refine ⟨rfl, _, rfl, row, rfl, szS (by omega), _, _, rfl, rfl, _, rfl, ite2 (fun _ => ?_) (fun _ => ⟨rows, hD3, s3, by omega, hin⟩)⟩
          refine ⟨_, rfl, _, hD3, szL (by rw [List.length_map]; omega), rows ++ [row], by rw [upd_same, List.map_append]; rfl, same_mut s3 hD, by rw [List.length_append]; show rows.length + 1 ≤ _; omega, fun r hr => ?_⟩
          rcases List.mem_append.mp hr with hr | hr
          · exact hin r hr
          · rw [List.mem_singleton.mp hr]
            exact hrow
        · rintro H3 ⟨rows, hD3, s3, hrl, hin⟩
          rw [List.length_map] at hrl
          have hr300 : ∀ r ∈ rows, (tl r).length ≤ 300 ∧ ∀ c ∈ tl r, c < 128 := fun r hr => ⟨(hro0 r (hin r hr)).1, (hro0 r (hin r hr)).2.1⟩
          obtain ⟨ts, hL⟩ := lexE_all rows 1 fun r hr => (hro0 r (hin r hr)).2.2
          obtain ⟨ht1, hord⟩ := lexE_ord hL hr300
          have hts : ∀ t ∈ ts, t.sort ≠ "mark" ∧ t.word.length ≤ 1000 := fun t ht => ⟨(ht1 t ht).2.1, by have := (ht1 t ht).2.2.2.2; omega⟩
          have hok : TsOk ts := fun t ht => ⟨(ht1 t ht).2.2.1, (ht1 t ht).2.2.2.1⟩
          have hokl := tsOk_told hok (told_laid ts)
          have hne : laidS ts ≠ [] := fun z => by
            have h1 := toks_laid (ts := ts) fun t ht => (hts t ht).1
            rw [z] at h1
            have h2 : ts = [] := h1.symm
            rw [h2] at z
            cases z
          have hbal : (marksOf (laidS ts)).foldl balW (some 0) = some 0 := by
            rw [← bal_marks]
            exact laidS_bal fun t ht => (hts t ht).1
          have htk := toks_laid (ts := ts) fun t ht => (hts t ht).1
          have sHH : Same H' H3 := s2.trans s3
          refine ⟨_, rfl, D, rows, none, ts, rfl, .of hD3, by omega, fun r hr => (hr300 r hr).1, hL, (fun _ pf H4 us hpf s4 hpf4 hpt hul => ?_), fun q z => by cases z⟩
          have htl : us.length = ts.length := hpt.length
          refine ⟨pf, us, ts, rfl, hpf4, hpt, hts, hord, by omega, fun pd H5 ud hpd s5 hpd5 hptd => ?_⟩
          have s35 := s4.trans s5
          have hD5 := s35 _ _ hD3
          refine ⟨2, rfl, by decide, by decide, ?_⟩
          refine for_range (lo := 0) (n := 2) (fun i σ H' => ∃ y4 y6 y7 y8 : Option V, σ = [some (.ref a), some (.int c), some (.ref pu), some (.ref D), y4, some (.ref pd), y6, y7, y8] ∧ Same H5 H')
            ⟨_, _, _, _, rfl, Same.refl _⟩ ?_ ?_
          · rintro i σ H6 hi ⟨z4, z6, z7, z8, rfl, s6⟩
            refine ⟨_, rfl, D, rows, none, ts, rfl, .of (s6 _ _ hD5), by omega, fun r hr => (hr300 r hr).1, hL, hts, (fun _ pa H7 ua hpa s7 hpa7 hpta hual => ?_), fun q z => by cases z⟩
            refine ⟨_, rfl, rfl, rfl, D, rows, none, ts, rfl, .of (s7 _ _ (s6 _ _ hD5)), by omega, fun r hr => (hr300 r hr).1, hL, hts, (fun _ pb H8 ub hpb s8 hpb8 hptb hubl => ?_), fun q z => by cases z⟩
            refine ⟨szS (by simp), fun pl hpl8 => ?_⟩
            have s9 := same_new (o := HO.lst [V.ref pa, V.ref pb]) hpl8
            obtain ⟨tp, ut, hat, h1, h2, h3, h4⟩ : ∃ tp ut, atI [V.ref pa, V.ref pb] ((0 : Int) + (i : Nat)) = some (.ref tp) ∧ H6 tp = none ∧ upd H8 pl (.lst [V.ref pa, V.ref pb]) tp = some (.lst ut) ∧ Paired (TkT (upd H8 pl (.lst [V.ref pa, V.ref pb]))) ut (laidS ts) ∧ ut.length ≤ 90000 := by
              match i, hi with
              | 0, _ => exact ⟨pa, ua, rfl, hpa, s9 _ _ (s8 _ _ hpa7), pt_same hpta (s8.trans s9), hual⟩
              | 1, _ => exact ⟨pb, ub, rfl, s7.free hpb, s9 _ _ hpb8, pt_same hptb s9, hubl⟩
            refine ⟨_, rfl, pl, _, _, _, rfl, rfl, .of upd_same, hat, ?_⟩
            have s69 : Same H6 (upd H8 pl (.lst [V.ref pa, V.ref pb])) := s7.trans (s8.trans s9)
            generalize upd H8 pl (.lst [V.ref pa, V.ref pb]) = H9 at h2 h3 s69 ⊢
            have s59 := s6.trans s69
            refine ⟨_, rfl, _, _, _, _, true, rfl, .ty "list", .base (.lst h2), kit_ty (by decide +kernel), _, rfl, iteF ?_⟩
            refine ⟨_, rfl, _, rfl, _, _, .lst (.of h2) (dp_tks h3), .lst (.of (s59 _ _ hpd5)) (dp_tks (pt_same hptd s59)), shp_tks hokl, shp_tks hokl, _, rfl, ?_⟩
            rw [eqv_self (shp_tks hokl)]
            refine iteF ?_
            -- the lexemes among them
            refine ⟨_, rfl, tp, rfl, ⟨_, .of h2⟩, fun D2 hD2 => ?_⟩
            refine lc_list (K := K) (a := tp) (xs := ut) (fun j H' => ∃ vs : List V, H' D2 = some (.lst vs) ∧ Same H9 H' ∧ Paired (TkT H') vs (toks ((laidS ts).take j)) ∧ vs.length ≤ j)
              ⟨[], upd_same, same_new hD2, .nil, Nat.zero_le _⟩ (fun j H' _ ⟨_, _, sm, _⟩ => .of (sm _ _ h2)) ?_ ?_
            · rintro j x HA hx ⟨vs, hDA, sA, hpv, hvl⟩
              obtain ⟨t, ht, hv⟩ := L2.paired_get h3 hx
              have hj : j < ut.length := (List.getElem?_eq_some_iff.mp hx).1
              obtain ⟨a4, b4, rfl, ha4, hb4⟩ := hv
              refine ⟨rfl, _, rfl, a4, _, 1, _, rfl, rfl, .of (sA _ _ ha4), rfl, rfl, _, rfl, ?_⟩
              by_cases hm : t.sort = "mark"
              · rw [show (!decide (V.str t.sort = V.str "mark")) = false from by rw [decide_eq_true (congrArg V.str hm)]; rfl]
                refine iteF ⟨vs, hDA, sA, ?_, by omega⟩
                rw [List.take_add_one, ht, toks_app, show toks (some t).toList = [] from by simp [toks, hm], List.append_nil]
                exact hpv
              · rw [show (!decide (V.str t.sort = V.str "mark")) = true from by rw [decide_eq_false (fun z => hm (V.str.inj z))]; rfl]
                refine iteT ⟨_, rfl, vs, hDA, szL (by omega), vs ++ [.ref a4], upd_same, same_mut sA hD2, ?_, by rw [List.length_append]; show vs.length + 1 ≤ _; omega⟩
                rw [List.take_add_one, ht, toks_app, show toks (some t).toList = [t] from by simp [toks, hm]]
                exact Paired.snoc (pt_but hpv (But.upd (But.refl _ _)) hDA) (TkT.kt ⟨a4, b4, rfl, sA _ _ ha4, sA _ _ hb4⟩ (KT.upd (fun xs z => by rw [hDA] at z; cases z)))
            · rintro HA ⟨vs, hDA, sA, hpv, hvl⟩
              rw [show (laidS ts).take ut.length = laidS ts from List.take_of_length_le (by rw [h3.length]; exact Nat.le_refl _), htk] at hpv
              refine ⟨_, rfl, D, rows, none, ts, rfl, .of (sA _ _ (s59 _ _ hD5)), by omega, fun r hr => (hr300 r hr).1, hL, (fun _ pc HB uc hpc sB hpcB hptc hucl => ?_), fun q z => by cases z⟩
              refine ⟨_, _, .lst (.of (sB _ _ hDA)) (dp_tks (pt_same hpv sB)), .lst (.of hpcB) (dp_tks hptc), shp_tks hok, shp_tks hok, _, rfl, ?_⟩
              rw [eqv_self (shp_tks hok)]
              refine iteF ?_
              have s9B := sA.trans sB
              have h2B := s9B _ _ h2
              -- even
              refine ⟨_, rfl, tp, rfl, ⟨_, .of h2B⟩, fun D3 hD3' => ?_⟩
              refine lc_list (K := K) (a := tp) (xs := ut) (fun j H' => H' D3 = some (.lst ((marksOf ((laidS ts).take j)).map V.str)) ∧ Same HB H' ∧ (marksOf ((laidS ts).take j)).length ≤ j)
                ⟨upd_same, same_new hD3', Nat.zero_le _⟩ (fun j H' _ ⟨_, sm, _⟩ => .of (sm _ _ h2B)) ?_ ?_
              · rintro j x HC hx ⟨hDC, sC, hml⟩
                obtain ⟨t, ht, hv⟩ := L2.paired_get h3 hx
                have hj : j < ut.length := (List.getElem?_eq_some_iff.mp hx).1
                obtain ⟨a4, b4, rfl, ha4, hb4⟩ := hv
                have ha5 := sC _ _ (s9B _ _ ha4)
                have mapp : ∀ l m : List Tk, marksOf (l ++ m) = marksOf l ++ marksOf m := fun l m => by unfold marksOf; rw [List.filter_append, List.map_append]
                refine ⟨rfl, _, rfl, a4, _, 1, _, rfl, rfl, .of ha5, rfl, rfl, _, rfl, ?_⟩
                by_cases hm : t.sort = "mark"
                · rw [decide_eq_true (congrArg V.str hm)]
                  have e1 : marksOf ((laidS ts).take (j + 1)) = marksOf ((laidS ts).take j) ++ [t.word] := by
                    rw [List.take_add_one, ht, mapp]
                    congr 1
                    simp [marksOf, hm]
                  refine iteT ⟨_, rfl, a4, _, 2, _, rfl, rfl, .of ha5, rfl, _, hDC, szL (by rw [List.length_map]; omega), ?_, same_mut sC hD3', by rw [e1, List.length_append]; show _ + 1 ≤ _; omega⟩
                  rw [upd_same, e1, List.map_append]
                  rfl
                · rw [decide_eq_false (fun z => hm (V.str.inj z))]
                  have e1 : marksOf ((laidS ts).take (j + 1)) = marksOf ((laidS ts).take j) := by
                    rw [List.take_add_one, ht, mapp, show marksOf (some t).toList = [] from by simp [marksOf, hm], List.append_nil]
                  exact iteF ⟨by rw [e1]; exact hDC, sC, by rw [e1]; omega⟩
              · rintro HC ⟨hDC, sC, hml⟩
                rw [show (laidS ts).take ut.length = laidS ts from List.take_of_length_le (by rw [h3.length]; exact Nat.le_refl _)] at hDC
                refine ⟨D3, _, rfl, .of hDC, hbal, _, rfl, iteF ?_⟩
                have h2C := sC _ _ h2B
                have hune : ut ≠ [] := fun z => by
                  have := h3.length
                  rw [z] at this
                  exact hne (List.length_eq_zero_iff.mp this.symm)
                rcases List.eq_nil_or_concat ut with e | ⟨ut', v, e⟩
                · exact absurd e hune
                · rw [List.concat_eq_append] at e
                  rw [e] at h2C
                  refine ⟨_, rfl, .inl ⟨rfl, _, .of h2C⟩, tp, _, v, rfl, rfl, h2C, last_get _ _, ?_⟩
                  rw [List.dropLast_concat]
                  have hl' : ut'.length ≤ 90000 := by rw [e, List.length_append] at h4; omega
                  refine ⟨_, rfl, .inl ⟨rfl, _, .of upd_same⟩, tp, _, _, rfl, rfl, upd_same, szL (by omega), ?_⟩
                  have h1' : H5 tp = none := s6.free h1
                  exact ⟨_, _, _, _, rfl, same_mut (same_mut (s59.trans (s9B.trans sC)) h1') h1'⟩
          · rintro σ H6 ⟨z4, z6, z7, z8, rfl, s6⟩
            exact ⟨_, _, _, _, _, _, _, _, rfl, sm.trans (sHH.trans (s35.trans s6))⟩
    · rintro σ H' ⟨y1, y2, y3, y4, y5, y6, y7, y8, rfl, sm⟩
      exact q H'
end
end Sw
set_option Elab.async false
set_option linter.all false
set_option maxRecDepth 100000
set_option maxHeartbeats 0
namespace Sw
open PySem PySem.Spec PyProof.Rows L2 SX
def h_L_mixed : He.DefD := ⟨("_law_mixed", none), "_law_mixed", "_law_mixed", defArgs s_L_mixed, defBody s_L_mixed, defScope s_L_mixed, [], []⟩
def h_L_purse : He.DefD := ⟨("_law_purse", none), "_law_purse", "_law_purse", defArgs s_L_purse, defBody s_L_purse, defScope s_L_purse, [], []⟩
def h_L_take : He.DefD := ⟨("_law_take", none), "_law_take", "_law_take", defArgs s_L_take, defBody s_L_take, defScope s_L_take, [], []⟩
def h_L_at : He.DefD := ⟨("_law_at", none), "_law_at", "_law_at", defArgs s_L_at, defBody s_L_at, defScope s_L_at, [], []⟩
def h_L_scattered : He.DefD := ⟨("_law_scattered", none), "_law_scattered", "_law_scattered", defArgs s_L_scattered, defBody s_L_scattered, defScope s_L_scattered, [], []⟩
def h_L_kept_lines : He.DefD := ⟨("_law_kept_lines", none), "_law_kept_lines", "_law_kept_lines", defArgs s_L_kept_lines, defBody s_L_kept_lines, defScope s_L_kept_lines, [], []⟩
def h_L_top : He.DefD := ⟨("_law_top", none), "_law_top", "_law_top", defArgs s_L_top, defBody s_L_top, defScope s_L_top, [], []⟩
def h_L_shut_to : He.DefD := ⟨("_law_shut_to", none), "_law_shut_to", "_law_shut_to", defArgs s_L_shut_to, defBody s_L_shut_to, defScope s_L_shut_to, [], []⟩
def h_L_opens : He.DefD := ⟨("_law_opens", none), "_law_opens", "_law_opens", defArgs s_L_opens, defBody s_L_opens, defScope s_L_opens, [], []⟩
def h_L_begins : He.DefD := ⟨("_law_begins", none), "_law_begins", "_law_begins", defArgs s_L_begins, defBody s_L_begins, defScope s_L_begins, [], []⟩
def h_L_in : He.DefD := ⟨("_law_in", none), "_law_in", "_law_in", defArgs s_L_in, defBody s_L_in, defScope s_L_in, [], []⟩
def h_L_laid : He.DefD := ⟨("_law_laid", none), "_law_laid", "_law_laid", defArgs s_L_laid, defBody s_L_laid, defScope s_L_laid, [], []⟩
def h_L_even : He.DefD := ⟨("_law_even", none), "_law_even", "_law_even", defArgs s_L_even, defBody s_L_even, defScope s_L_even, [], []⟩
def h_law : He.DefD := ⟨("law", none), "law", "law", defArgs s_law, defBody s_law, defScope s_law, [], []⟩
def h_run_end : He.DefD := ⟨("run_end", none), "run_end", "run_end", defArgs s_run_end, defBody s_run_end, defScope s_run_end, [], []⟩
def h_lexeme_end : He.DefD := ⟨("lexeme_end", none), "lexeme_end", "lexeme_end", defArgs s_lexeme_end, defBody s_lexeme_end, defScope s_lexeme_end, [], []⟩
def h_row_lexemes : He.DefD := ⟨("row_lexemes", none), "row_lexemes", "row_lexemes", defArgs s_row_lexemes, defBody s_row_lexemes, defScope s_row_lexemes, [], []⟩
def h_lexemes : He.DefD := ⟨("lexemes", none), "lexemes", "lexemes", defArgs s_lexemes, defBody s_lexemes, defScope s_lexemes, [], []⟩
def h_laid : He.DefD := ⟨("laid", none), "laid", "laid", defArgs s_laid, defBody s_laid, defScope s_laid, [], []⟩
def h_NoSign_init : He.DefD := ⟨("NoSign", some "__init__"), "__init__", "NoSign.__init__", defArgs s_NoSign_init, defBody s_NoSign_init, defScope s_NoSign_init, [], []⟩
def h_Laying_init : He.DefD := ⟨("Laying", some "__init__"), "__init__", "Laying.__init__", defArgs s_Laying_init, defBody s_Laying_init, defScope s_Laying_init, [], []⟩
def h_Laying_mark : He.DefD := ⟨("Laying", some "mark"), "mark", "Laying.mark", defArgs s_Laying_mark, defBody s_Laying_mark, defScope s_Laying_mark, [], []⟩
def h_Laying_column : He.DefD := ⟨("Laying", some "column"), "column", "Laying.column", defArgs s_Laying_column, defBody s_Laying_column, defScope s_Laying_column, [], []⟩
def h_Laying_opened : He.DefD := ⟨("Laying", some "opened"), "opened", "Laying.opened", defArgs s_Laying_opened, defBody s_Laying_opened, defScope s_Laying_opened, [], []⟩
def h_Laying_shut_top : He.DefD := ⟨("Laying", some "shut_top"), "shut_top", "Laying.shut_top", defArgs s_Laying_shut_top, defBody s_Laying_shut_top, defScope s_Laying_shut_top, [], []⟩
def h_Laying_new_line : He.DefD := ⟨("Laying", some "new_line"), "new_line", "Laying.new_line", defArgs s_Laying_new_line, defBody s_Laying_new_line, defScope s_Laying_new_line, [], []⟩
def h_Laying_closes_let : He.DefD := ⟨("Laying", some "closes_let"), "closes_let", "Laying.closes_let", defArgs s_Laying_closes_let, defBody s_Laying_closes_let, defScope s_Laying_closes_let, [], []⟩
def h_Laying_closes_bracket : He.DefD := ⟨("Laying", some "closes_bracket"), "closes_bracket", "Laying.closes_bracket", defArgs s_Laying_closes_bracket, defBody s_Laying_closes_bracket, defScope s_Laying_closes_bracket, [], []⟩
def h_Laying_take : He.DefD := ⟨("Laying", some "take"), "take", "Laying.take", defArgs s_Laying_take, defBody s_Laying_take, defScope s_Laying_take, [], []⟩
def h_Laying_ends : He.DefD := ⟨("Laying", some "ends"), "ends", "Laying.ends", defArgs s_Laying_ends, defBody s_Laying_ends, defScope s_Laying_ends, [], []⟩
def hfn : List He.DefD := [h_L_mixed, h_L_purse, h_L_take, h_L_at, h_L_scattered, h_L_kept_lines, h_L_top, h_L_shut_to, h_L_opens, h_L_begins, h_L_in, h_L_laid, h_L_even, h_law, h_run_end, h_lexeme_end, h_row_lexemes, h_lexemes, h_laid, h_NoSign_init, h_Laying_init, h_Laying_mark, h_Laying_column, h_Laying_opened, h_Laying_shut_top, h_Laying_new_line, h_Laying_closes_let, h_Laying_closes_bracket, h_Laying_take, h_Laying_ends]
def hloose : List Str := (["SlumberError", "NoSign", "SMALL", "GREAT", "FIGURES", "WORDS", "SIGNS", "MOST_LETTERS", "UNMARKED", "run_end", "lexeme_end", "row_lexemes", "lexemes", "Laying", "laid", "_law_mixed", "_law_purse", "_law_take", "_law_at", "_law_scattered", "_law_kept_lines", "_law_top", "_law_shut_to", "_law_opens", "_law_begins", "_law_in", "_law_laid", "_law_even"] : List Str)
def hlaw : Nat := 31
/-! ### a Hook with one more look -/
abbrev AlZ : Type := He.AlD × Bool
def obsZ (n : Nat) (fa : List He.Fa) (fn : List He.DefD) (ex : PySem.W.Frag → Bool) (g : Addr → Option Obj) : AlZ := (He.obsD fa fn (He.frG g (He.asD g n)), ex (He.frG g (He.asD g n)))
def hookZ (n : Nat) (fa : List He.Fa) (fn : List He.DefD) (ex : PySem.W.Frag → Bool) : PySem.W.Hook where
  α := AlZ
  obs := fun s => obsZ n fa fn ex s.heap.get?
  val := fun _ => (He.valD fn, true)
  says := fun _ h => ∃ K : PySem.W.Frag, K.In h ∧ He.SaysD fa fn K ∧ ex K = true
  of := fun _ _ e => ⟨_, He.frG_in, congrArg (fun z : AlZ => z.1) e, congrArg (fun z : AlZ => z.2) e⟩
  keeps := fun _ _ _ ⟨K, hK, c⟩ k => ⟨K, PySem.W.Frag.In.keeps hK k, c⟩
theorem obsZ_eq {n : Nat} {fa : List He.Fa} {fn : List He.DefD} {ex : PySem.W.Frag → Bool} {g : Addr → Option Obj} {s : Shared} (h : ∀ a, g a = s.heap.get? a) : obsZ n fa fn ex g = (hookZ n fa fn ex).obs s := by
  have e : g = s.heap.get? := funext h
  rw [e] <;> rfl
/-! ### the head -/
def hfa : List He.Fa := [He.Fa.glo "_law_mixed", He.Fa.glo "_law_purse", He.Fa.glo "_law_take", He.Fa.glo "_law_at", He.Fa.glo "_law_scattered", He.Fa.glo "_law_kept_lines", He.Fa.glo "_law_top", He.Fa.glo "_law_shut_to", He.Fa.glo "_law_opens", He.Fa.glo "_law_begins", He.Fa.glo "_law_in", He.Fa.glo "_law_laid", He.Fa.glo "_law_even", He.Fa.glo "law", He.Fa.glo "run_end", He.Fa.glo "lexeme_end", He.Fa.glo "row_lexemes", He.Fa.glo "lexemes", He.Fa.glo "laid", He.Fa.glo "NoSign", He.Fa.meth "Laying" "__init__", He.Fa.meth "Laying" "mark", He.Fa.meth "Laying" "column", He.Fa.meth "Laying" "opened", He.Fa.meth "Laying" "shut_top", He.Fa.meth "Laying" "new_line", He.Fa.meth "Laying" "closes_let", He.Fa.meth "Laying" "closes_bracket", He.Fa.meth "Laying" "take", He.Fa.meth "Laying" "ends", He.Fa.noat "NoSign" "place", He.Fa.cls "Laying", He.Fa.glo "Laying", He.Fa.mkr "Laying", He.Fa.noat "Laying" "told", He.Fa.noat "Laying" "pile", He.Fa.noat "Laying" "lets", He.Fa.noat "Laying" "opener", He.Fa.noat "Laying" "line", He.Fa.str "SMALL" "abcdefghijklmnopqrstuvwxyz", He.Fa.str "GREAT" "ABCDEFGHIJKLMNOPQRSTUVWXYZ", He.Fa.str "FIGURES" "0123456789", He.Fa.glo "WORDS", He.Fa.glo "SIGNS", He.Fa.glo "UNMARKED", He.Fa.int "MOST_LETTERS" 8, He.Fa.free "len", He.Fa.free "int", He.Fa.free "list", He.Fa.free "tuple", He.Fa.free "str", He.Fa.free "bool", He.Fa.free "range", He.Fa.free "enumerate", He.Fa.free "isinstance"]
def hex (K : PySem.W.Frag) : Bool := exnB K "NoSign" && (He.tupB K "WORDS" [He.Dv.str "data", He.Dv.str "let", He.Dv.str "in", He.Dv.str "if", He.Dv.str "then", He.Dv.str "else", He.Dv.str "case", He.Dv.str "of", He.Dv.str "fun"] && (He.tupB K "SIGNS" [He.Dv.str "->", He.Dv.str "==", He.Dv.str "=", He.Dv.str "|", He.Dv.str "(", He.Dv.str ")", He.Dv.str "+", He.Dv.str "-", He.Dv.str "*", He.Dv.str "<", He.Dv.str "_"] && (He.tupB K "UNMARKED" [He.Dv.str "in", He.Dv.str "then", He.Dv.str "else", He.Dv.str "of", He.Dv.str ")", He.Dv.str "|"])))
abbrev HR : PySem.W.OpenRow := PySem.W.OpenLaw.row PySem.Challenge.rw_slumberway_k03_layout
abbrev hhk : PySem.W.Hook := hookZ 6 hfa hfn hex
def hob (s : PySem.W.SharedT) : AlZ := obsZ 6 hfa hfn hex (HandSHeadRun.getT s)
theorem hob_eq (s : PySem.W.SharedT) : hob s = hhk.obs s.abs := obsZ_eq (HandSHeadRun.getT_eq s)
theorem hrun (w : World) : HandSHeadRun.RunEq HR (PySem.W.view HR.prog [31]) hhk hob 4000 hloose w := by
  intro os
  kernel_rfl
/-- a law's end over a head by facts, what is let out hanging on the world -/
theorem walk_law {l : PySem.W.OpenLaw} {n k : Nat} {q : Program} {loose : List Str} {XP : (Str → Option Value) → Heap → Prop} {YP : World → Heap → Prop} {d : DefRec} {x : Str}
    (hn : l.most = some n) (hn2 : n ≤ sizeLine) (hdf : d.params.defaults = []) (hr : Room k callerA)
    (F : ∀ (w : World) (mg : Str → Option Value) (fa : Addr) (h : Heap), YP w h → h.Ns mainGlobals mg → mg d.name = some (.ref fa) →
      ∃ (K : PySem.W.Frag) (fd : FuncData) (sp : Sp), K.In h ∧ (∀ (s : Shared) (u : Value), BindsTo s fd ⟨[u], []⟩ [(x, u)]) ∧
        (∀ (H : Hp) (a : Addr) (ns : List Int), ns.length ≤ n → Only H → SqL K H a (ns.map V.int) → sp [.ref a] H (fun v _ => v = .bl true) fun _ _ _ => False) ∧
        ∀ base : Heap, K.In base → base.Ns mainGlobals mg → FnOk l.prog w K mg base (L2.CX l.prog w) k fa fd [x] sp) :
    PySem.W.WalkO q loose XP YP l.row.toRowW d [] (fun f vs => PySem.call f vs) := by
  refine Att.attach_call hn hdf fun w s₀ s₁ mg mb fa o pm cd doc a vs ns G Y ho hd hcd hmg hobj hints hlen hg => ?_
  obtain ⟨K, fd, sp, KX, hb, hsp, hF⟩ := F w mg fa _ Y G.T.g hmg
  refine law_call KX G.T.g G.T.b G.T.builtins G.T.nolimit hg hobj hints (Nat.le_trans hlen hn2) hr hF hb (fun H hO hS => hsp H a ns hlen hO hS) fun H e s' hx => ?_
  obtain ⟨_, _, _, _, _, _, _, _, _, _, _, _, z⟩ := hx
  exact z.elim
theorem txt_of {K : PySem.W.Frag} {h : Heap} {mg : Str → Option Value} (X : K.In h) (G : h.Ns mainGlobals mg) (c : He.SaysD hfa hfn K) (e : hex K = true) : Txt K mg := by
  obtain ⟨ex0, r0⟩ := He.ba e
  obtain ⟨ex1, r1⟩ := He.ba r0
  obtain ⟨ex2, r2⟩ := He.ba r1
  have ex3 := r2
  exact {
    d_L_mixed := by
      obtain ⟨fd, F⟩ := c.def_ 0 (d := h_L_mixed) rfl
      exact dfn_mk F (He.glo_ok X G (c.fact 0 (f := .glo "_law_mixed") rfl)) (fun _ _ _ _ _ _ us hl => match us, hl with | [_, _], _ => rfl)
    d_L_purse := by
      obtain ⟨fd, F⟩ := c.def_ 1 (d := h_L_purse) rfl
      exact dfn_mk F (He.glo_ok X G (c.fact 1 (f := .glo "_law_purse") rfl)) (fun _ _ _ _ _ _ us hl => match us, hl with | [_, _], _ => rfl)
    d_L_take := by
      obtain ⟨fd, F⟩ := c.def_ 2 (d := h_L_take) rfl
      exact dfn_mk F (He.glo_ok X G (c.fact 2 (f := .glo "_law_take") rfl)) (fun _ _ _ _ _ _ us hl => match us, hl with | [_, _], _ => rfl)
    d_L_at := by
      obtain ⟨fd, F⟩ := c.def_ 3 (d := h_L_at) rfl
      exact dfn_mk F (He.glo_ok X G (c.fact 3 (f := .glo "_law_at") rfl)) (fun _ _ _ _ _ _ us hl => match us, hl with | [_, _], _ => rfl)
    d_L_scattered := by
      obtain ⟨fd, F⟩ := c.def_ 4 (d := h_L_scattered) rfl
      exact dfn_mk F (He.glo_ok X G (c.fact 4 (f := .glo "_law_scattered") rfl)) (fun _ _ _ _ _ _ us hl => match us, hl with | [_, _], _ => rfl)
    d_L_kept_lines := by
      obtain ⟨fd, F⟩ := c.def_ 5 (d := h_L_kept_lines) rfl
      exact dfn_mk F (He.glo_ok X G (c.fact 5 (f := .glo "_law_kept_lines") rfl)) (fun _ _ _ _ _ _ us hl => match us, hl with | [_, _], _ => rfl)
    d_L_top := by
      obtain ⟨fd, F⟩ := c.def_ 6 (d := h_L_top) rfl
      exact dfn_mk F (He.glo_ok X G (c.fact 6 (f := .glo "_law_top") rfl)) (fun _ _ _ _ _ _ us hl => match us, hl with | [_], _ => rfl)
    d_L_shut_to := by
      obtain ⟨fd, F⟩ := c.def_ 7 (d := h_L_shut_to) rfl
      exact dfn_mk F (He.glo_ok X G (c.fact 7 (f := .glo "_law_shut_to") rfl)) (fun _ _ _ _ _ _ us hl => match us, hl with | [_, _, _, _], _ => rfl)
    d_L_opens := by
      obtain ⟨fd, F⟩ := c.def_ 8 (d := h_L_opens) rfl
      exact dfn_mk F (He.glo_ok X G (c.fact 8 (f := .glo "_law_opens") rfl)) (fun _ _ _ _ _ _ us hl => match us, hl with | [_, _, _, _, _], _ => rfl)
    d_L_begins := by
      obtain ⟨fd, F⟩ := c.def_ 9 (d := h_L_begins) rfl
      exact dfn_mk F (He.glo_ok X G (c.fact 9 (f := .glo "_law_begins") rfl)) (fun _ _ _ _ _ _ us hl => match us, hl with | [_, _, _, _], _ => rfl)
    d_L_in := by
      obtain ⟨fd, F⟩ := c.def_ 10 (d := h_L_in) rfl
      exact dfn_mk F (He.glo_ok X G (c.fact 10 (f := .glo "_law_in") rfl)) (fun _ _ _ _ _ _ us hl => match us, hl with | [_, _, _, _], _ => rfl)
    d_L_laid := by
      obtain ⟨fd, F⟩ := c.def_ 11 (d := h_L_laid) rfl
      exact dfn_mk F (He.glo_ok X G (c.fact 11 (f := .glo "_law_laid") rfl)) (fun _ _ _ _ _ _ us hl => match us, hl with | [_], _ => rfl)
    d_L_even := by
      obtain ⟨fd, F⟩ := c.def_ 12 (d := h_L_even) rfl
      exact dfn_mk F (He.glo_ok X G (c.fact 12 (f := .glo "_law_even") rfl)) (fun _ _ _ _ _ _ us hl => match us, hl with | [_], _ => rfl)
    d_law := by
      obtain ⟨fd, F⟩ := c.def_ 13 (d := h_law) rfl
      exact dfn_mk F (He.glo_ok X G (c.fact 13 (f := .glo "law") rfl)) (fun _ _ _ _ _ _ us hl => match us, hl with | [_], _ => rfl)
    d_run_end := by
      obtain ⟨fd, F⟩ := c.def_ 14 (d := h_run_end) rfl
      exact dfn_mk F (He.glo_ok X G (c.fact 14 (f := .glo "run_end") rfl)) (fun _ _ _ _ _ _ us hl => match us, hl with | [_, _, _, _], _ => rfl)
    d_lexeme_end := by
      obtain ⟨fd, F⟩ := c.def_ 15 (d := h_lexeme_end) rfl
      exact dfn_mk F (He.glo_ok X G (c.fact 15 (f := .glo "lexeme_end") rfl)) (fun _ _ _ _ _ _ us hl => match us, hl with | [_, _], _ => rfl)
    d_row_lexemes := by
      obtain ⟨fd, F⟩ := c.def_ 16 (d := h_row_lexemes) rfl
      exact dfn_mk F (He.glo_ok X G (c.fact 16 (f := .glo "row_lexemes") rfl)) (fun _ _ _ _ _ _ us hl => match us, hl with | [_, _], _ => rfl)
    d_lexemes := by
      obtain ⟨fd, F⟩ := c.def_ 17 (d := h_lexemes) rfl
      exact dfn_mk F (He.glo_ok X G (c.fact 17 (f := .glo "lexemes") rfl)) (fun _ _ _ _ _ _ us hl => match us, hl with | [_], _ => rfl)
    d_laid := by
      obtain ⟨fd, F⟩ := c.def_ 18 (d := h_laid) rfl
      exact dfn_mk F (He.glo_ok X G (c.fact 18 (f := .glo "laid") rfl)) (fun _ _ _ _ _ _ us hl => match us, hl with | [_], _ => rfl)
    x_NoSign := by
      obtain ⟨fd, F⟩ := c.def_ 19 (d := h_NoSign_init) rfl
      exact exn_mk ex0 (He.glo_ok X G (c.fact 19 (f := .glo "NoSign") rfl)) F (fun _ _ _ _ _ _ us hl => match us, hl with | [_, _], _ => rfl)
    d_Laying_init := by
      obtain ⟨fd, F⟩ := c.def_ 20 (d := h_Laying_init) rfl
      exact mth_mk F (He.meth_ok (c.fact 20 (f := .meth "Laying" "__init__") rfl)) (fun _ _ _ _ _ _ us hl => match us, hl with | [_], _ => rfl)
    d_Laying_mark := by
      obtain ⟨fd, F⟩ := c.def_ 21 (d := h_Laying_mark) rfl
      exact mth_mk F (He.meth_ok (c.fact 21 (f := .meth "Laying" "mark") rfl)) (fun _ _ _ _ _ _ us hl => match us, hl with | [_, _, _], _ => rfl)
    d_Laying_column := by
      obtain ⟨fd, F⟩ := c.def_ 22 (d := h_Laying_column) rfl
      exact mth_mk F (He.meth_ok (c.fact 22 (f := .meth "Laying" "column") rfl)) (fun _ _ _ _ _ _ us hl => match us, hl with | [_], _ => rfl)
    d_Laying_opened := by
      obtain ⟨fd, F⟩ := c.def_ 23 (d := h_Laying_opened) rfl
      exact mth_mk F (He.meth_ok (c.fact 23 (f := .meth "Laying" "opened") rfl)) (fun _ _ _ _ _ _ us hl => match us, hl with | [_, _], _ => rfl)
    d_Laying_shut_top := by
      obtain ⟨fd, F⟩ := c.def_ 24 (d := h_Laying_shut_top) rfl
      exact mth_mk F (He.meth_ok (c.fact 24 (f := .meth "Laying" "shut_top") rfl)) (fun _ _ _ _ _ _ us hl => match us, hl with | [_, _], _ => rfl)
    d_Laying_new_line := by
      obtain ⟨fd, F⟩ := c.def_ 25 (d := h_Laying_new_line) rfl
      exact mth_mk F (He.meth_ok (c.fact 25 (f := .meth "Laying" "new_line") rfl)) (fun _ _ _ _ _ _ us hl => match us, hl with | [_, _, _], _ => rfl)
    d_Laying_closes_let := by
      obtain ⟨fd, F⟩ := c.def_ 26 (d := h_Laying_closes_let) rfl
      exact mth_mk F (He.meth_ok (c.fact 26 (f := .meth "Laying" "closes_let") rfl)) (fun _ _ _ _ _ _ us hl => match us, hl with | [_, _], _ => rfl)
    d_Laying_closes_bracket := by
      obtain ⟨fd, F⟩ := c.def_ 27 (d := h_Laying_closes_bracket) rfl
      exact mth_mk F (He.meth_ok (c.fact 27 (f := .meth "Laying" "closes_bracket") rfl)) (fun _ _ _ _ _ _ us hl => match us, hl with | [_, _], _ => rfl)
    d_Laying_take := by
      obtain ⟨fd, F⟩ := c.def_ 28 (d := h_Laying_take) rfl
      exact mth_mk F (He.meth_ok (c.fact 28 (f := .meth "Laying" "take") rfl)) (fun _ _ _ _ _ _ us hl => match us, hl with | [_, _], _ => rfl)
    d_Laying_ends := by
      obtain ⟨fd, F⟩ := c.def_ 29 (d := h_Laying_ends) rfl
      exact mth_mk F (He.meth_ok (c.fact 29 (f := .meth "Laying" "ends") rfl)) (fun _ _ _ _ _ _ us hl => match us, hl with | [_, _], _ => rfl)
    k_laid := by
      obtain ⟨fd, F⟩ := c.def_ 18 (d := h_laid) rfl
      have ef : fdAt K (He.ga K "laid") = fd := fdAt_eq F
      rw [ef]
      exact kbn0 F (fun us ws => us ++ ws) (fun r1 r2 => r1.append r2) (fun _ _ _ _ _ _ us ws h1 h2 => match us, h1, ws, h2 with | [], _, [_], _ => rfl)
    f_NoSign := He.noat_ok (c.fact 30 (f := .noat "NoSign" "place") rfl)
    cl_Laying := He.cls_ok (c.fact 31 (f := .cls "Laying") rfl)
    g_Laying := He.glo_ok X G (c.fact 32 (f := .glo "Laying") rfl)
    mk_Laying := He.mkr_ok (c.fact 33 (f := .mkr "Laying") rfl)
    na_Laying := by
      intro f hf
      simp only [List.mem_cons, List.mem_nil_iff, or_false] at hf
      rcases hf with rfl | rfl | rfl | rfl | rfl
      · exact He.noat_ok (c.fact 34 (f := .noat "Laying" "told") rfl)
      · exact He.noat_ok (c.fact 35 (f := .noat "Laying" "pile") rfl)
      · exact He.noat_ok (c.fact 36 (f := .noat "Laying" "lets") rfl)
      · exact He.noat_ok (c.fact 37 (f := .noat "Laying" "opener") rfl)
      · exact He.noat_ok (c.fact 38 (f := .noat "Laying" "line") rfl)
    c_SMALL := by
      obtain ⟨t, q⟩ := He.str_ok X G (c.fact 39 (f := .str "SMALL" "abcdefghijklmnopqrstuvwxyz") rfl)
      exact ⟨_, q, ⟨t, rfl⟩⟩
    c_GREAT := by
      obtain ⟨t, q⟩ := He.str_ok X G (c.fact 40 (f := .str "GREAT" "ABCDEFGHIJKLMNOPQRSTUVWXYZ") rfl)
      exact ⟨_, q, ⟨t, rfl⟩⟩
    c_FIGURES := by
      obtain ⟨t, q⟩ := He.str_ok X G (c.fact 41 (f := .str "FIGURES" "0123456789") rfl)
      exact ⟨_, q, ⟨t, rfl⟩⟩
    c_WORDS := ⟨_, He.glo_ok X G (c.fact 42 (f := .glo "WORDS") rfl), rfl⟩
    t_WORDS := fun H => He.tupB_ok ex1 H
    c_SIGNS := ⟨_, He.glo_ok X G (c.fact 43 (f := .glo "SIGNS") rfl), rfl⟩
    t_SIGNS := fun H => He.tupB_ok ex2 H
    c_UNMARKED := ⟨_, He.glo_ok X G (c.fact 44 (f := .glo "UNMARKED") rfl), rfl⟩
    t_UNMARKED := fun H => He.tupB_ok ex3 H
    c_MOST_LETTERS := by
      obtain ⟨t, q⟩ := He.int_ok X G (c.fact 45 (f := .int "MOST_LETTERS" 8) rfl)
      exact ⟨_, q, ⟨t, rfl⟩⟩
    b_len := He.free_ok X G (c.fact 46 (f := .free "len") rfl)
    b_int := He.free_ok X G (c.fact 47 (f := .free "int") rfl)
    b_list := He.free_ok X G (c.fact 48 (f := .free "list") rfl)
    b_tuple := He.free_ok X G (c.fact 49 (f := .free "tuple") rfl)
    b_str := He.free_ok X G (c.fact 50 (f := .free "str") rfl)
    b_bool := He.free_ok X G (c.fact 51 (f := .free "bool") rfl)
    b_range := He.free_ok X G (c.fact 52 (f := .free "range") rfl)
    b_enumerate := He.free_ok X G (c.fact 53 (f := .free "enumerate") rfl)
    b_isinstance := He.free_ok X G (c.fact 54 (f := .free "isinstance") rfl) }
theorem hfacts {P : Program} {w : World} {K : PySem.W.Frag} {h : Heap} {mg : Str → Option Value} {f : Addr} (X : K.In h) (G : h.Ns mainGlobals mg) (hfa' : mg ("law" : Str) = some (.ref f)) (c : He.SaysD hfa hfn K) (e : hex K = true) :
    ∃ fd : FuncData, (∀ (s : Shared) (v : Value), BindsTo s fd ⟨[v], []⟩ [("_law_script", v)]) ∧ ∀ base : Heap, K.In base → base.Ns mainGlobals mg → FnOk P w K mg base (L2.CX P w) 12 f fd ["_law_script"] (spLaw K) := by
  have T := txt_of X G c e
  obtain ⟨fd, F⟩ := c.def_ 13 (d := h_law) rfl
  have ef : fdAt K (He.ga K "law") = fd := fdAt_eq F
  have eq := hfa'.symm.trans T.d_law.g
  cases eq
  have b := FunD.bindsA (ps := ["_law_script"]) F fun _ _ _ _ _ _ us hl => match us, hl with | [_], _ => rfl
  refine ⟨fd, fun s v => b s [v] rfl, fun base _ _ => ?_⟩
  rw [← ef]
  exact ok_law T
end Sw
open PySem PySem.W PySem.Calls PyProof.Rows
theorem PySem.Challenge.cw_slumberway_k03_layout_holds : PySem.Challenge.rw_slumberway_k03_layout.Holds := by
  w_on; o_law
  refine HandSHeadRun.head_any (r := OpenLaw.row PySem.Challenge.rw_slumberway_k03_layout) (q := view (OpenLaw.row PySem.Challenge.rw_slumberway_k03_layout).prog [31]) (H := Sw.hhk) (ob := Sw.hob) (M := 4000) (loose := Sw.hloose) (d := HandSHeadRun.topDef (OpenLaw.row PySem.Challenge.rw_slumberway_k03_layout).prog 31) (kwd := []) Sw.hob_eq
    (by kernel_rfl) (fun s => by kernel_rfl) Sw.hrun (by kernel_rfl) (by kernel_rfl) (by kernel_rfl) (by rfl) (by first | assumption | decide +kernel) (by decide +kernel) ⟨rfl, rfl, rfl, rfl, rfl, by decide +kernel⟩ ?hw ?hc
  case hw => w_witness2
  case hc =>
    refine Sw.walk_law (l := PySem.Challenge.rw_slumberway_k03_layout) (n := 63) (k := 12) (x := "_law_script") rfl (by decide) (by kernel_rfl) ⟨rfl, by decide, by decide⟩ ?F
    case F =>
      intro w mg fa h Y G hmg0
      obtain ⟨K, KX, c, ec⟩ := Y
      have hmg : mg ("law" : PySem.Str) = some (.ref fa) := by
        have e : (HandSHeadRun.topDef (OpenLaw.row PySem.Challenge.rw_slumberway_k03_layout).prog 31).name = ("law" : PySem.Str) := by kernel_rfl
        rw [← e]
        exact hmg0
      obtain ⟨fd, hb, hF⟩ := Sw.hfacts (P := (PySem.Challenge.rw_slumberway_k03_layout).prog) (w := w) KX G hmg c ec
      exact ⟨K, fd, Sw.spLaw K, KX, hb, fun H a ns hl _ hS => ⟨a, ns, rfl, hS, hl, fun _ => rfl⟩, hF⟩
