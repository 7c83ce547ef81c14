import PyProof.Rows.All
import Wide.All
import OpenK.AllK
import Wide.FinOn
import HandS.ForMost
import HandS.Exc
import HandS.Codes
import HandS.Wide
import HandS.StrMore
import HandS.Deep
import HandS.IsInst
import HandS.Defaults
import HandS.WordsExc
import HandS.Walk
import HandS.TryOnly
import HandS.HeadHook1
import HandS.HeadHook2
import KE.KStateDown
import HandS.Head0
import HandS.Head1
import HandS.Head2
import HandS.HeadEnd
import PySem.Challenge.RW_slumberway_k01_lexemes
set_option Elab.async false
set_option linter.all false
set_option maxRecDepth 100000
set_option maxHeartbeats 4000000
namespace Sw
open PySem PySem.Spec PyProof.Rows L2 SX
/-! ### operators that the layer lacks -/
section
variable {X : Cx}
/-- a power of any base, of together at most 2 ^ 20 bits -/
def CPowW (i j : Int) : Prop := 0 ≤ j ∧ (Builtin.Int.intBits i : Int) * j ≤ 2 ^ 27
theorem op_powW : OpR X (binaryOp .Pow) (rI CPowW fun i j => .int (i ^ j.toNat)) := opI fun _ _ _ _ _ _ _ hc q => pow_int hc.1 hc.2 q
def blk (n : Nat) : List Nat := List.replicate n 32
/-- text * number -/
def rMulS : R2 := fun x y H Q => ∃ (l : List Nat) (n : Nat), x = .str (S l) ∧ y = .int (n : Int) ∧ l.length * n ≤ 100000 ∧ n ≤ 100000 ∧ Q (.str (S (List.replicate n l).flatten)) H
theorem foldl_cat (l : List Nat) : ∀ (n : Nat) (acc : Array Nat), (List.replicate n l.toArray).foldl (· ++ ·) acc = acc ++ ((List.replicate n l).flatten).toArray
  | 0, acc => by simp
  | n + 1, acc => by
    rw [List.replicate_succ, List.foldl_cons, foldl_cat l n, List.replicate_succ, List.flatten_cons]
    simp
theorem op_mulS : OpR X (binaryOp .Mult) rMulS := by
  intro pins s σ H x y v u Q I rx ry h
  obtain ⟨l, n, rfl, rfl, hl, hn, q⟩ := h
  obtain ⟨t, rfl⟩ := rx
  obtain ⟨t2, rfl⟩ := ry
  have e63 : (2 : Int) ^ 63 = 9223372036854775808 := by decide
  have hsl := sizeLine_eq
  refine PySem.P.mul_str ?_ ?_ ?_ ?_
  · rw [decide_eq_false (by rw [e63]; omega), decide_eq_false (by rw [e63]; omega)] <;> rfl
  · intro h1 _ h2
    have hn1 : 1 ≤ (n : Int) := by omega
    have h3 : (9223372036854775807 : Int) / (n : Int) < (l.length : Int) := by
      have h4 := h2
      rw [e63, S_len] at h4
      exact h4
    have h5 : (9223372036854775807 : Int) < (l.length : Int) * (n : Int) := (Int.ediv_lt_iff_lt_mul (by omega)).mp h3
    have h6 : ((l.length : Int) * (n : Int)) = ((l.length * n : Nat) : Int) := by rw [Int.natCast_mul]
    rw [h6] at h5
    omega
  · intro h1 _
    unfold Builtin.Str.tooLong
    rw [S_len, Int.toNat_natCast]
    exact decide_eq_false (by rw [hsl] <;> omega)
  · by_cases h1 : (n : Int) < 1
    · rw [if_pos h1]
      have e : n = 0 := by omega
      subst e
      exact ⟨by decide, .str (S []), H, I.tok _, ⟨_, rfl⟩, q⟩
    · rw [if_neg h1]
      by_cases h2 : ((n : Int) == 1 || (S l).length == 0) = true
      · rw [if_pos h2]
        have e : (List.replicate n l).flatten = l := by
          rcases Bool.or_eq_true_iff.mp h2 with h3 | h3
          · have h4 := beq_iff_eq.mp h3
            have e1 : n = 1 := by omega
            subst e1
            simp
          · have h4 := beq_iff_eq.mp h3
            rw [S_len] at h4
            have e1 : l = [] := List.length_eq_zero_iff.mp h4
            subst e1
            simp
        rw [e] at q
        exact ⟨.str (S l), H, I, ⟨_, rfl⟩, q⟩
      · rw [if_neg h2]
        refine ⟨?_, .str (S (List.replicate n l).flatten), H, I.tok _, ⟨s.toks, ?_⟩, q⟩
        · show (Str.mk ((List.replicate (n : Int).toNat l.toArray).foldl (· ++ ·) #[])).length ≤ sizeLine
          rw [Int.toNat_natCast, foldl_cat]
          show (#[] ++ ((List.replicate n l).flatten).toArray).size ≤ sizeLine
          have e2 : (#[] ++ ((List.replicate n l).flatten).toArray).size = n * l.length := by simp
          rw [e2, Nat.mul_comm, hsl]
          omega
        · rw [Int.toNat_natCast, foldl_cat]
          simp
end
/-! ### names of the module -/
def Glob (mg : Str → Option Value) (x : Str) (v : V) : Prop := ∃ u, mg x = some u ∧ RelV v u
section
variable {X : Cx}
theorem pe_g {x : Str} {v : V} {pos : Pos} (h : Glob X.mg x v) (hg : Gl X x := by rfl) (hd : (x == ("__debug__" : Str)) = false := by decide) : PE X (.Name x pos) (tC v) := by
  obtain ⟨u, hm, r⟩ := h
  exact pe_glob hg hm r hd
end
/-- the function that stands at an address -/
def fdAt (K : PySem.W.Frag) (a : Addr) : FuncData := match K.lookup a with
  | some ⟨_, _, .func fd, _⟩ => fd
  | _ => PySem.W.fnOf "" "" { posonlyargs := [], args := [], vararg := none, kwonlyargs := [], kw_defaults := [], kwarg := none, defaults := [] } [] { kind := .function, names := [], isGenerator := false, isCoroutine := false } .none .none .none .none none .none .none
/-- a def of the module, without defaults -/
structure Dfn (K : PySem.W.Frag) (mg : Str → Option Value) (x : Str) (st : Stmt) (ps : List Str) : Prop where
  fn : FunD K x x (defArgs st) (defBody st) (defScope st) [] [] (He.ga K x) (fdAt K (He.ga K x))
  g : mg x = some (.ref (He.ga K x))
  b : Binds K (fdAt K (He.ga K x)) ps []
theorem fdAt_eq {K : PySem.W.Frag} {x qual : Str} {pa : Arguments} {bd : List Stmt} {sc : Scope} {dvs : List V} {kws : List (Str × V)} {f : Addr} {fd : FuncData} (F : FunD K x qual pa bd sc dvs kws f fd) : fdAt K f = fd := by
  obtain ⟨oc, od, dV, kV, doc, pm, an, cdv, ct, osl, e, l, _⟩ := F.ex
  unfold fdAt
  rw [l]
theorem dfn_mk {K : PySem.W.Frag} {mg : Str → Option Value} {x : Str} {st : Stmt} {ps : List Str} {fd : FuncData} (F : FunD K x x (defArgs st) (defBody st) (defScope st) [] [] (He.ga K x) fd) (g : mg x = some (.ref (He.ga K x)))
    (h : ∀ (kV doc pm : Value) (an : Option Addr) (cdv ct : Value) (us : List Value), us.length = ps.length → bindArgs (PySem.W.fnOf x x (defArgs st) (defBody st) (defScope st) .none kV doc pm an cdv ct) ⟨us, []⟩ = pure (ps.zip us)) : Dfn K mg x st ps := by
  have e := fdAt_eq F
  refine ⟨by rw [e]; exact F, g, by rw [e]; exact F.bindsN h⟩
/-- all parameters by keywords, in the order ks: g puts them in the parameters' order -/
theorem kbn0 {K : PySem.W.Frag} {x qual : Str} {pa : Arguments} {bd : List Stmt} {sc : Scope} {kws : List (Str × V)} {f : Addr} {fd : FuncData} {ps ks : List Str} {n : Nat} (F : FunD K x qual pa bd sc [] kws f fd) (g : {α : Type} → List α → List α → List α)
    (hrel : ∀ {vs zs : List V} {us ws : List Value}, Vals vs us → Vals zs ws → Vals (g vs zs) (g us ws))
    (h : ∀ (kV doc pm : Value) (an : Option Addr) (cdv ct : Value) (us ws : List Value), us.length = n → ws.length = ks.length → bindArgs (PySem.W.fnOf x qual pa bd sc .none kV doc pm an cdv ct) ⟨us, ks.zip ws⟩ = pure (ps.zip (g us ws))) :
    KBn K fd ps n ks (fun us ws => g us ws) (fun vs zs => g vs zs) := by
  obtain ⟨oc, od, dV, kV, doc, pm, an, cdv, ct, osl, rfl, lk, hcd, hD, hK⟩ := F.ex
  rcases hD with ⟨_, rfl⟩ | ⟨e, _⟩
  · exact ⟨fun s us ws X l1 l2 => .of_eq (h kV doc pm an cdv ct us ws l1 l2), fun r1 r2 => hrel r1 r2⟩
  · exact absurd rfl e
section
variable {X : Cx} {CX : CXT} {k : Nat} {f : Addr} {fd : FuncData} {ps ks : List Str} {sp : Sp} {E : XK} {x : Str} {p pos : Pos} {kws : List Keyword} {tk : TA} {g : List Value → List Value → List Value} {gV : List V → List V → List V}
/-- f(k = v, ..) -/
theorem pe_callN0 (F : FnOk X.prog X.w X.K X.mg X.base CX k f fd ps sp) (hr : Room k X.A) (hg : Gl X x) (hm : X.mg x = some (.ref f)) (hk : PySem.W.keepIn X.K (.ref f) = true) (hb : KBn X.K fd ps 0 ks g gV) (hx : Passes CX X E)
    (hkw : PK X kws tk) (hall : (backToKw pos (keywordEach kws X.env)).all (·.1.isSome) = true := by rfl) (hks : (backToKw pos (keywordEach kws X.env)).filterMap (·.1) = ks := by rfl)
    (hdb : (x == ("__debug__" : Str)) = false := by decide)
    (hpl : ((backTo pos (starEach [] X.env)).any (·.1) || (backToKw pos (keywordEach kws X.env)).any (·.1.isNone)) = false := by rfl) :
    PE X (.Call (.Name x p) [] kws pos) (tCallN 0 ks.length sp gV E tNil tk) := by
  refine ⟨fun pins s σ H Q I h => ?_⟩
  refine wpAny_Call_Name_kw (ld_glob I hg hm ?_ hdb)
  refine PySem.W.callWith_KW0 (h₀ := X.base) I.ok.mod.kin hk hall ?_ hpl
  refine thn (hkw.run pos pins s σ H _ I h) fun ws s2 ⟨zs, H2, I2, rz, l1, l2, q2⟩ => ⟨I2.kIn, ?_⟩
  rw [hks]
  exact run_fnN F hr hb hx I2 .nil rz l1 l2 q2
end
/-! ### heaps -/
/-- all that was tracked is as it was, but at a -/
def But (a : Addr) (H H' : Hp) : Prop := ∀ b o, b ≠ a → H b = some o → H' b = some o
theorem But.refl (a : Addr) (H : Hp) : But a H H := fun _ _ _ h => h
theorem But.trans {a : Addr} {H H1 H2 : Hp} (x : But a H H1) (y : But a H1 H2) : But a H H2 := fun b o n h => y b o n (x b o n h)
theorem But.of {a : Addr} {H H1 : Hp} (x : Same H H1) : But a H H1 := fun b o _ h => x b o h
theorem But.upd {a : Addr} {H H1 : Hp} {o : HO} (x : But a H H1) : But a H (upd H1 a o) := fun b u n h => by
  rw [upd_ne n]
  exact x b u n h
theorem But.new {a : Addr} {H H1 : Hp} {p : Addr} {o : HO} (x : But a H H1) (h : H1 p = none) : But a H (L2.upd H1 p o) := fun b u n e => by
  rw [upd_ne (ne_of_none (x b u n e) h)]
  exact x b u n e
theorem same_new {H : Hp} {p : Addr} {o : HO} (h : H p = none) : Same H (upd H p o) := fun b x e => by
  rw [upd_ne (ne_of_none e h)]
  exact e
/-- what was not tracked ahead is free there -/
theorem But.free {a p : Addr} {H H1 : Hp} (x : But a H H1) (n : p ≠ a) (h : H1 p = none) : H p = none := by
  cases e : H p with
  | none => rfl
  | some o =>
    rw [x p o n e] at h
    cases h
theorem But.seqL {K : PySem.W.Frag} {a b : Addr} {H H1 : Hp} {xs : List V} (x : But a H H1) (n : b ≠ a) (h : SqL K H b xs) : SqL K H1 b xs := by
  rcases h with (h | ⟨o, h⟩) | h
  · exact .inl (.inl (x _ _ n h))
  · exact .inl (.inr ⟨o, x _ _ n h⟩)
  · exact .inr h
theorem szS {n : Nat} (h : n ≤ 100000) : n ≤ sizeLine := Nat.le_trans h (by decide)
theorem szL {n : Nat} (h : n < 100000) : n < sizeLine := Nat.lt_of_lt_of_le h (by decide)
end Sw
set_option Elab.async false
set_option linter.all false
set_option maxRecDepth 100000
set_option maxHeartbeats 4000000
/-! plain mathematics of lexemes: no program in sight -/
namespace Sw
open PySem PySem.Spec PyProof.Rows L2 SX
abbrev tl (x : Str) : List Nat := x.cps.toList
theorem tl_S (l : List Nat) : tl (S l) = l := rfl
theorem S_tl' (x : Str) : S (tl x) = x := SX.S_tl x
theorem tl_app (a b : Str) : tl (a ++ b) = tl a ++ tl b := TL.tl_append a b
theorem tl_len (a : Str) : (tl a).length = a.length := by simp [Str.length]
theorem tl_inj {a b : Str} (h : tl a = tl b) : a = b := TL.ext_tl h
def isSm (c : Nat) : Bool := decide (97 ≤ c) && decide (c ≤ 122)
def isGr (c : Nat) : Bool := decide (65 ≤ c) && decide (c ≤ 90)
def isFi (c : Nat) : Bool := decide (48 ≤ c) && decide (c ≤ 57)
def isAl (c : Nat) : Bool := isSm c || isGr c || isFi c
theorem mem_rng (lo : Nat) : ∀ (n c : Nat), c ∈ List.range' lo n ↔ lo ≤ c ∧ c < lo + n := fun n c => by
  rw [List.mem_range'_1]
theorem in_sm (c : Nat) : decide (c ∈ tl "abcdefghijklmnopqrstuvwxyz") = isSm c := by
  have e : tl "abcdefghijklmnopqrstuvwxyz" = List.range' 97 26 := by decide +kernel
  rw [e]
  unfold isSm
  rw [Bool.eq_iff_iff, decide_eq_true_eq, Bool.and_eq_true, decide_eq_true_eq, decide_eq_true_eq, mem_rng]
  omega
theorem in_gr (c : Nat) : decide (c ∈ tl "ABCDEFGHIJKLMNOPQRSTUVWXYZ") = isGr c := by
  have e : tl "ABCDEFGHIJKLMNOPQRSTUVWXYZ" = List.range' 65 26 := by decide +kernel
  rw [e]
  unfold isGr
  rw [Bool.eq_iff_iff, decide_eq_true_eq, Bool.and_eq_true, decide_eq_true_eq, decide_eq_true_eq, mem_rng]
  omega
theorem in_fi (c : Nat) : decide (c ∈ tl "0123456789") = isFi c := by
  have e : tl "0123456789" = List.range' 48 10 := by decide +kernel
  rw [e]
  unfold isFi
  rw [Bool.eq_iff_iff, decide_eq_true_eq, Bool.and_eq_true, decide_eq_true_eq, decide_eq_true_eq, mem_rng]
  omega
theorem in_al (c : Nat) : decide (c ∈ tl ("abcdefghijklmnopqrstuvwxyz" ++ "ABCDEFGHIJKLMNOPQRSTUVWXYZ" ++ "0123456789" : Str)) = isAl c := by
  unfold isAl
  rw [← in_sm, ← in_gr, ← in_fi, tl_app, tl_app, Bool.eq_iff_iff]
  simp only [decide_eq_true_eq, Bool.or_eq_true, List.mem_append]
/-- how many from the left are so, at most n -/
def runLen (p : Nat → Bool) : Nat → List Nat → Nat
  | 0, _ => 0
  | _ + 1, [] => 0
  | n + 1, c :: r => if p c = true then runLen p n r + 1 else 0
theorem runLen_le (p : Nat → Bool) : ∀ (n : Nat) (s : List Nat), runLen p n s ≤ s.length
  | 0, _ => Nat.zero_le _
  | _ + 1, [] => Nat.zero_le _
  | n + 1, c :: r => by
    unfold runLen
    have h := runLen_le p n r
    split
    · rw [List.length_cons]
      omega
    · exact Nat.zero_le _
theorem runLen_cap (p : Nat → Bool) : ∀ (n : Nat) (s : List Nat), runLen p n s ≤ n
  | 0, _ => Nat.zero_le _
  | _ + 1, [] => Nat.zero_le _
  | n + 1, c :: r => by
    unfold runLen
    have h := runLen_cap p n r
    split <;> omega
/-- the run's end, as a loop finds it: all ahead are so, and it is the cap, the end, or one that isn't -/
theorem runLen_is {p : Nat → Bool} : ∀ {n : Nat} {s : List Nat} {k : Nat}, k ≤ n → (∀ j c, j < k → s[j]? = some c → p c = true) → k ≤ s.length → (k = n ∨ k = s.length ∨ ∃ c, s[k]? = some c ∧ p c = false) → runLen p n s = k
  | 0, s, k, h, _, _, _ => by
    have e : k = 0 := by omega
    subst e
    rfl
  | n + 1, [], k, _, _, h, _ => by
    have e : k = 0 := by simpa using h
    subst e
    rfl
  | n + 1, c :: r, 0, _, _, _, h => by
    rcases h with h | h | ⟨d, h1, h2⟩
    · omega
    · simp at h
    · have e : c = d := Option.some.inj h1
      subst e
      unfold runLen
      rw [if_neg (by rw [h2]; decide)]
  | n + 1, c :: r, k + 1, h, ha, hl, hx => by
    have hc : p c = true := ha 0 c (by omega) rfl
    unfold runLen
    rw [if_pos hc]
    refine congrArg (· + 1) (runLen_is (by omega) (fun j d hj hd => ha (j + 1) d (by omega) hd) (by simpa using hl) ?_)
    rcases hx with hx | hx | ⟨d, h1, h2⟩
    · exact .inl (by omega)
    · exact .inr (.inl (by simpa using hx))
    · exact .inr (.inr ⟨d, h1, h2⟩)
def isP : List Nat → List Nat → Bool
  | [], _ => true
  | _ :: _, [] => false
  | a :: l, b :: r => decide (a = b) && isP l r
theorem isP_take : ∀ (p s : List Nat), isP p s = decide (p.length ≤ s.length ∧ s.take p.length = p)
  | [], s => by simp [isP]
  | _ :: _, [] => by simp [isP]
  | a :: l, b :: r => by
    unfold isP
    rw [isP_take l r, Bool.eq_iff_iff]
    simp only [Bool.and_eq_true, decide_eq_true_eq, List.length_cons, List.take_succ_cons, List.cons.injEq]
    constructor
    · rintro ⟨rfl, h1, h2⟩
      exact ⟨by omega, rfl, h2⟩
    · rintro ⟨h1, rfl, h2⟩
      exact ⟨rfl, by omega, h2⟩
/-- row.startswith(sign, at) -/
theorem starts3 (a b : Str) (i : Nat) (h : i ≤ (tl a).length) : Txt.startswith3 a b (i : Int) = isP (tl b) ((tl a).drop i) := by
  unfold Txt.startswith3
  have e : fromIndex a.length (i : Int) = i := by
    unfold fromIndex
    rw [if_neg (by omega)]
    omega
  rw [e, isP_take, ← tl_len a, ← tl_len b, List.length_drop]
  unfold Builtin.Str.subAt
  rw [← tl_len b]
  rw [Bool.eq_iff_iff]
  simp only [Bool.and_eq_true, decide_eq_true_eq, beq_iff_eq]
  have key : (a.cps.extract i (i + (tl b).length) = b.cps) ↔ ((tl a).drop i).take (tl b).length = tl b := by
    constructor
    · intro h1
      have h2 := congrArg Array.toList h1
      rw [Array.toList_extract, List.extract_eq_take_drop] at h2
      rw [show i + (tl b).length - i = (tl b).length by omega] at h2
      exact h2
    · intro h1
      apply Array.toList_inj.mp
      rw [Array.toList_extract, List.extract_eq_take_drop]
      rw [show i + (tl b).length - i = (tl b).length by omega]
      exact h1
  rw [key]
  constructor
  · rintro ⟨h1, h2⟩
    exact ⟨by omega, h2⟩
  · rintro ⟨h1, h2⟩
    exact ⟨by omega, h2⟩
theorem cut_at (a : Str) (i j : Nat) (h : i ≤ j) (h2 : j ≤ (tl a).length) : cutS a (some (i : Int)) (some (j : Int)) = S (((tl a).drop i).take (j - i)) := by
  unfold cutS
  have e1 := HT.sIx_nat a.length 0 i
  have e2 := HT.sIx_nat a.length a.length j
  rw [e1, e2, ← tl_len a, Nat.min_eq_left (show i ≤ (tl a).length by omega), Nat.min_eq_left h2]
def WORDS : List Str := ["data", "let", "in", "if", "then", "else", "case", "of", "fun"]
def SIGNS : List Str := ["->", "==", "=", "|", "(", ")", "+", "-", "*", "<", "_"]
/-- the lexeme that begins a rest of a row: its sort and length -/
def lexOne (s : List Nat) : Str × Nat := match s with
  | [] => ("none", 0)
  | c :: r => if isSm c = true then (if S (s.take (runLen isSm 8 s)) ∈ WORDS then "word" else "name", runLen isSm 8 s)
    else if isGr c = true then ("maker", 1 + runLen isSm 7 r)
    else if c = 48 then ("number", 1)
    else if isFi c = true then ("number", runLen isFi s.length s)
    else match SIGNS.find? fun g => isP (tl g) s with
      | some g => ("sign", g.length)
      | none => ("none", 0)
structure Tk where
  row : Nat
  col : Nat
  sort : Str
  word : Str
/-- the lexemes of a rest of a row that begins at a place: what is found, or where none goes on -/
inductive LexR (num : Nat) : Nat → List Nat → Option (Nat × Nat) → List Tk → Prop
  | fin {i : Nat} {s : List Nat} : s = [] ∨ isP [45, 45] s = true → LexR num i s none []
  | blank {i : Nat} {r : List Nat} {e : Option (Nat × Nat)} {ts : List Tk} : LexR num (i + 1) r e ts → LexR num i (32 :: r) e ts
  | tok {i : Nat} {s : List Nat} {e : Option (Nat × Nat)} {ts : List Tk} {so : Str} {n : Nat} : s ≠ [] → s.head? ≠ some 32 → isP [45, 45] s = false → lexOne s = (so, n) → so ≠ "none" → 1 ≤ n → n ≤ s.length →
      (so ≠ "sign" → ∀ c, (s.drop n).head? = some c → isAl c = false) → LexR num (i + n) (s.drop n) e ts → LexR num i s e (⟨num, i + 1, so, S (s.take n)⟩ :: ts)
  | none {i : Nat} {s : List Nat} {n : Nat} : s ≠ [] → s.head? ≠ some 32 → isP [45, 45] s = false → lexOne s = (("none" : Str), n) → LexR num i s (some (num, i + 1)) []
  | glued {i : Nat} {s : List Nat} {so : Str} {n : Nat} {c : Nat} : s ≠ [] → s.head? ≠ some 32 → isP [45, 45] s = false → lexOne s = (so, n) → so ≠ "none" → n ≤ s.length →
      so ≠ "sign" → (s.drop n).head? = some c → isAl c = true → LexR num i s (some (num, i + n + 1)) []
/-! ### words that are lexemes, and what may stand behind them -/
def TokOk (so w : Str) : Prop :=
  (so = "name" ∧ (tl w).all isSm = true ∧ 1 ≤ (tl w).length ∧ (tl w).length ≤ 8 ∧ w ∉ WORDS) ∨ (so = "word" ∧ w ∈ WORDS) ∨
  (so = "maker" ∧ ∃ c r, tl w = c :: r ∧ isGr c = true ∧ r.all isSm = true ∧ r.length ≤ 7) ∨
  (so = "number" ∧ (tl w = [48] ∨ ∃ c r, tl w = c :: r ∧ isFi c = true ∧ c ≠ 48 ∧ r.all isFi = true)) ∨ (so = "sign" ∧ w ∈ SIGNS)
def HeadNot (p : Nat → Prop) (l : List Nat) : Prop := ∀ c, l.head? = some c → ¬ p c
def Sep (so w : Str) (rest : List Nat) : Prop :=
  (so ≠ "sign" → HeadNot (fun c => isAl c = true) rest) ∧ (so = "sign" → (w = "-" → HeadNot (fun c => c = 62 ∨ c = 45) rest) ∧ (w = "=" → HeadNot (fun c => c = 61) rest))
theorem runLen_app {p : Nat → Bool} : ∀ (l rest : List Nat) (n : Nat), l.all p = true → l.length ≤ n → HeadNot (fun c => p c = true) rest → runLen p n (l ++ rest) = l.length
  | [], rest, n, _, _, h => by
    cases n with
    | zero => rfl
    | succ n =>
      cases rest with
      | nil => rfl
      | cons c r =>
        show (if p c = true then runLen p n r + 1 else 0) = 0
        rw [if_neg (h c rfl)]
  | c :: l, rest, 0, _, h, _ => by simp at h
  | c :: l, rest, n + 1, ha, hl, h => by
    rw [List.all_cons, Bool.and_eq_true] at ha
    show (if p c = true then runLen p n (l ++ rest) + 1 else 0) = (c :: l).length
    rw [if_pos ha.1, runLen_app l rest n ha.2 (by simpa using hl) h]
    rfl
/-- .. where all that may be is taken -/
theorem runLen_full {p : Nat → Bool} : ∀ (l rest : List Nat), l.all p = true → runLen p l.length (l ++ rest) = l.length
  | [], rest, _ => rfl
  | c :: l, rest, ha => by
    rw [List.all_cons, Bool.and_eq_true] at ha
    show (if p c = true then runLen p l.length (l ++ rest) + 1 else 0) = (c :: l).length
    rw [if_pos ha.1, runLen_full l rest ha.2]
    rfl
theorem words_sm : ∀ w ∈ WORDS, (tl w).all isSm = true ∧ 1 ≤ (tl w).length ∧ (tl w).length ≤ 8 := by decide +kernel
theorem sm_not_al {l : List Nat} (h : HeadNot (fun c => isAl c = true) l) : HeadNot (fun c => isSm c = true) l := fun c e z => h c e (by show (isSm c || isGr c || isFi c) = true; rw [show isSm c = true from z]; rfl)
theorem fi_not_al {l : List Nat} (h : HeadNot (fun c => isAl c = true) l) : HeadNot (fun c => isFi c = true) l := fun c e z => h c e (by show (isSm c || isGr c || isFi c) = true; rw [show isFi c = true from z, Bool.or_true])
theorem sm_rng {c : Nat} (h : isSm c = true) : 97 ≤ c ∧ c ≤ 122 := by
  unfold isSm at h
  rw [Bool.and_eq_true, decide_eq_true_eq, decide_eq_true_eq] at h
  exact h
theorem gr_rng {c : Nat} (h : isGr c = true) : 65 ≤ c ∧ c ≤ 90 := by
  unfold isGr at h
  rw [Bool.and_eq_true, decide_eq_true_eq, decide_eq_true_eq] at h
  exact h
theorem fi_rng {c : Nat} (h : isFi c = true) : 48 ≤ c ∧ c ≤ 57 := by
  unfold isFi at h
  rw [Bool.and_eq_true, decide_eq_true_eq, decide_eq_true_eq] at h
  exact h
theorem not_sm {c : Nat} (h : ¬ (97 ≤ c ∧ c ≤ 122)) : ¬ isSm c = true := fun z => h (sm_rng z)
theorem not_gr {c : Nat} (h : ¬ (65 ≤ c ∧ c ≤ 90)) : ¬ isGr c = true := fun z => h (gr_rng z)
theorem not_fi {c : Nat} (h : ¬ (48 ≤ c ∧ c ≤ 57)) : ¬ isFi c = true := fun z => h (fi_rng z)
/-- what a lexeme must be for the lexer: its first sign is no blank, no remark, and it is taken whole -/
structure Taken (so w : Str) (s : List Nat) : Prop where
  ne : s ≠ []
  nb : s.head? ≠ some 32
  nr : isP [45, 45] s = false
  one : lexOne s = (so, (tl w).length)
  pos : 1 ≤ (tl w).length
theorem lexOne_sm {w : Str} {rest : List Nat} (h1 : (tl w).all isSm = true) (h2 : 1 ≤ (tl w).length) (h3 : (tl w).length ≤ 8) (h4 : HeadNot (fun c => isAl c = true) rest) : Taken (if w ∈ WORDS then "word" else "name") w (tl w ++ rest) := by
  have hr := runLen_app (p := isSm) (tl w) rest 8 h1 h3 (sm_not_al h4)
  have ht : S ((tl w ++ rest).take (tl w).length) = w := by rw [List.take_left]
  cases e : tl w with
  | nil =>
    rw [e] at h2
    simp at h2
  | cons c r =>
    rw [e] at h1 hr ht
    rw [List.all_cons, Bool.and_eq_true] at h1
    have hc := sm_rng h1.1
    refine ⟨by simp, ?_, ?_, ?_, h2⟩
    · rw [List.cons_append, List.head?_cons]
      intro z
      have := Option.some.inj z
      omega
    · show (decide (45 = c) && _) = false
      rw [decide_eq_false (by omega)]
      rfl
    · rw [List.cons_append] at hr ht ⊢
      unfold lexOne
      simp only
      rw [if_pos h1.1, hr, ht, e]
theorem TokOk.taken {so w : Str} {rest : List Nat} (h : TokOk so w) (hs : Sep so w rest) : Taken so w (tl w ++ rest) := by
  rcases h with ⟨rfl, h1, h2, h3, h4⟩ | ⟨rfl, h1⟩ | ⟨rfl, c, r, e, h1, h2, h3⟩ | ⟨rfl, h1⟩ | ⟨rfl, h1⟩
  · have t := lexOne_sm h1 h2 h3 (hs.1 (by decide +kernel))
    rw [if_neg h4] at t
    exact t
  · obtain ⟨a, b, c⟩ := words_sm w h1
    have t := lexOne_sm a b c (hs.1 (by decide +kernel))
    rw [if_pos h1] at t
    exact t
  · have hh := hs.1 (by decide +kernel)
    have hc := gr_rng h1
    rw [e]
    refine ⟨by simp, ?_, ?_, ?_, by rw [e]; simp⟩
    · rw [List.cons_append, List.head?_cons]
      intro z
      have := Option.some.inj z
      omega
    · show (decide (45 = c) && _) = false
      rw [decide_eq_false (by omega)]
      rfl
    · rw [List.cons_append]
      unfold lexOne
      simp only
      rw [if_neg (not_sm (by omega)), if_pos h1, runLen_app r rest 7 h2 h3 (sm_not_al hh), e, List.length_cons, Nat.add_comm]
  · have hh := hs.1 (by decide +kernel)
    rcases h1 with e | ⟨c, r, e, h1, h2, h3⟩
    · rw [e]
      refine ⟨by simp, by simp, rfl, ?_, by rw [e]; simp⟩
      rw [e]
      rfl
    · have hc := fi_rng h1
      rw [e]
      refine ⟨by simp, ?_, ?_, ?_, by rw [e]; simp⟩
      · rw [List.cons_append, List.head?_cons]
        intro z
        have := Option.some.inj z
        omega
      · show (decide (45 = c) && _) = false
        rw [decide_eq_false (by omega)]
        rfl
      · have ha : (c :: r).all isFi = true := by rw [List.all_cons, h1, h3]; rfl
        have hr := runLen_app (p := isFi) (c :: r) rest ((c :: r) ++ rest).length ha (by simp) (fi_not_al hh)
        rw [List.cons_append] at hr ⊢
        unfold lexOne
        simp only
        rw [if_neg (not_sm (by omega)), if_neg (not_gr (by omega)), if_neg h2, if_pos h1, hr, e]
  · obtain ⟨_, hs2⟩ := hs
    obtain ⟨hm, hq⟩ := hs2 rfl
    have fin : ∀ (g : Str) (gl : List Nat), tl g = gl → gl ≠ [] → gl.head? ≠ some 32 → isP [45, 45] (gl ++ rest) = false → lexOne (gl ++ rest) = (("sign" : Str), gl.length) → Taken "sign" g (tl g ++ rest) := by
      intro g gl e1 e2 e3 e4 e5
      subst e1
      refine ⟨by simp [e2], ?_, e4, e5, ?_⟩
      · cases q : tl g with
        | nil => exact absurd q e2
        | cons a b =>
          rw [q] at e3
          exact e3
      · cases q : tl g with
        | nil => exact absurd q e2
        | cons a b => simp
    have hne : ∀ {p : Nat → Prop} {c : Nat} {r : List Nat}, HeadNot p (c :: r) → ¬ p c := fun h => h _ rfl
    simp only [SIGNS, List.mem_cons, List.mem_nil_iff, or_false] at h1
    rcases h1 with rfl | rfl | rfl | rfl | rfl | rfl | rfl | rfl | rfl | rfl | rfl
    · exact fin _ [45, 62] (by decide +kernel) (by simp) (by simp) (by simp [isP]) rfl
    · exact fin _ [61, 61] (by decide +kernel) (by simp) (by simp) (by simp [isP]) rfl
    · have h := hq rfl
      refine fin _ [61] (by decide +kernel) (by simp) (by simp) (by simp [isP]) ?_
      cases rest with
      | nil => rfl
      | cons c r =>
        have h2 := hne h
        have e : SIGNS.find? (fun g => isP (tl g) (61 :: c :: r)) = some ("=" : Str) := by
          simp only [SIGNS, List.find?]
          have e1 : isP (tl "->") (61 :: c :: r) = false := rfl
          have e2 : isP (tl "==") (61 :: c :: r) = false := by
            show (decide (61 = 61) && (decide (61 = c) && _)) = false
            rw [decide_eq_false (show ¬ 61 = c by omega)]
            rfl
          have e3 : isP (tl "=") (61 :: c :: r) = true := rfl
          rw [e1, e2, e3] <;> rfl
        show lexOne (61 :: c :: r) = _
        unfold lexOne
        simp only
        rw [if_neg (by decide), if_neg (by decide), if_neg (by decide), if_neg (by decide), e]
        rfl
    · exact fin _ [124] (by decide +kernel) (by simp) (by simp) (by simp [isP]) rfl
    · exact fin _ [40] (by decide +kernel) (by simp) (by simp) (by simp [isP]) rfl
    · exact fin _ [41] (by decide +kernel) (by simp) (by simp) (by simp [isP]) rfl
    · exact fin _ [43] (by decide +kernel) (by simp) (by simp) (by simp [isP]) rfl
    · have h := hm rfl
      refine fin _ [45] (by decide +kernel) (by simp) (by simp) ?_ ?_
      · cases rest with
        | nil => rfl
        | cons c r =>
          have h2 := hne h
          show (decide (45 = 45) && (decide (45 = c) && _)) = false
          rw [decide_eq_false (show ¬ 45 = c by omega)]
          rfl
      · cases rest with
        | nil => rfl
        | cons c r =>
          have h2 := hne h
          have e : SIGNS.find? (fun g => isP (tl g) (45 :: c :: r)) = some ("-" : Str) := by
            simp only [SIGNS, List.find?]
            have e1 : isP (tl "->") (45 :: c :: r) = false := by
              show (decide (45 = 45) && (decide (62 = c) && _)) = false
              rw [decide_eq_false (show ¬ 62 = c by omega)]
              rfl
            have e2 : isP (tl "==") (45 :: c :: r) = false := rfl
            have e3 : isP (tl "=") (45 :: c :: r) = false := rfl
            have e4 : isP (tl "|") (45 :: c :: r) = false := rfl
            have e5 : isP (tl "(") (45 :: c :: r) = false := rfl
            have e6 : isP (tl ")") (45 :: c :: r) = false := rfl
            have e7 : isP (tl "+") (45 :: c :: r) = false := rfl
            have e8 : isP (tl "-") (45 :: c :: r) = true := rfl
            rw [e1, e2, e3, e4, e5, e6, e7, e8] <;> rfl
          show lexOne (45 :: c :: r) = _
          unfold lexOne
          simp only
          rw [if_neg (by decide), if_neg (by decide), if_neg (by decide), if_neg (by decide), e]
          rfl
    · exact fin _ [42] (by decide +kernel) (by simp) (by simp) (by simp [isP]) rfl
    · exact fin _ [60] (by decide +kernel) (by simp) (by simp) (by simp [isP]) rfl
    · exact fin _ [95] (by decide +kernel) (by simp) (by simp) (by simp [isP]) rfl
/-! ### a row that is put together from the left -/
def RowI (num : Nat) (line : List Nat) (ts : List Tk) (ok : List Nat → Prop) : Prop := ∀ rest e us, ok rest → LexR num line.length rest e us → LexR num 0 (line ++ rest) e (ts ++ us)
theorem lex_blk (num : Nat) : ∀ (k i : Nat) (rest : List Nat) {e : Option (Nat × Nat)} {us : List Tk}, LexR num (i + k) rest e us → LexR num i (List.replicate k 32 ++ rest) e us
  | 0, i, rest, e, us, h => h
  | k + 1, i, rest, e, us, h => by
    rw [List.replicate_succ, List.cons_append]
    refine .blank (lex_blk num k (i + 1) rest ?_)
    rw [show i + 1 + k = i + (k + 1) by omega]
    exact h
theorem RowI.start (num k : Nat) : RowI num (List.replicate k 32) [] (fun _ => True) := fun rest e us _ h => by
  rw [List.length_replicate] at h
  exact lex_blk num k 0 rest (by rw [Nat.zero_add]; exact h)
theorem RowI.blanks {num : Nat} {line : List Nat} {ts : List Tk} {ok : List Nat → Prop} (h : RowI num line ts ok) (k : Nat) (hk : ∀ r, ok (32 :: r)) : RowI num (line ++ List.replicate (k + 1) 32) ts (fun _ => True) := fun rest e us _ hl => by
  rw [List.append_assoc]
  refine h _ e us ?_ (lex_blk num (k + 1) line.length rest ?_)
  · rw [List.replicate_succ, List.cons_append]
    exact hk _
  · rw [List.length_append, List.length_replicate] at hl
    exact hl
theorem RowI.tok {num : Nat} {line : List Nat} {ts : List Tk} {ok : List Nat → Prop} {so w : Str} (h : RowI num line ts ok) (t : TokOk so w) (hk : ∀ r, ok (tl w ++ r)) (hn : so ≠ "none") :
    RowI num (line ++ tl w) (ts ++ [⟨num, line.length + 1, so, w⟩]) (Sep so w) := fun rest e us hs hl => by
  rw [List.append_assoc]
  have q := t.taken hs
  rw [List.append_assoc]
  refine h _ e _ (hk rest) ?_
  have d : (tl w ++ rest).drop (tl w).length = rest := List.drop_left
  have tk : (tl w ++ rest).take (tl w).length = tl w := List.take_left
  have r : LexR num line.length (tl w ++ rest) e (⟨num, line.length + 1, so, S ((tl w ++ rest).take (tl w).length)⟩ :: us) := by
    refine .tok q.ne q.nb q.nr q.one hn q.pos (by simp) (fun z c hc => ?_) ?_
    · rw [d] at hc
      have := hs.1 z c hc
      simpa using this
    · rw [d]
      rw [List.length_append] at hl
      exact hl
  rw [tk, S_tl'] at r
  exact r
theorem RowI.done {num : Nat} {line : List Nat} {ts : List Tk} {ok : List Nat → Prop} (h : RowI num line ts ok) (h0 : ok []) : LexR num 0 line none ts := by
  have r := h [] none [] h0 (.fin (.inl rfl))
  rw [List.append_nil, List.append_nil] at r
  exact r
theorem RowI.remark {num : Nat} {line : List Nat} {ts : List Tk} {ok : List Nat → Prop} (h : RowI num line ts ok) (hk : ∀ r, ok (32 :: r)) (r : List Nat) : LexR num 0 (line ++ 32 :: 45 :: 45 :: r) none ts := by
  have q := h (32 :: 45 :: 45 :: r) none [] (hk _) (.blank (.fin (.inr rfl)))
  rw [List.append_nil] at q
  exact q
theorem Sep.blank (so w : Str) (r : List Nat) : Sep so w (32 :: r) := by
  have e : ∀ {p : Nat → Prop}, ¬ p 32 → HeadNot p (32 :: r) := fun h c hc => by
    have z := Option.some.inj hc
    rw [← z]
    exact h
  exact ⟨fun _ => e (by decide), fun _ => ⟨fun _ => e (by decide), fun _ => e (by decide)⟩⟩
theorem Sep.nil (so w : Str) : Sep so w [] := ⟨fun _ c h => by simp at h, fun _ => ⟨fun _ c h => by simp at h, fun _ c h => by simp at h⟩⟩
end Sw
set_option Elab.async false
set_option linter.all false
set_option maxRecDepth 100000
set_option maxHeartbeats 4000000
namespace Sw
open PySem PySem.Spec PyProof.Rows L2 SX
def topS (i : Nat) : Stmt := PySem.Challenge.pw_slumberway_k01_lexemes.main.body.getD i (.Pass ⟨0, 0, 0, 0⟩)
abbrev s_L_mixed : Stmt := topS 15
theorem sc_L_mixed : FnScope ["_law_cell", "_law_k", "_law_number"] ["_law_cell", "_law_k"] (defScope s_L_mixed) := ⟨rfl, rfl, rfl, by decide +kernel, rfl, by decide +kernel, by decide +kernel⟩
abbrev s_L_purse : Stmt := topS 16
theorem sc_L_purse : FnScope ["_law_cell", "_law_k"] ["_law_cell", "_law_k"] (defScope s_L_purse) := ⟨rfl, rfl, rfl, by decide +kernel, rfl, by decide +kernel, by decide +kernel⟩
abbrev s_L_take : Stmt := topS 17
theorem sc_L_take : FnScope ["_law_purse_here", "_law_steps", "_law_got"] ["_law_purse_here", "_law_steps"] (defScope s_L_take) := ⟨rfl, rfl, rfl, by decide +kernel, rfl, by decide +kernel, by decide +kernel⟩
abbrev s_L_at : Stmt := topS 18
theorem sc_L_at : FnScope ["_law_script", "_law_k"] ["_law_script", "_law_k"] (defScope s_L_at) := ⟨rfl, rfl, rfl, by decide +kernel, rfl, by decide +kernel, by decide +kernel⟩
abbrev s_L_word : Stmt := topS 19
theorem sc_L_word : FnScope ["_law_purse_here", "_law_way", "_law_small", "_law_sign", "_law_stem", "_law_k"] ["_law_purse_here"] (defScope s_L_word) := ⟨rfl, rfl, rfl, by decide +kernel, rfl, by decide +kernel, by decide +kernel⟩
abbrev s_L_words : Stmt := topS 20
theorem sc_L_words : FnScope [] [] (defScope s_L_words) := ⟨rfl, rfl, rfl, by decide +kernel, rfl, by decide +kernel, by decide +kernel⟩
abbrev s_L_touches : Stmt := topS 21
theorem sc_L_touches : FnScope ["_law_sort", "_law_word_here", "_law_last", "_law_both"] ["_law_sort", "_law_word_here", "_law_last"] (defScope s_L_touches) := ⟨rfl, rfl, rfl, by decide +kernel, rfl, by decide +kernel, by decide +kernel⟩
abbrev s_L_grow : Stmt := topS 22
theorem sc_L_grow : FnScope [] [] (defScope s_L_grow) := ⟨rfl, rfl, rfl, by decide +kernel, rfl, by decide +kernel, by decide +kernel⟩
abbrev s_L_row : Stmt := topS 23
theorem sc_L_row : FnScope ["_law_purse_here", "_law_number", "_law_steps", "_law_line", "_law_found", "_law_last", "_law_k", "_law_sort", "_law_word_here"] ["_law_purse_here", "_law_number", "_law_steps"] (defScope s_L_row) := ⟨rfl, rfl, rfl, by decide +kernel, rfl, by decide +kernel, by decide +kernel⟩
abbrev s_L_rows : Stmt := topS 24
theorem sc_L_rows : FnScope ["_law_purse_here", "_law_steps", "_law_lines", "_law_found", "_law_number", "_law_line", "_law_more"] ["_law_purse_here", "_law_steps"] (defScope s_L_rows) := ⟨rfl, rfl, rfl, by decide +kernel, rfl, by decide +kernel, by decide +kernel⟩
abbrev s_law : Stmt := topS 25
theorem sc_law : FnScope ["_law_script", "_law_cell", "_law_purse_here", "_law_lines", "_law_due", "_law_place", "_law_sort", "_law_said", "_law_handed", "_law_turn", "_law_told"] ["_law_script"] (defScope s_law) := ⟨rfl, rfl, rfl, by decide +kernel, rfl, by decide +kernel, by decide +kernel⟩
abbrev s_run_end : Stmt := topS 10
theorem sc_run_end : FnScope ["row", "at", "signs", "most", "end"] ["row", "at", "signs", "most"] (defScope s_run_end) := ⟨rfl, rfl, rfl, by decide +kernel, rfl, by decide +kernel, by decide +kernel⟩
abbrev s_lexeme_end : Stmt := topS 11
theorem sc_lexeme_end : FnScope ["row", "at", "end", "sign"] ["row", "at"] (defScope s_lexeme_end) := ⟨rfl, rfl, rfl, by decide +kernel, rfl, by decide +kernel, by decide +kernel⟩
abbrev s_row_lexemes : Stmt := topS 12
theorem sc_row_lexemes : FnScope ["row", "number", "found", "at", "sort", "end"] ["row", "number"] (defScope s_row_lexemes) := ⟨rfl, rfl, rfl, by decide +kernel, rfl, by decide +kernel, by decide +kernel⟩
abbrev s_lexemes : Stmt := topS 13
theorem sc_lexemes : FnScope ["text", "found", "number", "row"] ["text"] (defScope s_lexemes) := ⟨rfl, rfl, rfl, by decide +kernel, rfl, by decide +kernel, by decide +kernel⟩
structure Txt (K : PySem.W.Frag) (mg : Str → Option Value) : Prop where
  d_L_mixed : Dfn K mg "_law_mixed" s_L_mixed ["_law_cell", "_law_k"]
  d_L_purse : Dfn K mg "_law_purse" s_L_purse ["_law_cell", "_law_k"]
  d_L_take : Dfn K mg "_law_take" s_L_take ["_law_purse_here", "_law_steps"]
  d_L_at : Dfn K mg "_law_at" s_L_at ["_law_script", "_law_k"]
  d_L_word : Dfn K mg "_law_word" s_L_word ["_law_purse_here"]
  d_L_words : Dfn K mg "_law_words" s_L_words []
  d_L_touches : Dfn K mg "_law_touches" s_L_touches ["_law_sort", "_law_word_here", "_law_last"]
  d_L_grow : Dfn K mg "_law_grow" s_L_grow []
  d_L_row : Dfn K mg "_law_row" s_L_row ["_law_purse_here", "_law_number", "_law_steps"]
  d_L_rows : Dfn K mg "_law_rows" s_L_rows ["_law_purse_here", "_law_steps"]
  d_law : Dfn K mg "law" s_law ["_law_script"]
  d_run_end : Dfn K mg "run_end" s_run_end ["row", "at", "signs", "most"]
  d_lexeme_end : Dfn K mg "lexeme_end" s_lexeme_end ["row", "at"]
  d_row_lexemes : Dfn K mg "row_lexemes" s_row_lexemes ["row", "number"]
  d_lexemes : Dfn K mg "lexemes" s_lexemes ["text"]
  k_lexemes : KBn K (fdAt K (He.ga K "lexemes")) ["text"] 0 ["text"] (fun us ws => us ++ ws) (fun vs zs => vs ++ zs)
  c_SMALL : Glob mg "SMALL" (.str "abcdefghijklmnopqrstuvwxyz")
  c_GREAT : Glob mg "GREAT" (.str "ABCDEFGHIJKLMNOPQRSTUVWXYZ")
  c_FIGURES : Glob mg "FIGURES" (.str "0123456789")
  c_WORDS : Glob mg "WORDS" (.ref (He.ga K "WORDS"))
  c_SIGNS : Glob mg "SIGNS" (.ref (He.ga K "SIGNS"))
  c_MOST_LETTERS : Glob mg "MOST_LETTERS" (.int 8)
  t_WORDS : ∀ H, SqT K H (He.ga K "WORDS") [.str "data", .str "let", .str "in", .str "if", .str "then", .str "else", .str "case", .str "of", .str "fun"]
  t_SIGNS : ∀ H, SqT K H (He.ga K "SIGNS") [.str "->", .str "==", .str "=", .str "|", .str "(", .str ")", .str "+", .str "-", .str "*", .str "<", .str "_"]
  b_len : mg "len" = none
  b_int : mg "int" = none
  b_list : mg "list" = none
  b_tuple : mg "tuple" = none
  b_str : mg "str" = none
  b_bool : mg "bool" = none
  b_range : mg "range" = none
  b_enumerate : mg "enumerate" = none
  b_isinstance : mg "isinstance" = none
local macro_rules | `(tactic| walk_at "sd") => `(tactic| first | exact ⟨by decide, by decide, by decide⟩ | (show (0 : Int) < _; decide) | exact .inl ⟨by decide, by decide⟩ | exact .inr ⟨by decide, by decide⟩ | (refine szS ?_; simp only [List.length_cons, List.length_nil]; decide))
local macro_rules | `(tactic| walk_at "rd") => `(tactic| ((repeat (first | refine ⟨_, rfl, ?_⟩ | refine ⟨_, _, rfl, rfl, ?_⟩ | refine ⟨by walk_at "sd", ?_⟩)); try dsimp only))
/-! ### numbers drawn -/
theorem e18 : (10 : Int) ^ (18 : Int).toNat = 1000000000000000000 := by decide +kernel
theorem e60 : (10 : Int) ^ (60 : Int).toNat = 1000000000000000000000000000000000000000000000000000000000000 := by decide +kernel
theorem mul_ok {i j : Int} (a b : Nat) (h0 : 0 ≤ i) (h1 : i < 2 ^ a) (h2 : 0 ≤ j) (h3 : j < 2 ^ b) (ha : 0 < a) (hb : 0 < b) (h : a + b ≤ 1000000) : CMulW i j := by
  have p : ∀ (x : Int) (n : Nat), 0 ≤ x → x < 2 ^ n → x.natAbs < 2 ^ n := fun x n q1 q2 => by
    have e : (((2 : Nat) ^ n : Nat) : Int) = (2 : Int) ^ n := by rw [Int.natCast_pow] <;> rfl
    rw [← e] at q2
    omega
  exact wide_mul (p i a h0 h1) (p j b h2 h3) ha hb h
theorem mul_lt {i j : Int} (a b : Nat) (h0 : 0 ≤ i) (h1 : i < 2 ^ a) (h2 : 0 ≤ j) (h3 : j < 2 ^ b) : 0 ≤ i * j ∧ i * j < 2 ^ (a + b) := by
  refine ⟨Int.mul_nonneg h0 h2, ?_⟩
  rw [Int.pow_add]
  exact Int.lt_of_le_of_lt (Int.mul_le_mul_of_nonneg_right (Int.le_of_lt h1) h2) (Int.mul_lt_mul_of_pos_left h3 (Int.pow_pos (by decide)))
section
variable {P : Program} {w : World} {K : PySem.W.Frag} {mg : Str → Option Value} {base : Heap}
def spMixed : Sp := fun vs H Q _ => ∃ (c k : Int), vs = [.int c, .int k] ∧ 0 ≤ k ∧ k < 2 ^ 40 ∧ ∀ r : Int, 0 ≤ r → r < 2 ^ 200 → Q (.int r) H
theorem ok_L_mixed (T : Txt K mg) : FnOk P w K mg base (L2.CX P w) 1 (He.ga K "_law_mixed") (fdAt K (He.ga K "_law_mixed")) ["_law_cell", "_law_k"] spMixed := by
  refine T.d_L_mixed.fn.ok sc_L_mixed (fun vs H Q E h => ?_) (fun cdv A outer s H vs Q E hr h => ?_)
  · obtain ⟨c, k, rfl, _⟩ := h
    rfl
  · obtain ⟨c, k, rfl, k0, k1, q⟩ := h
    refine ⟨_, PSs.nox (pss_cons (ps_set (i := 2) sc_L_mixed.nd rfl (.inl rfl) (pe_op op_add (pe_op op_add (pe_op op_mulW (pe_op op_add (pe_op op_mod (pv 0) (pe_op op_add (pe_op op_pow pe_int pe_int) pe_int)) (pe_op op_mul pe_int (pv 1))) pe_int) (pe_op op_mul pe_int (pv 1))) pe_int))
      (pss_cons (ps_set (i := 2) sc_L_mixed.nd rfl (.inl rfl) (pe_op op_mod (pe_op op_mulW (pv 2) (pv 2)) (pe_op op_add (pe_op op_pow pe_int pe_int) pe_int)))
      (pss_one (ps_ret (pe_op op_mod (pe_op op_mulW (pe_op op_add (pv 2) pe_int) (pe_op op_add (pv 2) pe_int)) (pe_op op_add (pe_op op_pow pe_int pe_int) pe_int)))))), ?_⟩
    have hx0 : 0 ≤ c % (1000000000000000000 + 9) := Int.emod_nonneg _ (by decide)
    have hx1 : c % (1000000000000000000 + 9) < 1000000000000000009 := Int.emod_lt_of_pos _ (by decide)
    have e40 : (2 : Int) ^ 40 = 1099511627776 := by decide
    have e64 : (2 : Int) ^ 64 = 18446744073709551616 := by decide
    walk_at "rd"
    rw [e18]
    generalize c % (1000000000000000000 + 9) = x at hx0 hx1 ⊢
    refine ⟨mul_ok 64 100 (by omega) (by omega) (by decide) (by decide) (by decide) (by decide) (by decide), ?_⟩
    have hm := mul_lt (i := x + 7 * k) (j := 739108512309184756019283746561) 64 100 (by omega) (by omega) (by decide) (by decide)
    generalize (x + 7 * k) * 739108512309184756019283746561 = y at hm ⊢
    walk_at "rd"
    have e164 : (2 : Int) ^ (64 + 100) = 23384026197294446691258957323460528314494920687616 := by decide +kernel
    have e170 : (2 : Int) ^ 170 = 1496577676626844588240573268701473812127674924007424 := by decide +kernel
    rw [e164] at hm
    have hz : 0 ≤ y + 7919 * k + 1 ∧ y + 7919 * k + 1 < 2 ^ 170 := by rw [e170]; omega
    generalize y + 7919 * k + 1 = z at hz ⊢
    refine ⟨mul_ok 170 170 hz.1 hz.2 hz.1 hz.2 (by decide) (by decide) (by decide), ?_⟩
    walk_at "rd"
    rw [e60]
    have hu0 : 0 ≤ z * z % (1000000000000000000000000000000000000000000000000000000000000 + 7) := Int.emod_nonneg _ (by decide)
    have hu1 : z * z % (1000000000000000000000000000000000000000000000000000000000000 + 7) < 1000000000000000000000000000000000000000000000000000000000007 := Int.emod_lt_of_pos _ (by decide)
    generalize z * z % (1000000000000000000000000000000000000000000000000000000000000 + 7) = u at hu0 hu1 ⊢
    have e201 : (2 : Int) ^ 201 = 3213876088517980551083924184682325205044405987565585670602752 := by decide +kernel
    have e200 : (2 : Int) ^ 200 = 1606938044258990275541962092341162602522202993782792835301376 := by decide +kernel
    refine ⟨mul_ok 201 201 (by omega) (by rw [e201]; omega) (by omega) (by rw [e201]; omega) (by decide) (by decide) (by decide), ?_⟩
    walk_at "rd"
    rw [e60]
    refine q _ (Int.emod_nonneg _ (by decide)) (Int.lt_of_lt_of_le (Int.emod_lt_of_pos _ (by decide)) (by rw [e200]; decide))
/-! ### a purse -/
def PuOk (H : Hp) (pu : Addr) (n : Nat) : Prop := ∃ a b c : Int, H pu = some (.lst [.int a, .int b, .int c]) ∧ 0 ≤ a ∧ a < 2 ^ 2100 ∧ 0 ≤ b ∧ b ≤ (n : Int)
theorem PuOk.mono {H : Hp} {pu : Addr} {n m : Nat} (h : PuOk H pu n) (e : n ≤ m) : PuOk H pu m := by
  obtain ⟨a, b, c, h1, h2, h3, h4, h5⟩ := h
  exact ⟨a, b, c, h1, h2, h3, h4, by omega⟩
theorem PuOk.same {H H' : Hp} {pu : Addr} {n : Nat} (h : PuOk H pu n) (e : Same H H') : PuOk H' pu n := by
  obtain ⟨a, b, c, h1, h2⟩ := h
  exact ⟨a, b, c, e _ _ h1, h2⟩
theorem PuOk.but {H H' : Hp} {pu a : Addr} {n : Nat} (h : PuOk H pu n) (e : But a H H') (ne : pu ≠ a) : PuOk H' pu n := by
  obtain ⟨a, b, c, h1, h2⟩ := h
  exact ⟨a, b, c, e _ _ ne h1, h2⟩
theorem e2100 : (2 : Int) ^ 201 ≤ 2 ^ 2100 := by decide +kernel
theorem e600 : ((10 : Int) ^ (60 : Int).toNat) ^ (10 : Int).toNat ≤ 2 ^ 2100 := by decide +kernel
def spPurse : Sp := fun vs H Q _ => ∃ (c k : Int), vs = [.int c, .int k] ∧ 0 ≤ k ∧ k < 2 ^ 40 ∧ ∀ p H', H p = none → Same H H' → PuOk H' p 0 → Q (.ref p) H'
theorem ok_L_purse (T : Txt K mg) : FnOk P w K mg base (L2.CX P w) 2 (He.ga K "_law_purse") (fdAt K (He.ga K "_law_purse")) ["_law_cell", "_law_k"] spPurse := by
  refine T.d_L_purse.fn.ok sc_L_purse (fun vs H Q E h => ?_) (fun cdv A outer s H vs Q E hr h => ?_)
  · obtain ⟨c, k, rfl, _⟩ := h
    rfl
  · obtain ⟨c, k, rfl, k0, k1, q⟩ := h
    refine ⟨_, PSs.nox (pss_cons (ps_if (pt_cmpR op_ge (pv 0) (pe_op op_pow pe_int pe_int) (nomark _))
        (pss_one (ps_ret (pe_lst (pa_cons (pe_op op_mod (pe_op op_sub (pv 0) (pe_op op_pow pe_int pe_int)) (pe_op op_powW (pe_op op_pow pe_int pe_int) pe_int)) (pa_cons pe_int (pa_cons (pv 1) pa_nil))))))
        pss_nil)
      (pss_one (ps_ret (pe_lst (pa_cons (pe_call (ok_L_mixed T) (hr.mono (by decide)) (by rfl) T.d_L_mixed.g T.d_L_mixed.fn.kp T.d_L_mixed.b .nil passL (pa_cons (pv 0) (pa_cons (pv 1) pa_nil))) (pa_cons pe_int (pa_cons (pe_op op_add (pe_op op_mod (pv 0) (pe_op op_add (pe_op op_pow pe_int pe_int) pe_int)) (pv 1)) pa_nil))))))), ?_⟩
    walk_at "rd"
    refine ite2 (fun e => ?_) (fun e => ?_)
    · walk_at "rd"
      refine ⟨⟨by decide, by decide +kernel⟩, ?_⟩
      walk_at "rd"
      refine fun p hp => q p _ hp (same_new hp) ⟨_, _, _, upd_same, Int.emod_nonneg _ (by decide +kernel), Int.lt_of_lt_of_le (Int.emod_lt_of_pos _ (by decide +kernel)) e600, by decide, by decide⟩
    · refine ⟨_, rfl, _, rfl, c, k, rfl, k0, k1, fun r r0 r1 => ?_⟩
      walk_at "rd"
      refine fun p hp => q p _ hp (same_new hp) ⟨_, _, _, upd_same, r0, Int.lt_of_lt_of_le r1 (by decide +kernel), by decide, by decide⟩
def spTake : Sp := fun vs H Q _ => ∃ (pu : Addr) (st : Int) (n : Nat), vs = [.ref pu, .int st] ∧ 1 ≤ st ∧ st ≤ 1000000 ∧ PuOk H pu n ∧ n ≤ 10000000 ∧
  ∀ (r : Int) H', 0 ≤ r → r < st → But pu H H' → (∀ b, H b = none → H' b = none) → PuOk H' pu (n + 1) → Q (.int r) H'
theorem ok_L_take (T : Txt K mg) : FnOk P w K mg base (L2.CX P w) 2 (He.ga K "_law_take") (fdAt K (He.ga K "_law_take")) ["_law_purse_here", "_law_steps"] spTake := by
  refine T.d_L_take.fn.ok sc_L_take (fun vs H Q E h => ?_) (fun cdv A outer s H vs Q E hr h => ?_)
  · obtain ⟨pu, st, n, rfl, _⟩ := h
    rfl
  · obtain ⟨pu, st, n, rfl, s1, s2, ⟨a, b, c, hp, a0, a1, b0, b1⟩, hn, q⟩ := h
    refine ⟨_, PSs.nox (C8.pss_cut (ps_if (pt_cmpR op_lt (pe_ix ix_list (pv 0) pe_int (fun _ _ => rfl)) (pv 1) (nomark _))
        (pss_cons (ps_asg (pe_op op_add (pe_ix ix_list (pv 0) pe_int (fun _ _ => rfl)) pe_int) (pg_sub (pv 0) pe_int set_list))
      (pss_one (ps_asg (pe_op op_add (pe_ix ix_list (pv 0) pe_int (fun _ _ => rfl)) (pe_op op_mulW (pv 1) (pe_call (ok_L_mixed T) (hr.mono (by decide)) (by rfl) T.d_L_mixed.g T.d_L_mixed.fn.kp T.d_L_mixed.b .nil passL (pa_cons (pe_ix ix_list (pv 0) pe_int (fun _ _ => rfl)) (pa_cons (pe_op op_add (pe_op op_mul pe_int (pe_ix ix_list (pv 0) pe_int (fun _ _ => rfl))) pe_int) pa_nil))))) (pg_sub (pv 0) pe_int set_list))))
        pss_nil)
      (pss_cons (ps_set (i := 2) sc_L_take.nd rfl (.inl rfl) (pe_op op_mod (pe_ix ix_list (pv 0) pe_int (fun _ _ => rfl)) (pv 1)))
      (pss_cons (ps_asg (pe_op op_fdiv (pe_ix ix_list (pv 0) pe_int (fun _ _ => rfl)) (pv 1)) (pg_sub (pv 0) pe_int set_list))
      (pss_one (ps_ret (pv 2)))))), ?_⟩
    have e40 : (2 : Int) ^ 40 = 1099511627776 := by decide
    have e20 : (2 : Int) ^ 20 = 1048576 := by decide
    refine ⟨fun σ' H1 => ∃ a b : Int, σ' = [some (.ref pu), some (.int st), none] ∧ H1 pu = some (.lst [.int a, .int b, .int c]) ∧ 0 ≤ a ∧ a < 2 ^ 2100 ∧ 0 ≤ b ∧ b ≤ ((n + 1 : Nat) : Int) ∧ But pu H H1 ∧ (∀ b, H b = none → H1 b = none), ?_, ?_⟩
    · refine ⟨_, rfl, pu, _, 0, .int a, rfl, rfl, .of hp, rfl, _, rfl, a, st, rfl, rfl, _, rfl, ite2 (fun e => ?_) (fun e => ?_)⟩
      · have ea : a < st := of_decide_eq_true e
        refine ⟨_, rfl, pu, _, 1, .int b, rfl, rfl, .of hp, rfl, b, 1, rfl, rfl, ?_⟩
        refine ⟨_, rfl, pu, _, 1, 1, rfl, rfl, hp, rfl, ?_⟩
        refine ⟨_, rfl, pu, _, 0, .int a, rfl, rfl, .of upd_same, rfl, ?_⟩
        refine ⟨_, rfl, _, rfl, pu, _, 2, .int c, rfl, rfl, .of upd_same, rfl, _, rfl, pu, _, 1, .int (b + 1), rfl, rfl, .of upd_same, rfl, 11, b + 1, rfl, rfl, .inl ⟨by decide, by decide⟩, 11 * (b + 1), 5, rfl, rfl, ?_⟩
        refine ⟨c, 11 * (b + 1) + 5, rfl, by omega, by rw [e40]; omega, fun r r0 r1 => ?_⟩
        have s3 : st < 2 ^ 20 := by rw [e20]; omega
        refine ⟨st, r, rfl, rfl, mul_ok 20 200 (by omega) s3 r0 r1 (by decide) (by decide) (by decide), a, st * r, rfl, rfl, ?_⟩
        refine ⟨_, rfl, pu, _, 0, 0, rfl, rfl, upd_same, rfl, ?_⟩
        have hm := mul_lt (i := st) (j := r) 20 200 (by omega) s3 r0 r1
        have e220 : (2 : Int) ^ (20 + 200) = 1684996666696914987166688442938726917102321526408785780068975640576 := by decide +kernel
        have e221 : (1684996666696914987166688442938726917102321526408785780068975640577 + 1000000 : Int) ≤ 2 ^ 2100 := by decide +kernel
        rw [e220] at hm
        refine ⟨a + st * r, b + 1, rfl, by rw [upd_upd]; exact upd_same, by omega, ?_, by omega, by omega, But.upd (But.upd (But.refl _ _)), fun x hx => ?_⟩
        · exact Int.lt_of_lt_of_le (by omega) e221
        · rw [upd_upd, upd_ne (fun e => by rw [e, hp] at hx; cases hx)]
          exact hx
      · exact ⟨a, b, rfl, hp, a0, a1, b0, by omega, But.refl _ _, fun _ h => h⟩
    · rintro σ' H1 ⟨a, b, rfl, hp, a0, a1, b0, b1, bt, fr⟩
      refine ⟨_, rfl, pu, _, 0, .int a, rfl, rfl, .of hp, rfl, _, rfl, a, st, rfl, rfl, by show 0 < st; omega, ?_⟩
      refine ⟨_, rfl, pu, _, 0, .int a, rfl, rfl, .of hp, rfl, _, rfl, a, st, rfl, rfl, ⟨by omega, by omega⟩, ?_⟩
      refine ⟨_, rfl, pu, _, 0, 0, rfl, rfl, hp, rfl, _, rfl, ?_⟩
      refine q (a % st) _ (Int.emod_nonneg _ (by omega)) (Int.emod_lt_of_pos _ (by omega)) bt.upd (fun x hx => ?_) ⟨a / st, b, c, upd_same, Int.ediv_nonneg a0 (by omega), ?_, b0, b1⟩
      · have h1 := fr x hx
        rw [upd_ne (fun e => by rw [e, hp] at h1; cases h1)]
        exact h1
      · exact Int.lt_of_le_of_lt (Int.ediv_le_self _ a0) a1
/-! ### the script -/
def spAt (K : PySem.W.Frag) : Sp := fun vs H Q _ => ∃ (a : Addr) (ns : List Int) (k : Nat), vs = [.ref a, .int (k : Int)] ∧ SqL K H a (ns.map V.int) ∧ ∀ r : Int, Q (.int r) H
theorem ok_L_at (T : Txt K mg) : FnOk P w K mg base (L2.CX P w) 1 (He.ga K "_law_at") (fdAt K (He.ga K "_law_at")) ["_law_script", "_law_k"] (spAt K) := by
  refine T.d_L_at.fn.ok sc_L_at (fun vs H Q E h => ?_) (fun cdv A outer s H vs Q E hr h => ?_)
  · obtain ⟨a, ns, k, rfl, _⟩ := h
    rfl
  · obtain ⟨a, ns, k, rfl, hS, q⟩ := h
    refine ⟨_, PSs.nox (pss_cons (ps_if (pt_cmpR op_lt (pv 1) (pe_callB call_len_seq (by rfl) T.b_len PySem.boot_len (pa_cons (pv 0) pa_nil)) (nomark _))
        (pss_one (ps_ret (pe_ix ix_list (pv 0) (pv 1) (fun _ _ => rfl))))
        pss_nil)
      (pss_one (ps_ret (pe_op op_add (pe_op op_mul pe_int (pv 1)) pe_int)))), ?_⟩
    refine ⟨_, rfl, _, rfl, a, _, rfl, .inl hS, k, _, rfl, rfl, _, rfl, ite2 (fun e => ?_) (fun e => ?_)⟩
    · have e1 := of_decide_eq_true e
      rw [List.length_map] at e1
      have hk : k < ns.length := by omega
      refine ⟨_, rfl, _, rfl, a, _, k, .int ns[k], rfl, rfl, hS, atI_nat ?_, q _⟩
      rw [List.getElem?_map, List.getElem?_eq_getElem hk]
      rfl
    · walk_at "rd"
      exact q _
end
end Sw
set_option Elab.async false
set_option linter.all false
set_option maxRecDepth 100000
set_option maxHeartbeats 4000000
namespace Sw
open PySem PySem.Spec PyProof.Rows L2 SX
local macro_rules | `(tactic| walk_at "sd") => `(tactic| first | exact ⟨by decide, by decide, by decide⟩ | (show (0 : Int) < _; decide) | exact .inl ⟨by decide, by decide⟩ | exact .inr ⟨by decide, by decide⟩ | (refine szS ?_; simp only [List.length_cons, List.length_nil]; decide))
local macro_rules | `(tactic| walk_at "rd") => `(tactic| ((repeat (first | refine ⟨_, rfl, ?_⟩ | refine ⟨_, _, rfl, rfl, ?_⟩ | refine ⟨by walk_at "sd", ?_⟩)); try dsimp only))
section
variable {P : Program} {w : World} {K : PySem.W.Frag} {mg : Str → Option Value} {base : Heap}
def mostV : Option Nat → V
  | none => .non
  | some k => .int (k : Int)
def capOf (m : Option Nat) (n : Nat) : Nat := m.getD n
theorem at_some {row : Str} {i : Nat} (h : i < (tl row).length) : ∃ c, (tl row)[i]? = some c ∧ atI (tl row) (i : Int) = some c := ⟨_, List.getElem?_eq_getElem h, atI_nat (List.getElem?_eq_getElem h)⟩
def spRunEnd : Sp := fun vs H Q _ => ∃ (row signs : Str) (i : Nat) (m : Option Nat) (p : Nat → Bool), vs = [.str row, .int (i : Int), .str signs, mostV m] ∧ i ≤ (tl row).length ∧ (tl row).length ≤ 100000 ∧ (∀ c, decide (c ∈ tl signs) = p c) ∧
  Q (.int ((i + runLen p (capOf m ((tl row).length - i)) ((tl row).drop i) : Nat) : Int)) H
theorem ok_run_end (T : Txt K mg) : FnOk P w K mg base (L2.CX P w) 1 (He.ga K "run_end") (fdAt K (He.ga K "run_end")) ["row", "at", "signs", "most"] spRunEnd := by
  refine T.d_run_end.fn.ok sc_run_end (fun vs H Q E h => ?_) (fun cdv A outer s H vs Q E hr h => ?_)
  · obtain ⟨_, _, _, _, _, rfl, _⟩ := h
    rfl
  · obtain ⟨row, signs, i, m, p, rfl, hi, hz, hp, q⟩ := h
    refine ⟨_, PSs.nox (pss_cons (ps_set (i := 4) sc_run_end.nd rfl (.inl rfl) (pv 1))
      (pss_cons (ps_while PassesOwn.never (pw_and (pt_cmpR op_lt (pv 4) (pe_callB call_len_str (by rfl) T.b_len PySem.boot_len (pa_cons (pv 0) pa_nil)) (nomark _)) (pw_and (pt_cmpR op_in_sign (pe_ix ix_str (pv 0) (pv 4) (fun _ _ => rfl)) (pv 2) rfl) (pw_and1 (pw_or (pt_cmpR op_isN (pv 3) pe_non (nomark _)) (pw_or1 (pt_cmpR op_lt (pv 4) (pe_op op_add (pv 1) (pv 3)) (nomark _)))).pt))).pt
        (pss_one (ps_aug (i := 4) sc_run_end.nd rfl (.inl rfl) pe_int ip_add)))
      (pss_one (ps_ret (pv 4))))), ?_⟩
    have hrl : row.length = (tl row).length := (tl_len row).symm
    have hsz : row.length ≤ sizeLine := by rw [hrl]; exact szS hz
    refine ⟨_, rfl, fun mm σ H' => ∃ k : Nat, σ = [some (.str row), some (.int (i : Int)), some (.str signs), some (mostV m), some (.int ((i + k : Nat) : Int))] ∧ H' = H ∧ k ≤ capOf m ((tl row).length - i) ∧ i + k ≤ (tl row).length ∧ (∀ j c, j < k → ((tl row).drop i)[j]? = some c → p c = true) ∧ mm = (tl row).length - (i + k),
      ⟨_, 0, rfl, rfl, Nat.zero_le _, by omega, fun j c hj => by omega, rfl⟩, ?_⟩
    rintro mm σ H' ⟨k, rfl, rfl, hk, hik, ha, rfl⟩
    have fin : (k = capOf m ((tl row).length - i) ∨ k = ((tl row).drop i).length ∨ ∃ c, ((tl row).drop i)[k]? = some c ∧ p c = false) → Q (.int ((i + k : Nat) : Int)) H' := fun h => by
      rw [runLen_is (p := p) hk ha (by rw [List.length_drop]; omega) h] at q
      exact q
    refine ⟨_, rfl, _, rfl, row, rfl, hsz, _, _, rfl, rfl, _, rfl, ite2 (fun e => ?_) (fun e => ?_)⟩
    · have e1 := of_decide_eq_true e
      have hlt : i + k < (tl row).length := by rw [hrl] at e1; omega
      obtain ⟨c, hc, hc2⟩ := at_some hlt
      have hc3 : ((tl row).drop i)[k]? = some c := by rw [List.getElem?_drop]; exact hc
      refine ⟨_, rfl, _, rfl, row, _, c, rfl, rfl, hsz, hc2, _, rfl, c, signs, rfl, rfl, _, rfl, ?_⟩
      rw [show decide (c ∈ signs.cps.toList) = p c from hp c]
      refine ite2 (fun ep => ?_) (fun ep => ?_)
      · have go : k < capOf m ((tl row).length - i) → ∃ N : L2.St → Hp → Prop, (∀ σ' H'', N σ' H'' → ∃ m', m' < (tl row).length - (i + k) ∧ ∃ k' : Nat, σ' = [some (.str row), some (.int (i : Int)), some (.str signs), some (mostV m), some (.int ((i + k' : Nat) : Int))] ∧ H'' = H' ∧ k' ≤ capOf m ((tl row).length - i) ∧ i + k' ≤ (tl row).length ∧ (∀ j c, j < k' → ((tl row).drop i)[j]? = some c → p c = true) ∧ m' = (tl row).length - (i + k')) ∧
            tAug 4 (tC (.int 1)) (ipI fun i j => i + j) { nx := N, rt := Q, ct := N, bk := fun σ' H'' => tRet (tVar 4) { nx := fun _ H' => Q .non H', rt := Q } σ' H'' } [some (.str row), some (.int (i : Int)), some (.str signs), some (mostV m), some (.int ((i + k : Nat) : Int))] H' := fun hlt2 => by
          refine ⟨fun σ' H'' => σ' = [some (.str row), some (.int (i : Int)), some (.str signs), some (mostV m), some (.int ((i + (k + 1) : Nat) : Int))] ∧ H'' = H', fun σ' H'' hN => ?_, ?_⟩
          · obtain ⟨rfl, rfl⟩ := hN
            refine ⟨_, ?_, k + 1, rfl, rfl, by omega, by omega, fun j d hj hd => ?_, rfl⟩
            · omega
            · by_cases hjk : j = k
              · subst hjk
                rw [hc3] at hd
                rw [← Option.some.inj hd]
                exact ep
              · exact ha j d (by omega) hd
          · refine ⟨_, rfl, _, _, rfl, rfl, ?_, rfl⟩
            rfl
        cases m with
        | none =>
          refine ⟨_, rfl, rfl, _, rfl, iteT (iteT ?_)⟩
          exact go (by show k < (tl row).length - i; omega)
        | some mx =>
          refine ⟨_, rfl, rfl, _, rfl, iteF ?_⟩
          refine ⟨_, rfl, _, rfl, _, rfl, _, _, rfl, rfl, _, _, rfl, rfl, _, rfl, ite2 (fun e2 => ?_) (fun e2 => ?_)⟩
          · have e3 := of_decide_eq_true e2
            exact go (by show k < mx; omega)
          · have e3 : ¬ ((i + k : Nat) : Int) < (i : Int) + (mx : Int) := fun z => e2 (decide_eq_true z)
            exact ⟨_, rfl, fin (.inl (by show k = mx; have : k ≤ mx := hk; omega))⟩
      · exact iteF ⟨_, rfl, fin (.inr (.inr ⟨c, hc3, by simpa using ep⟩))⟩
    · have e1 : ¬ ((i + k : Nat) : Int) < (row.length : Int) := fun z => e (decide_eq_true z)
      exact iteF ⟨_, rfl, fin (.inr (.inl (by rw [List.length_drop]; rw [hrl] at e1; omega)))⟩
theorem in_strs (w : Str) : ∀ l : List Str, inV (.str w) (l.map V.str) = decide (w ∈ l)
  | [] => rfl
  | x :: l => by
    show (eqV (.str x) (.str w) || inV (.str w) (l.map V.str)) = _
    rw [in_strs w l, Bool.eq_iff_iff]
    simp only [Bool.or_eq_true, decide_eq_true_eq, List.mem_cons]
    have e : eqV (.str x) (.str w) = true ↔ w = x := by
      show (x == w) = true ↔ w = x
      rw [beq_iff_eq]
      exact ⟨Eq.symm, Eq.symm⟩
    rw [e]
theorem find_at {α : Type} {p : α → Bool} : ∀ {l : List α} {i : Nat} {g : α}, l[i]? = some g → p g = true → (∀ j h, j < i → l[j]? = some h → p h = false) → l.find? p = some g
  | [], i, g, h, _, _ => by simp at h
  | x :: l, 0, g, h, hg, _ => by
    have e : x = g := Option.some.inj h
    subst e
    rw [List.find?_cons, hg]
  | x :: l, i + 1, g, h, hg, hb => by
    have e : p x = false := hb 0 x (by omega) rfl
    rw [List.find?_cons, e]
    exact find_at (l := l) (i := i) h hg (fun j y hj hy => hb (j + 1) y (by omega) hy)
theorem find_no {α : Type} {p : α → Bool} {l : List α} (h : ∀ (j : Nat) x, l[j]? = some x → p x = false) : l.find? p = none := by
  rw [List.find?_eq_none]
  intro x hx
  obtain ⟨j, hj⟩ := List.getElem?_of_mem hx
  rw [h j x hj]
  decide
theorem drop_cons {l : List Nat} {i c : Nat} (h : l[i]? = some c) : l.drop i = c :: l.drop (i + 1) := by
  obtain ⟨hi, e⟩ := List.getElem?_eq_some_iff.mp h
  rw [List.drop_eq_getElem_cons hi, e]
def spLexEnd : Sp := fun vs H Q _ => ∃ (row : Str) (i : Nat), vs = [.str row, .int (i : Int)] ∧ i < (tl row).length ∧ (tl row).length ≤ 100000 ∧
  ∀ so n p H', lexOne ((tl row).drop i) = (so, n) → H p = none → Same H H' → H' p = some (.tup [.str so, .int ((i + n : Nat) : Int)]) → Q (.ref p) H'
theorem ok_lexeme_end (T : Txt K mg) : FnOk P w K mg base (L2.CX P w) 2 (He.ga K "lexeme_end") (fdAt K (He.ga K "lexeme_end")) ["row", "at"] spLexEnd := by
  refine T.d_lexeme_end.fn.ok sc_lexeme_end (fun vs H Q E h => ?_) (fun cdv A outer s H vs Q E hr h => ?_)
  · obtain ⟨_, _, rfl, _⟩ := h
    rfl
  · obtain ⟨row, i, rfl, hi, hz, q⟩ := h
    refine ⟨_, PSs.nox (pss_cons (ps_if (pt_cmpR op_in_sign (pe_ix ix_str (pv 0) (pv 1) (fun _ _ => rfl)) (pe_g T.c_SMALL) rfl)
        (pss_cons (ps_set (i := 2) sc_lexeme_end.nd rfl (.inl rfl) (pe_call (ok_run_end T) (hr.mono (by decide)) (by rfl) T.d_run_end.g T.d_run_end.fn.kp T.d_run_end.b .nil passL (pa_cons (pv 0) (pa_cons (pv 1) (pa_cons (pe_g T.c_SMALL) (pa_cons (pe_g T.c_MOST_LETTERS) pa_nil))))))
      (pss_one (ps_ret (pe_tup (pa_cons (pe_ifExp (pt_cmpR op_in_seq (pe_slice sl_str (pv 0) (po_some (pv 1)) (po_some (pv 2))) (pe_g T.c_WORDS) rfl) pe_str pe_str) (pa_cons (pv 2) pa_nil))))))
        pss_nil)
      (pss_cons (ps_if (pt_cmpR op_in_sign (pe_ix ix_str (pv 0) (pv 1) (fun _ _ => rfl)) (pe_g T.c_GREAT) rfl)
        (pss_one (ps_ret (pe_tup (pa_cons pe_str (pa_cons (pe_call (ok_run_end T) (hr.mono (by decide)) (by rfl) T.d_run_end.g T.d_run_end.fn.kp T.d_run_end.b .nil passL (pa_cons (pv 0) (pa_cons (pe_op op_add (pv 1) pe_int) (pa_cons (pe_g T.c_SMALL) (pa_cons (pe_op op_sub (pe_g T.c_MOST_LETTERS) pe_int) pa_nil))))) pa_nil)))))
        pss_nil)
      (pss_cons (ps_if (pt_cmpR op_eq (pe_ix ix_str (pv 0) (pv 1) (fun _ _ => rfl)) pe_str (nomark _))
        (pss_one (ps_ret (pe_tup (pa_cons pe_str (pa_cons (pe_op op_add (pv 1) pe_int) pa_nil)))))
        pss_nil)
      (pss_cons (ps_if (pt_cmpR op_in_sign (pe_ix ix_str (pv 0) (pv 1) (fun _ _ => rfl)) (pe_g T.c_FIGURES) rfl)
        (pss_one (ps_ret (pe_tup (pa_cons pe_str (pa_cons (pe_call (ok_run_end T) (hr.mono (by decide)) (by rfl) T.d_run_end.g T.d_run_end.fn.kp T.d_run_end.b .nil passL (pa_cons (pv 0) (pa_cons (pv 1) (pa_cons (pe_g T.c_FIGURES) (pa_cons pe_non pa_nil))))) pa_nil)))))
        pss_nil)
      (pss_cons (ps_for PassesOwn.never rfl (pi_tup (pe_g T.c_SIGNS)) (pg_name (i := 3) sc_lexeme_end.nd rfl (.inl rfl))
        (pss_one (ps_if (pt_val (pe_bm PySem.F.plainAttrs_str PySem.F.slot_str_startswith PySem.F.type_str_startswith mt_startswith3 (pv 0) (pa_cons (pv 3) (pa_cons (pv 1) pa_nil))))
        (pss_one (ps_ret (pe_tup (pa_cons pe_str (pa_cons (pe_op op_add (pv 1) (pe_callB call_len_str (by rfl) T.b_len PySem.boot_len (pa_cons (pv 3) pa_nil))) pa_nil)))))
        pss_nil)))
      (pss_one (ps_ret (pe_tup (pa_cons pe_str (pa_cons (pv 1) pa_nil)))))))))), ?_⟩
    have hrl : row.length = (tl row).length := (tl_len row).symm
    have hsz : row.length ≤ sizeLine := by rw [hrl]; exact szS hz
    obtain ⟨c, hc, hc2⟩ := at_some hi
    have hd := drop_cons hc
    have ret : ∀ (so : Str) (n : Nat) (p : Addr) (m : Int), lexOne ((tl row).drop i) = (so, n) → m = ((i + n : Nat) : Int) → H p = none → Q (.ref p) (upd H p (.tup [.str so, .int m])) := fun so n p m e1 e2 e3 => by
      subst e2
      exact q so n p _ e1 e3 (same_new e3) upd_same
    -- a small letter
    refine ⟨_, rfl, _, rfl, row, _, c, rfl, rfl, hsz, hc2, c, _, rfl, rfl, _, rfl, ?_⟩
    rw [show decide (c ∈ _) = isSm c from in_sm c]
    refine ite2 (fun e1 => ?_) (fun e1 => ?_)
    · refine ⟨_, rfl, _, rfl, row, _, i, some 8, isSm, rfl, by omega, hz, in_sm, ?_⟩
      have hle := runLen_le isSm 8 ((tl row).drop i)
      rw [List.length_drop] at hle
      refine ⟨_, rfl, _, rfl, _, rfl, _, rfl, _, rfl, row, rfl, hsz, ?_⟩
      rw [cut_at row i _ (by omega) (by show i + runLen isSm 8 ((tl row).drop i) ≤ _; omega)]
      refine ⟨_, _, rfl, .inr (T.t_WORDS _), rfl, rfl, _, rfl, ?_⟩
      have hl : lexOne ((tl row).drop i) = (if S (((tl row).drop i).take (runLen isSm 8 ((tl row).drop i))) ∈ WORDS then ("word" : Str) else "name", runLen isSm 8 ((tl row).drop i)) := by
        rw [hd]
        unfold lexOne
        simp only
        rw [if_pos e1]
      have hw := in_strs (S (((tl row).drop i).take (i + runLen isSm 8 ((tl row).drop i) - i))) WORDS
      rw [show i + runLen isSm 8 ((tl row).drop i) - i = runLen isSm 8 ((tl row).drop i) by omega] at hw
      refine ite2 (fun e2 => ?_) (fun e2 => ?_)
      · refine ⟨_, rfl, szS (by simp), fun p hp => ret _ _ p _ ?_ rfl hp⟩
        rw [hl, if_pos]
        · rfl
        · have z : inV (.str (S (((tl row).drop i).take (i + runLen isSm 8 ((tl row).drop i) - i)))) (WORDS.map V.str) = true := e2
          rw [show i + runLen isSm 8 ((tl row).drop i) - i = runLen isSm 8 ((tl row).drop i) by omega, hw] at z
          exact of_decide_eq_true z
      · refine ⟨_, rfl, szS (by simp), fun p hp => ret _ _ p _ ?_ rfl hp⟩
        rw [hl, if_neg]
        · rfl
        · intro z
          refine e2 ?_
          show inV (.str (S (((tl row).drop i).take (i + runLen isSm 8 ((tl row).drop i) - i)))) (WORDS.map V.str) = true
          rw [show i + runLen isSm 8 ((tl row).drop i) - i = runLen isSm 8 ((tl row).drop i) by omega, hw]
          exact decide_eq_true z
    -- a great letter
    refine ⟨_, rfl, _, rfl, row, _, c, rfl, rfl, hsz, hc2, c, _, rfl, rfl, _, rfl, ?_⟩
    rw [show decide (c ∈ _) = isGr c from in_gr c]
    refine ite2 (fun e2 => ?_) (fun e2 => ?_)
    · refine ⟨_, rfl, _, rfl, _, _, rfl, rfl, _, _, rfl, rfl, row, _, i + 1, some 7, isSm, rfl, by omega, hz, in_sm, ?_⟩
      refine ⟨szS (by simp), fun p hp => ret "maker" (1 + runLen isSm 7 ((tl row).drop (i + 1))) p _ ?_ ?_ hp⟩
      · rw [hd]
        unfold lexOne
        simp only
        rw [if_neg e1, if_pos e2]
      · show ((i + 1 + runLen isSm 7 ((tl row).drop (i + 1)) : Nat) : Int) = _
        omega
    -- nought
    refine ⟨_, rfl, _, rfl, row, _, c, rfl, rfl, hsz, hc2, rfl, _, rfl, ?_⟩
    have h0 : decide (V.str ⟨#[c]⟩ = V.str "0") = decide (c = 48) := by
      have e0 : (Str.ofString "0") = ⟨#[48]⟩ := by decide +kernel
      rw [e0, Bool.eq_iff_iff, decide_eq_true_eq, decide_eq_true_eq]
      constructor
      · intro h
        injection h with h
        injection h with h
        have := congrArg Array.toList h
        simpa using this
      · rintro rfl
        rfl
    rw [h0]
    refine ite2 (fun e3 => ?_) (fun e3 => ?_)
    · refine ⟨_, rfl, _, _, rfl, rfl, szS (by simp), fun p hp => ret "number" 1 p _ ?_ (by omega) hp⟩
      rw [hd]
      unfold lexOne
      simp only
      rw [if_neg e1, if_neg e2, if_pos (of_decide_eq_true e3)]
    have e3' : ¬ c = 48 := fun z => e3 (decide_eq_true z)
    -- a figure
    refine ⟨_, rfl, _, rfl, row, _, c, rfl, rfl, hsz, hc2, c, _, rfl, rfl, _, rfl, ?_⟩
    rw [show decide (c ∈ _) = isFi c from in_fi c]
    refine ite2 (fun e4 => ?_) (fun e4 => ?_)
    · refine ⟨_, rfl, _, rfl, row, _, i, none, isFi, rfl, by omega, hz, in_fi, ?_⟩
      refine ⟨szS (by simp), fun p hp => ret "number" _ p _ ?_ rfl hp⟩
      have el : (tl row).length - i = ((tl row).drop i).length := by rw [List.length_drop]
      show lexOne ((tl row).drop i) = (_, runLen isFi ((tl row).length - i) ((tl row).drop i))
      rw [el, hd]
      unfold lexOne
      simp only
      rw [if_neg e1, if_neg e2, if_neg e3', if_pos e4]
    -- signs
    have hfall : lexOne ((tl row).drop i) = match SIGNS.find? fun g => isP (tl g) ((tl row).drop i) with | some g => (("sign" : Str), g.length) | none => (("none" : Str), 0) := by
      rw [hd]
      unfold lexOne
      simp only
      rw [if_neg e1, if_neg e2, if_neg e3', if_neg e4] <;> rfl
    refine ⟨_, rfl, ⟨_, T.t_SIGNS H⟩, for_tup (xs := SIGNS.map V.str) (fun j σ H' => ∃ v, σ = [some (.str row), some (.int (i : Int)), none, v] ∧ H' = H ∧ ∀ (k : Nat) g, k < j → SIGNS[k]? = some g → isP (tl g) ((tl row).drop i) = false)
      ⟨none, rfl, rfl, fun k g hk => by omega⟩ (fun j σ H' _ _ => T.t_SIGNS H') (fun j x σ H' hx hP => ?_) (fun σ H' hP => ?_)⟩
    · obtain ⟨v, rfl, rfl, hall⟩ := hP
      rw [List.getElem?_map] at hx
      obtain ⟨g, hg, rfl⟩ := Option.map_eq_some_iff.mp hx
      refine ⟨_, rfl, rfl, _, rfl, _, rfl, row, g, _, rfl, rfl, ?_⟩
      rw [starts3 row g i (by omega)]
      refine ⟨_, rfl, ite2 (fun e5 => ?_) (fun e5 => ?_)⟩
      · have hfind := find_at (p := fun g => isP (tl g) ((tl row).drop i)) hg e5 (fun k h hk hh => hall k h hk hh)
        have hgl : g.length ≤ sizeLine := by
          have hm := List.mem_of_getElem? hg
          have hall2 : ∀ x ∈ SIGNS, x.length ≤ 100 := by decide +kernel
          exact szS (Nat.le_trans (hall2 g hm) (by decide))
        refine ⟨_, rfl, _, rfl, g, rfl, hgl, _, _, rfl, rfl, szS (by simp), fun p hp => ret "sign" g.length p _ ?_ rfl hp⟩
        rw [hfall, hfind]
      · refine ⟨some (.str g), rfl, rfl, fun k h hk hh => ?_⟩
        by_cases hkj : k = j
        · subst hkj
          rw [hg] at hh
          rw [← Option.some.inj hh]
          simpa using e5
        · exact hall k h (by omega) hh
    · obtain ⟨v, rfl, rfl, hall⟩ := hP
      have hnone := find_no (p := fun g => isP (tl g) ((tl row).drop i)) (l := SIGNS) (fun k x hx => hall k x (by
        have := (List.getElem?_eq_some_iff.mp hx).1
        rw [List.length_map]
        exact this) hx)
      refine ⟨_, rfl, szS (by simp), fun p hp => ret "none" 0 p _ ?_ rfl hp⟩
      rw [hfall, hnone]
end
end Sw
set_option Elab.async false
set_option linter.all false
set_option maxRecDepth 100000
set_option maxHeartbeats 4000000
namespace Sw
open PySem PySem.Spec PyProof.Rows L2 SX
section
variable {P : Program} {w : World} {K : PySem.W.Frag} {mg : Str → Option Value} {base : Heap}
/-! ### lexemes as objects -/
/-- a tuple ((row, column), sort, word) -/
def TkT (H : Hp) (v : V) (t : Tk) : Prop := ∃ a b, v = .ref a ∧ H a = some (.tup [.ref b, .str t.sort, .str t.word]) ∧ H b = some (.tup [.int (t.row : Int), .int (t.col : Int)])
theorem TkT.same {H H' : Hp} {v : V} {t : Tk} (h : TkT H v t) (e : Same H H') : TkT H' v t := by
  obtain ⟨a, b, h1, h2, h3⟩ := h
  exact ⟨a, b, h1, e _ _ h2, e _ _ h3⟩
theorem TkT.but {H H' : Hp} {v : V} {t : Tk} {f : Addr} {xs : List V} (h : TkT H v t) (e : But f H H') (hf : H f = some (.lst xs)) : TkT H' v t := by
  obtain ⟨a, b, h1, h2, h3⟩ := h
  exact ⟨a, b, h1, e _ _ (ne_of h2 hf (by intro z; cases z)) h2, e _ _ (ne_of h3 hf (by intro z; cases z)) h3⟩
theorem pt_same {H H' : Hp} {us : List V} {ts : List Tk} (h : Paired (TkT H) us ts) (e : Same H H') : Paired (TkT H') us ts := h.mono fun _ _ q => q.same e
theorem pt_but {H H' : Hp} {us : List V} {ts : List Tk} {f : Addr} {xs : List V} (h : Paired (TkT H) us ts) (e : But f H H') (hf : H f = some (.lst xs)) : Paired (TkT H') us ts := h.mono fun _ _ q => q.but e hf
theorem pt_app {α β : Type} {F : α → β → Prop} : ∀ {a : List α} {b : List β} {c : List α} {d : List β}, Paired F a b → Paired F c d → Paired F (a ++ c) (b ++ d)
  | _, _, _, _, .nil, h => h
  | _, _, _, _, .cons h t, q => .cons h (pt_app t q)
/-- Same holds on through a change of an object that was not there -/
theorem same_mut {H H1 : Hp} {f : Addr} {o : HO} (e : Same H H1) (n : H f = none) : Same H (upd H1 f o) := fun b u h => by
  rw [upd_ne (ne_of_none h n)]
  exact e b u h
theorem lex_inv {num i : Nat} {c : Nat} {r : List Nat} {ts : List Tk} (h : LexR num i (c :: r) none ts) (hr : isP [45, 45] (c :: r) = false) :
    (c = 32 ∧ LexR num (i + 1) r none ts) ∨ (c ≠ 32 ∧ ∃ so n us, lexOne (c :: r) = (so, n) ∧ so ≠ "none" ∧ 1 ≤ n ∧ n ≤ (c :: r).length ∧ (so ≠ "sign" → ∀ d, ((c :: r).drop n).head? = some d → isAl d = false) ∧
      LexR num (i + n) ((c :: r).drop n) none us ∧ ts = ⟨num, i + 1, so, S ((c :: r).take n)⟩ :: us) := by
  cases h with
  | fin h =>
    rcases h with h | h
    · cases h
    · rw [hr] at h
      cases h
  | blank h => exact .inl ⟨rfl, h⟩
  | tok h1 h2 h3 h4 h5 h6 h7 h8 h9 =>
    refine .inr ⟨fun e => h2 (by rw [e]; rfl), _, _, _, h4, h5, h6, h7, h8, h9, rfl⟩
def spRowLex : Sp := fun vs H Q _ => ∃ (row : Str) (num : Nat) (ts : List Tk), vs = [.str row, .int (num : Int)] ∧ (tl row).length ≤ 10000 ∧ LexR num 0 (tl row) none ts ∧
  ∀ p H' us, H p = none → Same H H' → H' p = some (.lst us) → Paired (TkT H') us ts → us.length ≤ (tl row).length → Q (.ref p) H'
theorem blank_is (c : Nat) : decide (V.str ⟨#[c]⟩ = V.str " ") = decide (c = 32) := by
  have e0 : (Str.ofString " ") = ⟨#[32]⟩ := by decide +kernel
  rw [e0, Bool.eq_iff_iff, decide_eq_true_eq, decide_eq_true_eq]
  constructor
  · intro h
    injection h with h
    injection h with h
    have := congrArg Array.toList h
    simpa using this
  · rintro rfl
    rfl
theorem dash_tl : tl "--" = [45, 45] := by decide +kernel
theorem ok_row_lexemes (T : Txt K mg) : FnOk P w K mg base (L2.CX P w) 3 (He.ga K "row_lexemes") (fdAt K (He.ga K "row_lexemes")) ["row", "number"] spRowLex := by
  refine T.d_row_lexemes.fn.ok sc_row_lexemes (fun vs H Q E h => ?_) (fun cdv A outer s H vs Q E hr h => ?_)
  · obtain ⟨_, _, _, rfl, _⟩ := h
    rfl
  · obtain ⟨row, num, ts, rfl, hz, hL, q⟩ := h
    refine ⟨_, PSs.nox (pss_cons (ps_set (i := 2) sc_row_lexemes.nd rfl (.inl rfl) (pe_lst pa_nil))
      (pss_cons (ps_set (i := 3) sc_row_lexemes.nd rfl (.inl rfl) pe_int)
      (pss_cons (ps_while PassesOwn.never (pw_and (pt_cmpR op_lt (pv 3) (pe_callB call_len_str (by rfl) T.b_len PySem.boot_len (pa_cons (pv 0) pa_nil)) (nomark _)) (pw_and1 (pt_not (pt_val (pe_bm PySem.F.plainAttrs_str PySem.F.slot_str_startswith PySem.F.type_str_startswith mt_startswith3 (pv 0) (pa_cons pe_str (pa_cons (pv 3) pa_nil))))))).pt
        (pss_one (ps_if (pt_cmpR op_eq (pe_ix ix_str (pv 0) (pv 3) (fun _ _ => rfl)) pe_str (nomark _))
        (pss_one (ps_aug (i := 3) sc_row_lexemes.nd rfl (.inl rfl) pe_int ip_add))
        (pss_cons (ps_asg (pe_call (ok_lexeme_end T) (hr.mono (by decide)) (by rfl) T.d_lexeme_end.g T.d_lexeme_end.fn.kp T.d_lexeme_end.b .nil passL (pa_cons (pv 0) (pa_cons (pv 3) pa_nil))) (pg_tup rfl (pgs_cons (pg_name (i := 4) sc_row_lexemes.nd rfl (.inl rfl)) (pgs_cons (pg_name (i := 5) sc_row_lexemes.nd rfl (.inl rfl)) pgs_nil))))
      (pss_cons (ps_if (pt_cmpR op_eq (pv 4) pe_str (nomark _))
        (pss_one ps_never)
        pss_nil)
      (pss_cons (ps_if (pw_and (pt_cmpR op_ne (pv 4) pe_str (nomark _)) (pw_and (pt_cmpR op_lt (pv 5) (pe_callB call_len_str (by rfl) T.b_len PySem.boot_len (pa_cons (pv 0) pa_nil)) (nomark _)) (pw_and1 (pt_cmpR op_in_sign (pe_ix ix_str (pv 0) (pv 5) (fun _ _ => rfl)) (pe_op op_add_str (pe_op op_add_str (pe_g T.c_SMALL) (pe_g T.c_GREAT)) (pe_g T.c_FIGURES)) rfl)))).pt
        (pss_one ps_never)
        pss_nil)
      (pss_cons (ps_expr (pe_bm PySem.F.plainAttrs_list PySem.F.slot_list_append PySem.F.type_list_append mt_append (pv 2) (pa_cons (pe_tup (pa_cons (pe_tup (pa_cons (pv 1) (pa_cons (pe_op op_add (pv 3) pe_int) pa_nil))) (pa_cons (pv 4) (pa_cons (pe_slice sl_str (pv 0) (po_some (pv 3)) (po_some (pv 5))) pa_nil)))) pa_nil)))
      (pss_one (ps_set (i := 3) sc_row_lexemes.nd rfl (.inl rfl) (pv 5))))))))))
      (pss_one (ps_ret (pv 2)))))), ?_⟩
    have hrl : row.length = (tl row).length := (tl_len row).symm
    have hsz : row.length ≤ sizeLine := by rw [hrl]; exact szS (by omega)
    refine ⟨szS (by simp), fun fo hfo => ?_⟩
    refine ⟨fun m σ H' => ∃ (i : Nat) (y4 y5 : Option V) (us : List V) (t1 t2 : List Tk), σ = [some (.str row), some (.int (num : Int)), some (.ref fo), some (.int (i : Int)), y4, y5] ∧ Same H H' ∧ H' fo = some (.lst us) ∧ Paired (TkT H') us t1 ∧ LexR num i ((tl row).drop i) none t2 ∧ ts = t1 ++ t2 ∧ i ≤ (tl row).length ∧ us.length ≤ i ∧ m = (tl row).length - i,
      ⟨_, 0, none, none, [], [], ts, rfl, same_new hfo, upd_same, .nil, hL, rfl, by omega, by simp, rfl⟩, ?_⟩
    rintro m σ H' ⟨i, y4, y5, us, t1, t2, rfl, sm, hf, hp, hl, rfl, hi, hu, rfl⟩
    refine ⟨_, rfl, _, rfl, row, rfl, hsz, _, _, rfl, rfl, _, rfl, ite2 (fun e => ?_) (fun e => ?_)⟩
    · have e1 := of_decide_eq_true e
      have hlt : i < (tl row).length := by rw [hrl] at e1; omega
      refine ⟨_, rfl, rfl, _, rfl, row, _, _, rfl, rfl, ?_⟩
      rw [starts3 row "--" i (by omega), dash_tl]
      obtain ⟨c, hc, hc2⟩ := at_some hlt
      have hd := drop_cons hc
      refine ⟨_, rfl, ?_⟩
      rw [hd] at hl ⊢
      cases hdash : isP [45, 45] (c :: (tl row).drop (i + 1)) with
      | true =>
        refine iteF ⟨_, rfl, ?_⟩
        have et2 : t2 = [] := by
          cases hl with
          | fin => rfl
          | blank h => simp [isP] at hdash
          | tok h1 h2 h3 => rw [hdash] at h3; cases h3
        subst et2
        rw [List.append_nil] at q
        exact q fo H' us hfo sm hf hp (by omega)
      | false =>
        refine iteT ?_
        refine ⟨fun σ' H'' => ∃ (i' : Nat) (y4 y5 : Option V) (us : List V) (t1' t2' : List Tk), i < i' ∧ σ' = [some (.str row), some (.int (num : Int)), some (.ref fo), some (.int (i' : Int)), y4, y5] ∧ Same H H'' ∧ H'' fo = some (.lst us) ∧ Paired (TkT H'') us t1' ∧ LexR num i' ((tl row).drop i') none t2' ∧ t1 ++ t2 = t1' ++ t2' ∧ i' ≤ (tl row).length ∧ us.length ≤ i',
          fun σ' H'' hN => ?_, ?_⟩
        · obtain ⟨i', y4, y5, us, t1', t2', hlt', h1, h2, h3, h4, h5, h6, h7, h8⟩ := hN
          exact ⟨(tl row).length - i', by omega, i', y4, y5, us, t1', t2', h1, h2, h3, h4, h5, h6, h7, h8, rfl⟩
        · refine ⟨_, rfl, _, rfl, row, _, c, rfl, rfl, hsz, hc2, rfl, _, rfl, ?_⟩
          rw [blank_is]
          rcases lex_inv hl hdash with ⟨rfl, hl2⟩ | ⟨hne, so, n, vs, h1, h2, h3, h4, h5, h6, rfl⟩
          · refine iteT ⟨_, rfl, _, _, rfl, rfl, i + 1, y4, y5, us, t1, t2, by omega, rfl, sm, hf, hp, hl2, rfl, by omega, by omega⟩
          · rw [decide_eq_false hne]
            have hlen : (c :: (tl row).drop (i + 1)).length = (tl row).length - i := by rw [← hd, List.length_drop]
            refine iteF ⟨_, rfl, _, rfl, row, i, rfl, hlt, by omega, fun so' n' tp H1 hone htp sm1 htt => ?_⟩
            have eon : (so', n') = (so, n) := hone.symm.trans (by rw [hd]; exact h1)
            obtain ⟨rfl, rfl⟩ := Prod.mk.inj eon
            refine ⟨tp, _, rfl, .of htt, rfl, _, _, rfl, _, _, rfl, rfl, ?_⟩
            refine ⟨_, rfl, rfl, _, rfl, ?_⟩
            rw [decide_eq_false (fun z => h2 (V.str.inj z))]
            refine iteF ?_
            -- no letter or figure stands behind
            have rest : tSeq (tDrop (tBM K "list" rAppend (tVar 2) (tCons (tTup (tCons (tTup (tCons (tVar 1) (tCons (tOp (rI0 fun i j => V.int (i + j)) (tVar 3) (tC (.int 1))) tNil))) (tCons (tVar 4) (tCons (tSl rSlS (tVar 0) (tPart (tVar 3)) (tPart (tVar 5))) tNil)))) tNil))) (tAsg (tVar 5) (gName 3))
                { nx := fun σ' H'' => ∃ (i' : Nat) (y4 y5 : Option V) (us : List V) (t1' t2' : List Tk), i < i' ∧ σ' = [some (.str row), some (.int (num : Int)), some (.ref fo), some (.int (i' : Int)), y4, y5] ∧ Same H H'' ∧ H'' fo = some (.lst us) ∧ Paired (TkT H'') us t1' ∧ LexR num i' ((tl row).drop i') none t2' ∧ t1 ++ (⟨num, i + 1, so', S ((c :: (tl row).drop (i + 1)).take n')⟩ :: vs) = t1' ++ t2' ∧ i' ≤ (tl row).length ∧ us.length ≤ i', rt := Q,
                  bk := fun σ' H'' => tRet (tVar 2) { nx := fun _ H' => Q .non H', rt := Q } σ' H'', ct := fun σ' H'' => ∃ (i' : Nat) (y4 y5 : Option V) (us : List V) (t1' t2' : List Tk), i < i' ∧ σ' = [some (.str row), some (.int (num : Int)), some (.ref fo), some (.int (i' : Int)), y4, y5] ∧ Same H H'' ∧ H'' fo = some (.lst us) ∧ Paired (TkT H'') us t1' ∧ LexR num i' ((tl row).drop i') none t2' ∧ t1 ++ (⟨num, i + 1, so', S ((c :: (tl row).drop (i + 1)).take n')⟩ :: vs) = t1' ++ t2' ∧ i' ≤ (tl row).length ∧ us.length ≤ i' }
                [some (.str row), some (.int (num : Int)), some (.ref fo), some (.int (i : Int)), some (.str so'), some (.int ((i + n' : Nat) : Int))] H1 := by
              have hf1 : H1 fo = some (.lst us) := sm1 _ _ hf
              refine ⟨_, rfl, .inl ⟨rfl, _, .of hf1⟩, _, rfl, _, rfl, _, _, rfl, rfl, szS (by simp), fun b hb => ?_⟩
              refine ⟨_, rfl, _, rfl, _, rfl, _, rfl, _, rfl, _, rfl, row, rfl, hsz, szS (by simp), fun a ha => ?_⟩
              have nfb : fo ≠ b := ne_of_none hf1 hb
              have hf2 := (same_new (o := HO.tup [V.int (num : Int), V.int ((i : Int) + 1)]) hb) _ _ hf1
              have nfa : fo ≠ a := ne_of_none hf2 ha
              have hf3 : upd (upd H1 b (.tup [V.int (num : Int), V.int ((i : Int) + 1)])) a (.tup [V.ref b, V.str so', V.str (cutS row (some (i : Int)) (some ((i + n' : Nat) : Int)))]) fo = some (.lst us) := (same_new ha) _ _ hf2
              have smA : Same H1 (upd (upd H1 b (.tup [V.int (num : Int), V.int ((i : Int) + 1)])) a (.tup [V.ref b, V.str so', V.str (cutS row (some (i : Int)) (some ((i + n' : Nat) : Int)))])) := (same_new hb).trans (same_new ha)
              have nba : b ≠ a := fun z => by
                rw [← z, upd_same] at ha
                cases ha
              refine ⟨fo, us, .ref a, rfl, rfl, hf3, szL (by omega), _, rfl, i + n', _, _, us ++ [.ref a], t1 ++ [⟨num, i + 1, so', S ((c :: (tl row).drop (i + 1)).take n')⟩], vs, by omega, rfl, same_mut (sm.trans (sm1.trans smA)) hfo, upd_same, ?_, ?_, by simp, by omega, by rw [List.length_append]; simp; omega⟩
              · refine Paired.snoc (pt_but (pt_same (pt_same hp sm1) smA) (But.upd (But.refl _ _)) hf3) ⟨a, b, rfl, ?_, ?_⟩
                · rw [upd_ne nfa.symm, upd_same, cut_at row i (i + n') (by omega) (by omega), hd, show i + n' - i = n' by omega]
                · rw [upd_ne nfb.symm, upd_ne nba, upd_same]
                  rfl
              · rw [← hd, List.drop_drop] at h6
                exact h6
            refine ⟨_, rfl, rfl, _, rfl, ?_⟩
            by_cases hsg : so' = "sign"
            · rw [show (!decide (V.str so' = V.str "sign")) = false by rw [hsg]; simp]
              exact iteF (iteF rest)
            · rw [show (!decide (V.str so' = V.str "sign")) = true by rw [decide_eq_false (fun z => hsg (V.str.inj z))]; rfl]
              refine iteT ⟨_, rfl, _, rfl, row, rfl, hsz, _, _, rfl, rfl, _, rfl, ite2 (fun e5 => ?_) (fun e5 => iteF rest)⟩
              have e6 := of_decide_eq_true e5
              have hlt2 : i + n' < (tl row).length := by rw [hrl] at e6; omega
              obtain ⟨d, hd1, hd2⟩ := at_some hlt2
              refine ⟨_, rfl, _, rfl, row, _, d, rfl, rfl, hsz, hd2, _, _, rfl, rfl, szS (by decide), _, _, rfl, rfl, szS (by decide), d, _, rfl, rfl, _, rfl, ?_⟩
              rw [show decide (d ∈ _) = isAl d from in_al d, h5 hsg d (by rw [← hd, List.drop_drop, drop_cons hd1]; rfl)]
              exact iteF rest
    · have e1 : ¬ (i : Int) < (row.length : Int) := fun z => e (decide_eq_true z)
      have ei : i = (tl row).length := by rw [hrl] at e1; omega
      refine iteF ⟨_, rfl, ?_⟩
      have et2 : t2 = [] := by
        rw [ei, List.drop_length] at hl
        cases hl with
        | fin => rfl
        | tok h1 => exact absurd rfl h1
      subst et2
      rw [List.append_nil] at q
      exact q fo H' us hfo sm hf hp (by omega)
end
end Sw
set_option Elab.async false
set_option linter.all false
set_option maxRecDepth 100000
set_option maxHeartbeats 4000000
namespace Sw
open PySem PySem.Spec PyProof.Rows L2 SX
section
variable {P : Program} {w : World} {K : PySem.W.Frag} {mg : Str → Option Value} {base : Heap}
/-- the lexemes of rows, the first of which has this number -/
inductive LexT : Nat → List Str → List Tk → Prop
  | nil {n : Nat} : LexT n [] []
  | cons {n : Nat} {r : Str} {rs : List Str} {t1 t2 : List Tk} : LexR n 0 (tl r) none t1 → LexT (n + 1) rs t2 → LexT n (r :: rs) (t1 ++ t2)
def spLexemes (K : PySem.W.Frag) : Sp := fun vs H Q _ => ∃ (a : Addr) (rows : List Str) (ts : List Tk), vs = [.ref a] ∧ SqL K H a (rows.map V.str) ∧ rows.length ≤ 100 ∧ (∀ r ∈ rows, (tl r).length ≤ 200) ∧ LexT 1 rows ts ∧
  ∀ p H' us, H p = none → Same H H' → H' p = some (.lst us) → Paired (TkT H') us ts → Q (.ref p) H'
theorem ok_lexemes (T : Txt K mg) : FnOk P w K mg base (L2.CX P w) 4 (He.ga K "lexemes") (fdAt K (He.ga K "lexemes")) ["text"] (spLexemes K) := by
  refine T.d_lexemes.fn.ok sc_lexemes (fun vs H Q E h => ?_) (fun cdv A outer s H vs Q E hr h => ?_)
  · obtain ⟨_, _, _, rfl, _⟩ := h
    rfl
  · obtain ⟨a, rows, ts, rfl, hS, hn, hz, hL, q⟩ := h
    refine ⟨_, PSs.nox (pss_cons (ps_set (i := 1) sc_lexemes.nd rfl (.inl rfl) (pe_lst pa_nil))
      (pss_cons (ps_for PassesOwn.never rfl (pi_enum (by rfl) T.b_enumerate (pa_cons (pv 0) pa_nil)) (pg_tup rfl (pgs_cons (pg_name (i := 2) sc_lexemes.nd rfl (.inl rfl)) (pgs_cons (pg_name (i := 3) sc_lexemes.nd rfl (.inl rfl)) pgs_nil)))
        (pss_one (ps_expr (pe_bm PySem.F.plainAttrs_list PySem.F.slot_list_extend PySem.F.type_list_extend mt_extend (pv 1) (pa_cons (pe_call (ok_row_lexemes T) (hr.mono (by decide)) (by rfl) T.d_row_lexemes.g T.d_row_lexemes.fn.kp T.d_row_lexemes.b .nil passL (pa_cons (pv 3) (pa_cons (pe_op op_add (pv 2) pe_int) pa_nil))) pa_nil)))))
      (pss_one (ps_ret (pv 1))))), ?_⟩
    refine ⟨szS (by simp), fun fo hfo => ?_⟩
    refine ⟨_, rfl, a, _, rfl, (same_new hfo).seq hS, for_it (walk_enum (xs := rows.map V.str)) (fun i σ H' => ∃ (y2 y3 : Option V) (us : List V) (t1 t2 : List Tk), σ = [some (.ref a), some (.ref fo), y2, y3] ∧ Same H H' ∧ H' fo = some (.lst us) ∧ Paired (TkT H') us t1 ∧ LexT (i + 1) (rows.drop i) t2 ∧ ts = t1 ++ t2 ∧ us.length ≤ 200 * i)
      ⟨none, none, [], [], ts, rfl, same_new hfo, upd_same, .nil, hL, rfl, by simp⟩ (fun i σ H' _ ⟨_, _, _, _, _, _, sm, _⟩ => sm.seq hS) (fun i x σ H1 H2 hi hP hY => ?_) (fun σ H' hP => ?_)⟩
    · obtain ⟨y2, y3, us, t1, t2, rfl, sm, hf, hp, hl, rfl, hu⟩ := hP
      obtain ⟨T0, x1, x2, rfl, hT0, rfl, ex1, ex2⟩ := hY
      rw [List.length_map] at hi
      have hg : rows[i]? = some rows[i] := List.getElem?_eq_getElem hi
      have ex2' : x2 = .str rows[i] := by
        dsimp only at ex2
        rw [List.getElem?_map, hg] at ex2
        exact (Option.some.inj ex2).symm
      have ex1' : x1 = .int (i : Int) := (Option.some.inj ex1).symm
      subst ex1' ex2'
      refine ⟨T0, _, rfl, .of upd_same, rfl, _, _, rfl, _, _, rfl, rfl, ?_⟩
      have sm1 := same_new (o := HO.tup [.int (i : Int), .str rows[i]]) hT0
      have hf1 := sm1 _ _ hf
      rw [List.drop_eq_getElem_cons hi] at hl
      cases hl with
      | @cons n r rs u1 u2 hl1 hl2 =>
        refine ⟨_, rfl, .inl ⟨rfl, _, .of hf1⟩, _, rfl, _, rfl, _, _, rfl, rfl, rows[i], i + 1, u1, rfl, by have := hz _ (List.getElem_mem hi); omega, hl1, fun p H3 vs hp0 sm3 hp3 hpp hvl => ?_⟩
        have hf3 := sm3 _ _ hf1
        have hpz := hz _ (List.getElem_mem hi)
        refine ⟨fo, p, us, vs, rfl, rfl, hf3, hp3, szS (by omega), _, _, us ++ vs, t1 ++ u1, u2, rfl, same_mut (sm.trans (sm1.trans sm3)) hfo, upd_same, ?_, hl2, by rw [List.append_assoc], by rw [List.length_append]; omega⟩
        exact pt_app (pt_but (pt_same (pt_same hp sm1) sm3) (But.upd (But.refl _ _)) hf3) (pt_but hpp (But.upd (But.refl _ _)) hf3)
    · obtain ⟨y2, y3, us, t1, t2, rfl, sm, hf, hp, hl, rfl, hu⟩ := hP
      rw [List.length_map, List.drop_length] at hl
      cases hl
      rw [List.append_nil] at q
      exact ⟨_, rfl, q fo H' us hfo sm hf hp⟩
/-! ### words and signs of the law's own -/
def spWords : Sp := fun vs H Q _ => vs = [] ∧ ∀ p H', H p = none → Same H H' → H' p = some (.lst (WORDS.map V.str)) → Q (.ref p) H'
theorem ok_L_words (T : Txt K mg) : FnOk P w K mg base (L2.CX P w) 1 (He.ga K "_law_words") (fdAt K (He.ga K "_law_words")) [] spWords := by
  refine T.d_L_words.fn.ok sc_L_words (fun vs H Q E h => ?_) (fun cdv A outer s H vs Q E hr h => ?_)
  · obtain ⟨rfl, _⟩ := h
    rfl
  · obtain ⟨rfl, q⟩ := h
    refine ⟨_, PSs.nox (pss_one (ps_ret (pe_lst (pa_cons pe_str (pa_cons pe_str (pa_cons pe_str (pa_cons pe_str (pa_cons pe_str (pa_cons pe_str (pa_cons pe_str (pa_cons pe_str (pa_cons pe_str pa_nil)))))))))))), ?_⟩
    exact ⟨szS (by simp), fun p hp => q p _ hp (same_new hp) upd_same⟩
def GROW : List (Str × Str) := [("-", ">"), ("=", "="), ("-", "-"), ("<", "-"), ("=", "-"), ("*", "-"), ("+", "-"), ("|", "-"), ("(", "-")]
/-- a list of lists of two texts -/
def Pr (H : Hp) (v : V) (p : Str × Str) : Prop := ∃ a, v = .ref a ∧ H a = some (.lst [.str p.1, .str p.2])
theorem Pr.same {H H' : Hp} {v : V} {p : Str × Str} (h : Pr H v p) (e : Same H H') : Pr H' v p := by
  obtain ⟨a, h1, h2⟩ := h
  exact ⟨a, h1, e _ _ h2⟩
def spGrow : Sp := fun vs H Q _ => vs = [] ∧ ∀ p H' us, H p = none → Same H H' → H' p = some (.lst us) → Paired (Pr H') us GROW → Q (.ref p) H'
theorem ok_L_grow (T : Txt K mg) : FnOk P w K mg base (L2.CX P w) 1 (He.ga K "_law_grow") (fdAt K (He.ga K "_law_grow")) [] spGrow := by
  refine T.d_L_grow.fn.ok sc_L_grow (fun vs H Q E h => ?_) (fun cdv A outer s H vs Q E hr h => ?_)
  · obtain ⟨rfl, _⟩ := h
    rfl
  · obtain ⟨rfl, q⟩ := h
    refine ⟨_, PSs.nox (pss_one (ps_ret (pe_lst (pa_cons (pe_lst (pa_cons pe_str (pa_cons pe_str pa_nil))) (pa_cons (pe_lst (pa_cons pe_str (pa_cons pe_str pa_nil))) (pa_cons (pe_lst (pa_cons pe_str (pa_cons pe_str pa_nil))) (pa_cons (pe_lst (pa_cons pe_str (pa_cons pe_str pa_nil))) (pa_cons (pe_lst (pa_cons pe_str (pa_cons pe_str pa_nil))) (pa_cons (pe_lst (pa_cons pe_str (pa_cons pe_str pa_nil))) (pa_cons (pe_lst (pa_cons pe_str (pa_cons pe_str pa_nil))) (pa_cons (pe_lst (pa_cons pe_str (pa_cons pe_str pa_nil))) (pa_cons (pe_lst (pa_cons pe_str (pa_cons pe_str pa_nil))) pa_nil)))))))))))), ?_⟩
    have two : ∀ (x y : V), [x, y].length ≤ sizeLine := fun _ _ => szS (by simp)
    refine ⟨two _ _, fun p1 h1 => ⟨two _ _, fun p2 h2 => ⟨two _ _, fun p3 h3 => ⟨two _ _, fun p4 h4 => ⟨two _ _, fun p5 h5 => ⟨two _ _, fun p6 h6 => ⟨two _ _, fun p7 h7 => ⟨two _ _, fun p8 h8 => ⟨two _ _, fun p9 h9 => ⟨szS (by simp), fun p hp => ?_⟩⟩⟩⟩⟩⟩⟩⟩⟩⟩
    have s9 := same_new (o := HO.lst [V.ref p1, V.ref p2, V.ref p3, V.ref p4, V.ref p5, V.ref p6, V.ref p7, V.ref p8, V.ref p9]) hp
    have s8 := (same_new (o := HO.lst [V.str "(", V.str "-"]) h9).trans s9
    have s7 := (same_new (o := HO.lst [V.str "|", V.str "-"]) h8).trans s8
    have s6 := (same_new (o := HO.lst [V.str "+", V.str "-"]) h7).trans s7
    have s5 := (same_new (o := HO.lst [V.str "*", V.str "-"]) h6).trans s6
    have s4 := (same_new (o := HO.lst [V.str "=", V.str "-"]) h5).trans s5
    have s3 := (same_new (o := HO.lst [V.str "<", V.str "-"]) h4).trans s4
    have s2 := (same_new (o := HO.lst [V.str "-", V.str "-"]) h3).trans s3
    have s1 := (same_new (o := HO.lst [V.str "=", V.str "="]) h2).trans s2
    have s0 := (same_new (o := HO.lst [V.str "-", V.str ">"]) h1).trans s1
    have f0 : Same H _ := (same_new (o := HO.lst [V.str "-", V.str ">"]) h1).trans ((same_new (o := HO.lst [V.str "=", V.str "="]) h2).trans ((same_new (o := HO.lst [V.str "-", V.str "-"]) h3).trans ((same_new (o := HO.lst [V.str "<", V.str "-"]) h4).trans ((same_new (o := HO.lst [V.str "=", V.str "-"]) h5).trans ((same_new (o := HO.lst [V.str "*", V.str "-"]) h6).trans ((same_new (o := HO.lst [V.str "+", V.str "-"]) h7).trans ((same_new (o := HO.lst [V.str "|", V.str "-"]) h8).trans (same_new (o := HO.lst [V.str "(", V.str "-"]) h9))))))))
    refine q p _ [.ref p1, .ref p2, .ref p3, .ref p4, .ref p5, .ref p6, .ref p7, .ref p8, .ref p9] (f0.free hp) s0 upd_same ?_
    exact .cons ⟨p1, rfl, s1 _ _ upd_same⟩ (.cons ⟨p2, rfl, s2 _ _ upd_same⟩ (.cons ⟨p3, rfl, s3 _ _ upd_same⟩ (.cons ⟨p4, rfl, s4 _ _ upd_same⟩ (.cons ⟨p5, rfl, s5 _ _ upd_same⟩ (.cons ⟨p6, rfl, s6 _ _ upd_same⟩ (.cons ⟨p7, rfl, s7 _ _ upd_same⟩ (.cons ⟨p8, rfl, s8 _ _ upd_same⟩ (.cons ⟨p9, rfl, s9 _ _ upd_same⟩ .nil))))))))
end
end Sw
set_option Elab.async false
set_option linter.all false
set_option maxRecDepth 100000
set_option maxHeartbeats 4000000
namespace Sw
open PySem PySem.Spec PyProof.Rows L2 SX
theorem units65 {A : Around} {k : Nat} (hr : Room k A) : A.units + 65 < cLine := by have := hr.un; omega
theorem eqv_pr (a b c d : Str) : PyData.eqv (.list [.str a, .str b]) (.list [.str c, .str d]) = (a == c && b == d) := by
  simp only [PyData.eqv, PyData.eqvAll, Bool.and_true]
theorem strOk_of {w : Str} (h : ∀ c ∈ tl w, c < 128) : PyData.strOk w = true := by
  unfold PyData.strOk
  rw [← Array.all_toList, List.all_eq_true]
  intro c hc
  exact decide_eq_true (Nat.lt_trans (h c hc) (by decide))
theorem all_lt {p : Nat → Bool} {l : List Nat} (hp : ∀ c, p c = true → c < 128) (h : l.all p = true) : ∀ c ∈ l, c < 128 := fun c hc => hp c (List.all_eq_true.mp h c hc)
theorem sm_lt (c : Nat) (h : isSm c = true) : c < 128 := by have := sm_rng h; omega
theorem fi_lt (c : Nat) (h : isFi c = true) : c < 128 := by have := fi_rng h; omega
theorem words_ok : ∀ w ∈ WORDS, PyData.strOk w = true := by decide +kernel
theorem signs_ok : ∀ w ∈ SIGNS, PyData.strOk w = true := by decide +kernel
theorem tok_ok {so w : Str} (h : TokOk so w) : PyData.strOk w = true := by
  rcases h with ⟨rfl, h1, h2, h3, h4⟩ | ⟨rfl, h1⟩ | ⟨rfl, c, r, e, h1, h2, h3⟩ | ⟨rfl, h1⟩ | ⟨rfl, h1⟩
  · exact strOk_of (all_lt sm_lt h1)
  · exact words_ok w h1
  · refine strOk_of fun d hd => ?_
    rw [e] at hd
    rcases List.mem_cons.mp hd with rfl | hd
    · have := gr_rng h1
      omega
    · exact all_lt sm_lt h2 d hd
  · refine strOk_of fun d hd => ?_
    rcases h1 with e | ⟨c, r, e, h1, _, h3⟩
    · rw [e] at hd
      rcases List.mem_cons.mp hd with rfl | hd
      · decide
      · cases hd
    · rw [e] at hd
      rcases List.mem_cons.mp hd with rfl | hd
      · exact fi_lt _ h1
      · exact all_lt fi_lt h3 d hd
  · exact signs_ok w h1
def TouchOk : Option (Str × Str) → Str → Prop
  | none, _ => True
  | some (ls, lw), w => ∀ rest, Sep ls lw (tl w ++ rest)
theorem tok_head {so w : Str} (h : TokOk so w) (hn : so ≠ "sign") : ∃ c r, tl w = c :: r ∧ isAl c = true := by
  have sm : ∀ {l : List Nat}, l.all isSm = true → 1 ≤ l.length → ∃ c r, l = c :: r ∧ isAl c = true := fun {l} h1 h2 => by
    cases l with
    | nil => simp at h2
    | cons c r =>
      rw [List.all_cons, Bool.and_eq_true] at h1
      exact ⟨c, r, rfl, by unfold isAl; rw [h1.1]; rfl⟩
  rcases h with ⟨rfl, h1, h2, h3, h4⟩ | ⟨rfl, h1⟩ | ⟨rfl, c, r, e, h1, h2, h3⟩ | ⟨rfl, h1⟩ | ⟨rfl, h1⟩
  · exact sm h1 h2
  · exact sm (words_sm w h1).1 (words_sm w h1).2.1
  · exact ⟨c, r, e, by unfold isAl; rw [h1]; simp⟩
  · rcases h1 with e | ⟨c, r, e, h1, _⟩
    · exact ⟨48, [], e, by decide⟩
    · exact ⟨c, r, e, by unfold isAl; rw [h1]; simp⟩
  · exact absurd rfl hn
theorem sign_head : ∀ w ∈ SIGNS, ∃ c r, tl w = c :: r ∧ isAl c = false := by
  have h : ∀ w ∈ SIGNS, (match tl w with | [] => false | c :: _ => !isAl c) = true := by decide +kernel
  intro w hw
  have q := h w hw
  cases e : tl w with
  | nil => rw [e] at q; cases q
  | cons c r =>
    rw [e] at q
    exact ⟨c, r, rfl, by simpa using q⟩
theorem signs_lt : ∀ w ∈ SIGNS, ∀ c ∈ tl w, c < 128 := by decide +kernel
theorem al_not {c : Nat} (h : isAl c = true) : c ≠ 62 ∧ c ≠ 45 ∧ c ≠ 61 := by
  refine ⟨?_, ?_, ?_⟩ <;> (rintro rfl; revert h; decide)
theorem tok_sign {w : Str} (h : TokOk "sign" w) : w ∈ SIGNS := by
  rcases h with ⟨e, _⟩ | ⟨e, _⟩ | ⟨e, _⟩ | ⟨e, _⟩ | ⟨_, h⟩
  · exact absurd e (by decide +kernel)
  · exact absurd e (by decide +kernel)
  · exact absurd e (by decide +kernel)
  · exact absurd e (by decide +kernel)
  · exact h
theorem head_app {p : Nat → Prop} {c : Nat} {r rest : List Nat} (h : ¬ p c) : HeadNot p (c :: r ++ rest) := fun d hd => by
  have e : c = d := Option.some.inj hd
  rw [← e]
  exact h
theorem touch_one {ls lw w : Str} (h : ls ≠ "sign") (hw : w ∈ SIGNS) : TouchOk (some (ls, lw)) w := fun rest => by
  obtain ⟨c, r, e, hc⟩ := sign_head w hw
  rw [e]
  exact ⟨fun _ => head_app (by rw [hc]; decide), fun z => absurd z h⟩
theorem touch_two {so lw w : Str} (h : TokOk so w) (hn : so ≠ "sign") : TouchOk (some ("sign", lw)) w := fun rest => by
  obtain ⟨c, r, e, hc⟩ := tok_head h hn
  obtain ⟨a, b, d⟩ := al_not hc
  rw [e]
  exact ⟨fun z => absurd rfl z, fun _ => ⟨fun _ => head_app (by omega), fun _ => head_app (by omega)⟩⟩
theorem touch_three {lw w : Str} {c : Nat} {r : List Nat} (e : tl w = c :: r) (h : ∀ p ∈ GROW, (p.1 == lw && p.2 == (⟨#[c]⟩ : Str)) = false) : TouchOk (some ("sign", lw)) w := fun rest => by
  have g1 := h ("-", ">") (by decide +kernel)
  have g2 := h ("-", "-") (by decide +kernel)
  have g3 := h ("=", "=") (by decide +kernel)
  have one : ∀ {x : Str} {n : Nat}, x = ⟨#[n]⟩ → (lw = lw) → (c = n → (x == (⟨#[c]⟩ : Str)) = true) := fun {x n} hx _ hc => by
    rw [hx, hc]
    exact beq_self_eq_true _
  rw [e]
  refine ⟨fun z => absurd rfl z, fun _ => ⟨fun z => head_app ?_, fun z => head_app ?_⟩⟩
  · subst z
    rintro (rfl | rfl)
    · rw [beq_self_eq_true, Bool.true_and, one (n := 62) (by decide +kernel) rfl rfl] at g1
      cases g1
    · rw [beq_self_eq_true, Bool.true_and, one (n := 45) (by decide +kernel) rfl rfl] at g2
      cases g2
  · subst z
    rintro rfl
    rw [beq_self_eq_true, Bool.true_and, one (n := 61) (by decide +kernel) rfl rfl] at g3
    cases g3
section
variable {P : Program} {w : World} {K : PySem.W.Frag} {mg : Str → Option Value} {base : Heap}
theorem dp_pr {H : Hp} {v : V} {p : Str × Str} (h : Pr H v p) : Dp K H v (.list [.str p.1, .str p.2]) := by
  obtain ⟨a, rfl, h2⟩ := h
  exact .lst (.of h2) (.cons (.str _) (.cons (.str _) .nil))
theorem dp_prs {H : Hp} : ∀ {us : List V} {ps : List (Str × Str)}, Paired (Pr H) us ps → DpAll K H us (ps.map fun p => .list [.str p.1, .str p.2])
  | _, _, .nil => .nil
  | _, _, .cons h t => .cons (dp_pr h) (dp_prs t)
def lastV (H : Hp) : Option (Str × Str) → V → Prop
  | none, v => v = .non
  | some (ls, lw), v => ∃ l, v = .ref l ∧ H l = some (.lst [.str ls, .str lw]) ∧ TokOk ls lw
def spTouches : Sp := fun vs H Q _ => ∃ (so w : Str) (v : V) (last : Option (Str × Str)), vs = [.str so, .str w, v] ∧ lastV H last v ∧ TokOk so w ∧ w.length ≤ 100 ∧ (∀ ls lw, last = some (ls, lw) → lw.length ≤ 100) ∧
  ∀ b H', Same H H' → (b = true → TouchOk last w) → Q (.bl b) H'
theorem ok_L_touches (T : Txt K mg) : FnOk P w K mg base (L2.CX P w) 2 (He.ga K "_law_touches") (fdAt K (He.ga K "_law_touches")) ["_law_sort", "_law_word_here", "_law_last"] spTouches := by
  refine T.d_L_touches.fn.ok sc_L_touches (fun vs H Q E h => ?_) (fun cdv A outer s H vs Q E hr h => ?_)
  · obtain ⟨_, _, _, _, rfl, _⟩ := h
    rfl
  · obtain ⟨so, w, v, last, rfl, hv, ht, hw, hlw, q⟩ := h
    refine ⟨_, PSs.nox (pss_cons (ps_if (pt_cmpR op_isN (pv 2) pe_non (nomark _))
        (pss_one (ps_ret pe_bl))
        pss_nil)
      (pss_cons (ps_if (pw_and (pt_cmpR op_ne (pe_ix ix_list (pv 2) pe_int (fun _ _ => rfl)) pe_str (nomark _)) (pw_and1 (pt_cmpR op_ne (pv 0) pe_str (nomark _)))).pt
        (pss_one (ps_ret pe_bl))
        pss_nil)
      (pss_cons (ps_if (pw_and (pt_cmpR op_eq (pe_ix ix_list (pv 2) pe_int (fun _ _ => rfl)) pe_str (nomark _)) (pw_and1 (pt_cmpR op_eq (pv 0) pe_str (nomark _)))).pt
        (pss_cons (ps_set (i := 3) sc_L_touches.nd rfl (.inl rfl) (pe_op op_add_str (pe_ix ix_list (pv 2) pe_int (fun _ _ => rfl)) (pv 1)))
      (pss_one (ps_ret (pe_and (pe_cmpR op_notIn_seq (pv 3) (pe_lst (pa_cons pe_str (pa_cons pe_str (pa_cons pe_str pa_nil)))) rfl) (pe_and (pe_not (pe_bm PySem.F.plainAttrs_str PySem.F.slot_str_startswith PySem.F.type_str_startswith mt_startswith (pv 3) (pa_cons pe_str pa_nil))) (pe_one (pe_cmpR (op_notInD (units65 hr)) (pe_lst (pa_cons (pe_ix ix_list (pv 2) pe_int (fun _ _ => rfl)) (pa_cons (pe_ix ix_str (pv 1) pe_int (fun _ _ => rfl)) pa_nil))) (pe_call0 (ok_L_grow T) (hr.mono (by decide)) (by rfl) T.d_L_grow.g T.d_L_grow.fn.kp T.d_L_grow.b .nil passL) rfl)))))))
        pss_nil)
      (pss_one (ps_ret pe_bl))))), ?_⟩
    cases last with
    | none =>
      obtain rfl : v = .non := hv
      exact ⟨_, rfl, rfl, _, rfl, iteT (q true H (Same.refl H) fun _ => True.intro)⟩
    | some p =>
      obtain ⟨ls, lw⟩ := p
      obtain ⟨l, rfl, hl, htl⟩ := hv
      have hlw' := hlw ls lw rfl
      have hix0 : atI [V.str ls, V.str lw] 0 = some (.str ls) := rfl
      have hix1 : atI [V.str ls, V.str lw] 1 = some (.str lw) := rfl
      refine ⟨_, rfl, rfl, _, rfl, iteF ?_⟩
      refine ⟨_, rfl, l, _, 0, _, rfl, rfl, .of hl, hix0, rfl, _, rfl, ?_⟩
      by_cases e1 : ls = "sign"
      · subst e1
        rw [show (!decide (V.str (Str.ofString "sign") = V.str "sign")) = false by simp]
        refine iteF (iteF ⟨_, rfl, l, _, 0, _, rfl, rfl, .of hl, hix0, rfl, _, rfl, ?_⟩)
        rw [decide_eq_true rfl]
        refine iteT ⟨_, rfl, rfl, _, rfl, ?_⟩
        by_cases e2 : so = "sign"
        · subst e2
          rw [decide_eq_true rfl]
          have hws := tok_sign ht
          obtain ⟨c, r, ec, hc⟩ := sign_head w hws
          have hat : atI (tl w) 0 = some c := atI_nat (j := 0) (by rw [ec]; rfl)
          refine iteT ⟨_, rfl, l, _, 1, _, rfl, rfl, .of hl, hix1, _, rfl, lw, w, rfl, rfl, szS (by omega), ?_⟩
          refine ⟨_, rfl, szS (by simp), fun p1 hp1 => ?_⟩
          have s1 := same_new (o := HO.lst [V.str "-->", V.str "--", V.str "->>"]) hp1
          refine ⟨p1, _, rfl, .inl (.of upd_same), rfl, rfl, _, rfl, ite2 (fun e3 => ?_) (fun e3 => q false _ s1 fun z => by cases z)⟩
          refine ⟨_, rfl, rfl, lw ++ w, _, rfl, rfl, _, rfl, _, rfl, ite2 (fun e4 => ?_) (fun e4 => q false _ s1 fun z => by cases z)⟩
          refine ⟨_, rfl, l, _, 1, _, rfl, rfl, .of (s1 _ _ hl), hix1, _, rfl, w, _, c, rfl, rfl, szS (by omega), hat, szS (by simp), fun p2 hp2 => ?_⟩
          have s2 := same_new (o := HO.lst [V.str lw, V.str ⟨#[c]⟩]) hp2
          refine ⟨rfl, fun p3 H3 us hp3 s3 h3 hpr => ?_⟩
          refine ⟨.list [.str lw, .str ⟨#[c]⟩], _, .lst (.of (s3 _ _ upd_same)) (.cons (.str _) (.cons (.str _) .nil)), .lst (.of h3) (dp_prs hpr), ?_, by decide +kernel, ?_⟩
          · have k1 := tok_ok htl
            have k2 : PyData.strOk (⟨#[c]⟩ : Str) = true := strOk_of fun d hd => by
              have e : d = c := by simpa [tl] using hd
              rw [e]
              have k3 := signs_lt w hws c (by rw [ec]; exact List.mem_cons_self ..)
              exact k3
            simp [SeqAt.shaped, PyData.canLay0, PyData.canLayAll0, PyData.depth, PyData.depthAll, k1, k2]
          · refine q _ _ (s1.trans (s2.trans s3)) fun z => touch_three ec fun p hp => ?_
            rw [Bool.not_eq_true'] at z
            have z2 := List.any_eq_false.mp z (.list [.str p.1, .str p.2]) (List.mem_map.mpr ⟨p, hp, rfl⟩)
            rw [eqv_pr] at z2
            simpa using z2
        · rw [decide_eq_false (fun z => e2 (V.str.inj z))]
          exact iteF (q true H (Same.refl H) fun _ => touch_two ht e2)
      · rw [show (!decide (V.str ls = V.str "sign")) = true by rw [decide_eq_false (fun z => e1 (V.str.inj z))]; rfl]
        refine iteT ⟨_, rfl, rfl, _, rfl, ?_⟩
        by_cases e2 : so = "sign"
        · subst e2
          rw [show (!decide (V.str (Str.ofString "sign") = V.str "sign")) = false by simp]
          refine iteF ⟨_, rfl, l, _, 0, _, rfl, rfl, .of hl, hix0, rfl, _, rfl, ?_⟩
          rw [decide_eq_false (fun z => e1 (V.str.inj z))]
          exact iteF (iteF (q true H (Same.refl H) fun _ => touch_one e1 (tok_sign ht)))
        · rw [show (!decide (V.str so = V.str "sign")) = true by rw [decide_eq_false (fun z => e2 (V.str.inj z))]; rfl]
          exact iteT (q false H (Same.refl H) fun z => by cases z)
end
end Sw
set_option Elab.async false
set_option linter.all false
set_option maxRecDepth 100000
set_option maxHeartbeats 4000000
namespace Sw
open PySem PySem.Spec PyProof.Rows L2 SX
/-! ### a drawn word -/
def smB (w : Str) : Bool := (tl w).all isSm && (decide (1 ≤ (tl w).length) && decide ((tl w).length ≤ 8))
theorem tok_nw {w : Str} (h : smB w = true) : TokOk (if w ∈ WORDS then "word" else "name") w := by
  unfold smB at h
  rw [Bool.and_eq_true, Bool.and_eq_true, decide_eq_true_eq, decide_eq_true_eq] at h
  by_cases e : w ∈ WORDS
  · rw [if_pos e]
    exact .inr (.inl ⟨rfl, e⟩)
  · rw [if_neg e]
    exact .inl ⟨rfl, h.1, h.2.1, h.2.2, e⟩
def mkB (w : Str) : Bool := match tl w with
  | c :: r => isGr c && (r.all isSm && decide (r.length ≤ 7))
  | [] => false
theorem tok_mk {w : Str} (h : mkB w = true) : TokOk "maker" w := by
  unfold mkB at h
  cases e : tl w with
  | nil => rw [e] at h; cases h
  | cons c r =>
    rw [e] at h
    simp only [Bool.and_eq_true, decide_eq_true_eq] at h
    exact .inr (.inr (.inl ⟨rfl, c, r, e, h.1, h.2.1, h.2.2⟩))
def nuB (w : Str) : Bool := match tl w with
  | c :: r => isFi c && r.all isFi && (decide (c ≠ 48) || decide (r = []))
  | [] => false
theorem tok_nu {w : Str} (h : nuB w = true) : TokOk "number" w := by
  unfold nuB at h
  cases e : tl w with
  | nil => rw [e] at h; cases h
  | cons c r =>
    rw [e] at h
    simp only [Bool.and_eq_true, Bool.or_eq_true, decide_eq_true_eq] at h
    refine .inr (.inr (.inr (.inl ⟨rfl, ?_⟩)))
    by_cases e0 : c = 48
    · rcases h.2 with h2 | h2
      · exact absurd e0 h2
      · left
        rw [e, e0, h2]
    · exact .inr ⟨c, r, e, h.1.1, e0, h.1.2⟩
/-- an item of a written list of texts -/
theorem pick {L : List Str} {r : Int} (h0 : 0 ≤ r) (h1 : r < (L.length : Int)) : ∃ w, w ∈ L ∧ atI (L.map V.str) r = some (.str w) := by
  obtain ⟨n, rfl⟩ := Int.eq_ofNat_of_zero_le h0
  have hn : n < L.length := by omega
  refine ⟨L[n], List.getElem_mem hn, atI_nat ?_⟩
  rw [List.getElem?_map, List.getElem?_eq_getElem hn]
  rfl
theorem bool_ix (b : Bool) (x y : V) : atI [x, y] (if b = true then 1 else 0) = some (if b = true then y else x) := by
  cases b <;> rfl
def L1 : List Str := ["x", "f", "in", "ab", "lets", "ofa", "datas", "abcdefgh", "e", "then"]
def L2' : List Str := ["A", "Cons", "True", "Abcdefgh", "In", "Z"]
def L3 : List Str := ["0", "7", "10", "42", "1" ++ S (List.replicate 29 (tl "0")).flatten, "905"]
theorem l1_ok : ∀ w ∈ L1, smB w = true ∧ w.length ≤ 30 := by decide +kernel
theorem l2_ok : ∀ w ∈ L2', mkB w = true ∧ w.length ≤ 30 := by decide +kernel
theorem l3_ok : ∀ w ∈ L3, nuB w = true ∧ w.length ≤ 30 := by decide +kernel
theorem words_len : ∀ w ∈ WORDS, w.length ≤ 30 := by decide +kernel
theorem signs_len : ∀ w ∈ SIGNS, w.length ≤ 30 := by decide +kernel
section
variable {P : Program} {w : World} {K : PySem.W.Frag} {mg : Str → Option Value} {base : Heap}
theorem join_one (ys : List Str) : Txt.join "" ys = S (ys.map tl).flatten := by
  have e0 : (Str.ofString "") = S [] := by decide +kernel
  have h := SX.join_S [] (ys.map tl)
  rw [List.map_map] at h
  have e1 : (S ∘ tl : Str → Str) = id := funext fun x => S_tl' x
  rw [e1, List.map_id] at h
  rw [e0, h]
  congr 1
  have : ∀ l : List (List Nat), TL.joinL [] l = l.flatten := by
    intro l
    induction l with
    | nil => rfl
    | cons x l ih =>
      cases l with
      | nil => simp [TL.joinL]
      | cons y l =>
        rw [List.flatten_cons, ← ih]
        rfl
  rw [this]
def spWord : Sp := fun vs H Q _ => ∃ (pu : Addr) (n : Nat), vs = [.ref pu] ∧ PuOk H pu n ∧ n ≤ 1000000 ∧
  ∀ p H' so w, H p = none → But pu H H' → PuOk H' pu (n + 20) → H' p = some (.lst [.str so, .str w]) → TokOk so w → w.length ≤ 30 → Q (.ref p) H'
theorem ok_L_word (T : Txt K mg) : FnOk P w K mg base (L2.CX P w) 3 (He.ga K "_law_word") (fdAt K (He.ga K "_law_word")) ["_law_purse_here"] spWord := by
  refine T.d_L_word.fn.ok sc_L_word (fun vs H Q E h => ?_) (fun cdv A outer s H vs Q E hr h => ?_)
  · obtain ⟨_, _, rfl, _⟩ := h
    rfl
  · obtain ⟨pu, n, rfl, hpu, hn, q⟩ := h
    refine ⟨_, PSs.nox (pss_cons (ps_set (i := 1) sc_L_word.nd rfl (.inl rfl) (pe_call (ok_L_take T) (hr.mono (by decide)) (by rfl) T.d_L_take.g T.d_L_take.fn.kp T.d_L_take.b .nil passL (pa_cons (pv 0) (pa_cons pe_int pa_nil))))
      (pss_cons (ps_set (i := 2) sc_L_word.nd rfl (.inr rfl) pe_str)
      (pss_cons (ps_if (pt_cmpR op_lt (pv 1) pe_int (nomark _))
        (pss_cons (ps_set (i := 3) sc_L_word.nd rfl (.inl rfl) (pe_ix ix_list (pe_lst (pa_cons pe_str (pa_cons pe_str (pa_cons pe_str (pa_cons pe_str (pa_cons pe_str (pa_cons pe_str (pa_cons pe_str (pa_cons pe_str (pa_cons pe_str (pa_cons pe_str pa_nil))))))))))) (pe_call (ok_L_take T) (hr.mono (by decide)) (by rfl) T.d_L_take.g T.d_L_take.fn.kp T.d_L_take.b .nil passL (pa_cons (pv 0) (pa_cons pe_int pa_nil))) (fun _ _ => rfl)))
      (pss_one (ps_ret (pe_lst (pa_cons (pe_ix ix_list (pe_lst (pa_cons pe_str (pa_cons pe_str pa_nil))) (pe_callTy call_int1 (by rfl) T.b_int (by decide +kernel) (pa_cons (pe_cmpR op_in_seq (pv 3) (pe_call0 (ok_L_words T) (hr.mono (by decide)) (by rfl) T.d_L_words.g T.d_L_words.fn.kp T.d_L_words.b .nil passL) rfl) pa_nil)) (fun _ _ => rfl)) (pa_cons (pv 3) pa_nil))))))
        pss_nil)
      (pss_cons (ps_if (pt_cmpR op_eq (pv 1) pe_int (nomark _))
        (pss_one (ps_ret (pe_lst (pa_cons pe_str (pa_cons (pe_ix ix_list (pe_lst (pa_cons pe_str (pa_cons pe_str (pa_cons pe_str (pa_cons pe_str (pa_cons pe_str (pa_cons pe_str pa_nil))))))) (pe_call (ok_L_take T) (hr.mono (by decide)) (by rfl) T.d_L_take.g T.d_L_take.fn.kp T.d_L_take.b .nil passL (pa_cons (pv 0) (pa_cons pe_int pa_nil))) (fun _ _ => rfl)) pa_nil)))))
        pss_nil)
      (pss_cons (ps_if (pt_cmpR op_eq (pv 1) pe_int (nomark _))
        (pss_one (ps_ret (pe_lst (pa_cons pe_str (pa_cons (pe_ix ix_list (pe_lst (pa_cons pe_str (pa_cons pe_str (pa_cons pe_str (pa_cons pe_str (pa_cons (pe_op op_add_str pe_str (pe_op op_mulS pe_str pe_int)) (pa_cons pe_str pa_nil))))))) (pe_call (ok_L_take T) (hr.mono (by decide)) (by rfl) T.d_L_take.g T.d_L_take.fn.kp T.d_L_take.b .nil passL (pa_cons (pv 0) (pa_cons pe_int pa_nil))) (fun _ _ => rfl)) pa_nil)))))
        pss_nil)
      (pss_cons (ps_if (pt_cmpR op_eq (pv 1) pe_int (nomark _))
        (pss_cons (ps_set (i := 3) sc_L_word.nd rfl (.inl rfl) (pe_ix ix_list (pe_call0 (ok_L_words T) (hr.mono (by decide)) (by rfl) T.d_L_words.g T.d_L_words.fn.kp T.d_L_words.b .nil passL) (pe_call (ok_L_take T) (hr.mono (by decide)) (by rfl) T.d_L_take.g T.d_L_take.fn.kp T.d_L_take.b .nil passL (pa_cons (pv 0) (pa_cons pe_int pa_nil))) (fun _ _ => rfl)))
      (pss_one (ps_ret (pe_lst (pa_cons pe_str (pa_cons (pv 3) pa_nil))))))
        pss_nil)
      (pss_cons (ps_if (pt_cmpR op_eq (pv 1) pe_int (nomark _))
        (pss_cons (ps_set (i := 4) sc_L_word.nd rfl (.inl rfl) (pe_join pe_str (pe_lc (own := [("_law_k", 5)]) (g := gName 5) rfl sc_L_word.nd (pi_range1 (by rfl) T.b_range (pa_cons (pe_op op_add pe_int (pe_call (ok_L_take T) (hr.mono (by decide)) (by rfl) T.d_L_take.g T.d_L_take.fn.kp T.d_L_take.b .nil passL (pa_cons (pv 0) (pa_cons pe_int pa_nil)))) pa_nil)) (blkOk_by (own := [("_law_k", 5)]) (N := ["_law_purse_here", "_law_way", "_law_small", "_law_sign", "_law_stem", "_law_k"]) (sc := defScope s_L_word) (by decide +kernel)) (fun _ _ _ _ _ => (pg_name (i := 5) sc_L_word.nd rfl (.inl rfl))) (fun _ _ _ _ _ => pts_nil) (fun _ _ _ _ _ => (pe_ix ix_str (pv 2) (pe_call (ok_L_take T) (hr.mono (by decide)) (by rfl) T.d_L_take.g T.d_L_take.fn.kp T.d_L_take.b .nil passL (pa_cons (pv 0) (pa_cons pe_int pa_nil))) (fun _ _ => rfl))))))
      (pss_one (ps_ret (pe_lst (pa_cons (pe_ix ix_list (pe_lst (pa_cons pe_str (pa_cons pe_str pa_nil))) (pe_callTy call_int1 (by rfl) T.b_int (by decide +kernel) (pa_cons (pe_cmpR op_in_seq (pv 4) (pe_call0 (ok_L_words T) (hr.mono (by decide)) (by rfl) T.d_L_words.g T.d_L_words.fn.kp T.d_L_words.b .nil passL) rfl) pa_nil)) (fun _ _ => rfl)) (pa_cons (pv 4) pa_nil))))))
        pss_nil)
      (pss_one (ps_ret (pe_lst (pa_cons pe_str (pa_cons (pe_ix ix_list (pe_lst (pa_cons pe_str (pa_cons pe_str (pa_cons pe_str (pa_cons pe_str (pa_cons pe_str (pa_cons pe_str (pa_cons pe_str (pa_cons pe_str (pa_cons pe_str (pa_cons pe_str (pa_cons pe_str pa_nil)))))))))))) (pe_call (ok_L_take T) (hr.mono (by decide)) (by rfl) T.d_L_take.g T.d_L_take.fn.kp T.d_L_take.b .nil passL (pa_cons (pv 0) (pa_cons pe_int pa_nil))) (fun _ _ => rfl)) pa_nil)))))))))))), ?_⟩
    have ptr : ∀ {H : Hp} {k : Nat}, PuOk H pu k → ∃ xs, H pu = some (.lst xs) := fun ⟨a, b, c, h, _⟩ => ⟨_, h⟩
    have fin : ∀ (H1 : Hp) (so x : Str) (p : Addr) (k : Nat), H1 p = none → But pu H H1 → PuOk H1 pu (n + k) → k ≤ 20 → TokOk so x → x.length ≤ 30 → Q (.ref p) (upd H1 p (.lst [.str so, .str x])) := fun H1 so x p k hp bt hk hk2 ht hx => by
      have hne : p ≠ pu := fun z => by
        obtain ⟨xs, h⟩ := ptr hk
        rw [z, h] at hp
        cases hp
      exact q p _ so x (bt.free hne hp) (bt.new hp) ((hk.same (same_new hp)).mono (by omega)) upd_same ht hx
    refine ⟨_, rfl, pu, 8, n, rfl, by decide, by decide, hpu, by omega, fun way H1 w0 w1 bt1 fr1 hpu1 => ?_⟩
    refine ⟨_, rfl, way, 3, rfl, rfl, _, rfl, ite2 (fun e1 => ?_) (fun e1 => ?_)⟩
    · -- a name or a word of ten
      refine ⟨szS (by simp), fun p1 hp1 => ?_⟩
      refine ⟨_, rfl, pu, 10, n + 1, rfl, by decide, by decide, hpu1.same (same_new hp1), by omega, fun r H2 r0 r1 bt2 fr2 hpu2 => ?_⟩
      have ne1 : p1 ≠ pu := fun z => by
        obtain ⟨xs, h⟩ := ptr hpu1
        rw [z, h] at hp1
        cases hp1
      obtain ⟨x, hx, hat⟩ := pick (L := L1) r0 (by exact r1)
      refine ⟨p1, _, r, _, rfl, rfl, .of (bt2 _ _ ne1 upd_same), hat, ?_⟩
      refine ⟨szS (by simp), fun p2 hp2 => ?_⟩
      refine ⟨_, rfl, rfl, fun p3 H3 hp3 s3 h3 => ?_⟩
      refine ⟨p3, _, rfl, .inl (.of h3), rfl, rfl, .inr ⟨_, rfl, ?_⟩⟩
      rw [show (if false = true then !inV (.str x) (WORDS.map V.str) else inV (.str x) (WORDS.map V.str)) = decide (x ∈ WORDS) from in_strs x WORDS]
      refine ⟨p2, _, _, _, rfl, rfl, .of (s3 _ _ upd_same), bool_ix _ _ _, _, rfl, szS (by simp), fun p hp => ?_⟩
      have ht := tok_nw (l1_ok x hx).1
      have eV : (if decide (x ∈ WORDS) = true then V.str "word" else V.str "name") = V.str (if x ∈ WORDS then "word" else "name") := by
        by_cases e : x ∈ WORDS
        · rw [if_pos e, if_pos (decide_eq_true e)]
        · rw [if_neg e, if_neg (fun z => e (of_decide_eq_true z))]
      rw [eV]
      exact fin H3 _ x p 2 hp ((bt1.new hp1).trans (bt2.trans (But.of ((same_new hp2).trans s3)))) (hpu2.same ((same_new hp2).trans s3)) (by omega) ht (l1_ok x hx).2
    refine ⟨_, rfl, rfl, _, rfl, ite2 (fun e2 => ?_) (fun e2 => ?_)⟩
    · -- a maker
      refine ⟨szS (by simp), fun p1 hp1 => ?_⟩
      refine ⟨_, rfl, pu, 6, n + 1, rfl, by decide, by decide, hpu1.same (same_new hp1), by omega, fun r H2 r0 r1 bt2 fr2 hpu2 => ?_⟩
      have ne1 : p1 ≠ pu := fun z => by
        obtain ⟨xs, h⟩ := ptr hpu1
        rw [z, h] at hp1
        cases hp1
      obtain ⟨x, hx, hat⟩ := pick (L := L2') r0 (by exact r1)
      refine ⟨p1, _, r, _, rfl, rfl, .of (bt2 _ _ ne1 upd_same), hat, szS (by simp), fun p hp => ?_⟩
      exact fin H2 _ x p 2 hp ((bt1.new hp1).trans bt2) hpu2 (by omega) (tok_mk (l2_ok x hx).1) (l2_ok x hx).2
    refine ⟨_, rfl, rfl, _, rfl, ite2 (fun e3 => ?_) (fun e3 => ?_)⟩
    · -- a number
      refine ⟨tl "0", 29, congrArg V.str (S_tl' _).symm, rfl, by decide +kernel, by decide, _, _, rfl, rfl, szS (by decide +kernel), szS (by simp), fun p1 hp1 => ?_⟩
      refine ⟨_, rfl, pu, 6, n + 1, rfl, by decide, by decide, hpu1.same (same_new hp1), by omega, fun r H2 r0 r1 bt2 fr2 hpu2 => ?_⟩
      have ne1 : p1 ≠ pu := fun z => by
        obtain ⟨xs, h⟩ := ptr hpu1
        rw [z, h] at hp1
        cases hp1
      obtain ⟨x, hx, hat⟩ := pick (L := L3) r0 (by exact r1)
      refine ⟨p1, _, r, _, rfl, rfl, .of (bt2 _ _ ne1 upd_same), hat, szS (by simp), fun p hp => ?_⟩
      exact fin H2 _ x p 2 hp ((bt1.new hp1).trans bt2) hpu2 (by omega) (tok_nu (l3_ok x hx).1) (l3_ok x hx).2
    refine ⟨_, rfl, rfl, _, rfl, ite2 (fun e4 => ?_) (fun e4 => ?_)⟩
    · -- a word
      refine ⟨rfl, fun p1 H1' hp1 s1 h1 => ?_⟩
      refine ⟨_, rfl, pu, 9, n + 1, rfl, by decide, by decide, hpu1.same s1, by omega, fun r H2 r0 r1 bt2 fr2 hpu2 => ?_⟩
      have ne1 : p1 ≠ pu := fun z => by
        obtain ⟨xs, h⟩ := ptr hpu1
        rw [z, h] at hp1
        cases hp1
      obtain ⟨x, hx, hat⟩ := pick (L := WORDS) r0 (by exact r1)
      refine ⟨p1, _, r, _, rfl, rfl, .of (bt2 _ _ ne1 h1), hat, _, rfl, szS (by simp), fun p hp => ?_⟩
      exact fin H2 _ x p 2 hp (bt1.trans ((But.of s1).trans bt2)) hpu2 (by omega) (.inr (.inl ⟨rfl, hx⟩)) (words_len x hx)
    refine ⟨_, rfl, rfl, _, rfl, ite2 (fun e5 => ?_) (fun e5 => ?_)⟩
    · -- a stem of letters
      refine ⟨⟨_, rfl⟩, _, rfl, pu, 8, n + 1, rfl, by decide, by decide, hpu1, by omega, fun r H2 r0 r1 bt2 fr2 hpu2 => ?_⟩
      obtain ⟨k, rfl⟩ := Int.eq_ofNat_of_zero_le r0
      refine ⟨_, _, rfl, rfl, 1 + (k : Int), rfl, by omega, by omega, fun D hD => ?_⟩
      have neD : D ≠ pu := fun z => by
        obtain ⟨xs, h⟩ := ptr hpu2
        rw [z, h] at hD
        cases hD
      refine lc_range (lo := 0) (n := (1 + (k : Int)).toNat) (fun i H' => ∃ ys : List Str, H' D = some (.lst (ys.map V.str)) ∧ ys.length = i ∧ (∀ y ∈ ys, ∃ c, tl y = [c] ∧ isSm c = true) ∧ But pu H2 H' ∧ PuOk H' pu (n + 2 + i))
        ⟨[], upd_same, rfl, (fun _ h => by cases h), (But.refl _ _).new hD, hpu2.same (same_new hD)⟩ (fun i H' hi hP => ?_) (fun H' hP => ?_)
      · obtain ⟨ys, hD', hyl, hya, bt', hpu'⟩ := hP
        refine ⟨rfl, _, rfl, _, rfl, pu, 26, n + 2 + i, rfl, by decide, by decide, hpu', by omega, fun r' H3 r0' r1' bt3 fr3 hpu3 => ?_⟩
        obtain ⟨m, rfl⟩ := Int.eq_ofNat_of_zero_le r0'
        have hm : m < 26 := by omega
        have hsl : (tl "abcdefghijklmnopqrstuvwxyz").length = 26 := by decide +kernel
        have hc : (tl "abcdefghijklmnopqrstuvwxyz")[m]? = some (97 + m) := by
          have e : tl "abcdefghijklmnopqrstuvwxyz" = List.range' 97 26 := by decide +kernel
          rw [e, List.getElem?_range' hm]
          simp
        refine ⟨_, _, 97 + m, rfl, rfl, szS (by decide +kernel), atI_nat hc, ys.map V.str, bt3 _ _ neD hD', szL (by rw [List.length_map]; omega), ys ++ [⟨#[97 + m]⟩], ?_, by simp [hyl], fun y hy => ?_, ?_, ?_⟩
        · rw [upd_same, List.map_append]
          rfl
        · rcases List.mem_append.mp hy with hy | hy
          · exact hya y hy
          · have e : y = ⟨#[97 + m]⟩ := by simpa using hy
            rw [e]
            exact ⟨97 + m, rfl, by unfold isSm; rw [decide_eq_true (by omega), decide_eq_true (by omega)]; rfl⟩
        · intro b o hb ho
          rw [upd_ne (ne_of_none ho hD)]
          exact (bt'.trans bt3) b o hb ho
        · have h3 := hpu3
          obtain ⟨a, b, c, g1, g2, g3, g4, g5⟩ := h3
          exact ⟨a, b, c, by rw [upd_ne neD.symm]; exact g1, g2, g3, g4, by omega⟩
      · obtain ⟨ys, hD', hyl, hya, bt', hpu'⟩ := hP
        have hfl : ∀ {ys : List Str}, (∀ y ∈ ys, ∃ c, tl y = [c] ∧ isSm c = true) → ((ys.map tl).flatten.all isSm = true ∧ (ys.map tl).flatten.length = ys.length ∧ (ys.map (·.length)).sum = ys.length) := by
          intro ys
          induction ys with
          | nil => intro _; exact ⟨rfl, rfl, rfl⟩
          | cons y ys ih =>
            intro h
            obtain ⟨c, e, hc⟩ := h y (List.mem_cons_self ..)
            obtain ⟨i1, i2, i3⟩ := ih fun z hz => h z (List.mem_cons_of_mem _ hz)
            refine ⟨?_, ?_, ?_⟩
            · rw [List.map_cons, List.flatten_cons, e, List.all_append, i1]
              simp [hc]
            · rw [List.map_cons, List.flatten_cons, e, List.length_append, i2]
              simp [Nat.add_comm]
            · rw [List.map_cons, List.sum_cons, i3, ← tl_len, e]
              simp [Nat.add_comm]
        obtain ⟨f1, f2, f3⟩ := hfl hya
        have hk : ys.length = k + 1 := by rw [hyl]; omega
        refine ⟨_, D, ys, rfl, rfl, .inl (.of hD'), ?_, ?_⟩
        · rw [f3, hk]
          have : (Str.ofString "").length = 0 := by decide +kernel
          rw [this]
          omega
        · rw [join_one]
          have hsm : smB (S (ys.map tl).flatten) = true := by
            unfold smB
            rw [tl_S, f1, f2, hk, decide_eq_true (by omega), decide_eq_true (by omega)]
            rfl
          have ht := tok_nw hsm
          refine ⟨szS (by simp), fun p2 hp2 => ?_⟩
          refine ⟨_, rfl, rfl, fun p3 H3 hp3 s3 h3 => ?_⟩
          refine ⟨p3, _, rfl, .inl (.of h3), rfl, rfl, .inr ⟨_, rfl, ?_⟩⟩
          rw [show (if false = true then !inV (.str (S (ys.map tl).flatten)) (WORDS.map V.str) else inV (.str (S (ys.map tl).flatten)) (WORDS.map V.str)) = decide (S (ys.map tl).flatten ∈ WORDS) from in_strs _ WORDS]
          refine ⟨p2, _, _, _, rfl, rfl, .of (s3 _ _ upd_same), bool_ix _ _ _, _, rfl, szS (by simp), fun p hp => ?_⟩
          have eV : (if decide (S (ys.map tl).flatten ∈ WORDS) = true then V.str "word" else V.str "name") = V.str (if S (ys.map tl).flatten ∈ WORDS then "word" else "name") := by
            by_cases e : S (ys.map tl).flatten ∈ WORDS
            · rw [if_pos e, if_pos (decide_eq_true e)]
            · rw [if_neg e, if_neg (fun z => e (of_decide_eq_true z))]
          rw [eV]
          refine fin H3 _ _ p (2 + (1 + (k : Int)).toNat) hp (bt1.trans (bt2.trans (bt'.trans (But.of ((same_new hp2).trans s3))))) ((hpu'.mono (by omega)).same ((same_new hp2).trans s3)) (by omega) ht ?_
          rw [← tl_len, tl_S, f2]
          omega
    -- a sign
    refine ⟨szS (by simp), fun p1 hp1 => ?_⟩
    refine ⟨_, rfl, pu, 11, n + 1, rfl, by decide, by decide, hpu1.same (same_new hp1), by omega, fun r H2 r0 r1 bt2 fr2 hpu2 => ?_⟩
    have ne1 : p1 ≠ pu := fun z => by
      obtain ⟨xs, h⟩ := ptr hpu1
      rw [z, h] at hp1
      cases hp1
    obtain ⟨x, hx, hat⟩ := pick (L := SIGNS) r0 (by exact r1)
    refine ⟨p1, _, r, _, rfl, rfl, .of (bt2 _ _ ne1 upd_same), hat, szS (by simp), fun p hp => ?_⟩
    exact fin H2 _ x p 2 hp ((bt1.new hp1).trans bt2) hpu2 (by omega) (.inr (.inr (.inr (.inr ⟨rfl, hx⟩)))) (signs_len x hx)
end
end Sw
set_option Elab.async false
set_option linter.all false
set_option maxRecDepth 100000
set_option maxHeartbeats 4000000
namespace Sw
open PySem PySem.Spec PyProof.Rows L2 SX
/-! ### a drawn row -/
/-- a list [(row, column), sort, word] -/
def TkL (H : Hp) (v : V) (t : Tk) : Prop := ∃ a b, v = .ref a ∧ H a = some (.lst [.ref b, .str t.sort, .str t.word]) ∧ H b = some (.tup [.int (t.row : Int), .int (t.col : Int)])
theorem TkL.same {H H' : Hp} {v : V} {t : Tk} (h : TkL H v t) (e : Same H H') : TkL H' v t := by
  obtain ⟨a, b, h1, h2, h3⟩ := h
  exact ⟨a, b, h1, e _ _ h2, e _ _ h3⟩
/-- an address at which no lexeme's parts stand -/
def NoTk (H : Hp) (f : Addr) : Prop := (∀ b x y, H f ≠ some (.lst [.ref b, .str x, .str y])) ∧ ∀ x y, H f ≠ some (.tup [.int x, .int y])
theorem TkL.but {H H' : Hp} {v : V} {t : Tk} {f : Addr} (h : TkL H v t) (e : But f H H') (hf : NoTk H f) : TkL H' v t := by
  obtain ⟨a, b, h1, h2, h3⟩ := h
  exact ⟨a, b, h1, e _ _ (fun z => hf.1 _ _ _ (z ▸ h2)) h2, e _ _ (fun z => hf.2 _ _ (z ▸ h3)) h3⟩
theorem pl_same {H H' : Hp} {us : List V} {ts : List Tk} (h : Paired (TkL H) us ts) (e : Same H H') : Paired (TkL H') us ts := h.mono fun _ _ q => q.same e
theorem pl_but {H H' : Hp} {us : List V} {ts : List Tk} {f : Addr} (h : Paired (TkL H) us ts) (e : But f H H') (hf : NoTk H f) : Paired (TkL H') us ts := h.mono fun _ _ q => q.but e hf
theorem PuOk.noTk {H : Hp} {pu : Addr} {n : Nat} (h : PuOk H pu n) : NoTk H pu := by
  obtain ⟨a, b, c, h1, _⟩ := h
  refine ⟨fun b x y z => ?_, fun x y z => ?_⟩
  · rw [h1] at z
    cases z
  · rw [h1] at z
    cases z
/-- a list of such objects is none itself -/
theorem noTk_refs {H : Hp} {f : Addr} {us : List V} (h : H f = some (.lst us)) (hu : ∀ v ∈ us, ∃ a, v = .ref a) : NoTk H f := by
  refine ⟨fun b x y z => ?_, fun x y z => ?_⟩
  · rw [h] at z
    have e : us = [.ref b, .str x, .str y] := by injection (Option.some.inj z)
    obtain ⟨a, e2⟩ := hu (.str x) (by rw [e]; simp)
    cases e2
  · rw [h] at z
    cases z
theorem pl_refs {H : Hp} : ∀ {us : List V} {ts : List Tk}, Paired (TkL H) us ts → ∀ v ∈ us, ∃ a, v = .ref a
  | _, _, .nil, v, h => by cases h
  | _, _, .cons ⟨a, b, e, _⟩ t, v, h => by
    rcases List.mem_cons.mp h with rfl | h
    · exact ⟨a, e⟩
    · exact pl_refs t v h
def okOf : Option (Str × Str) → List Nat → Prop
  | none => fun _ => True
  | some (ls, lw) => Sep ls lw
theorem okOf_blank (o : Option (Str × Str)) (r : List Nat) : okOf o (32 :: r) := by
  cases o with
  | none => exact True.intro
  | some p => exact Sep.blank p.1 p.2 r
theorem okOf_nil (o : Option (Str × Str)) : okOf o [] := by
  cases o with
  | none => exact True.intro
  | some p => exact Sep.nil p.1 p.2
theorem okOf_touch {o : Option (Str × Str)} {w : Str} (h : TouchOk o w) (r : List Nat) : okOf o (tl w ++ r) := by
  cases o with
  | none => exact True.intro
  | some p => exact h r
theorem tok_lt {so w : Str} (h : TokOk so w) : ∀ c ∈ tl w, c < 128 := by
  rcases h with ⟨rfl, h1, h2, h3, h4⟩ | ⟨rfl, h1⟩ | ⟨rfl, c, r, e, h1, h2, h3⟩ | ⟨rfl, h1⟩ | ⟨rfl, h1⟩
  · exact all_lt sm_lt h1
  · exact all_lt sm_lt (words_sm w h1).1
  · intro d hd
    rw [e] at hd
    rcases List.mem_cons.mp hd with rfl | hd
    · have := gr_rng h1
      omega
    · exact all_lt sm_lt h2 d hd
  · intro d hd
    rcases h1 with e | ⟨c, r, e, h1, _, h3⟩
    · rw [e] at hd
      rcases List.mem_cons.mp hd with rfl | hd
      · decide
      · cases hd
    · rw [e] at hd
      rcases List.mem_cons.mp hd with rfl | hd
      · exact fi_lt _ h1
      · exact all_lt fi_lt h3 d hd
  · exact signs_lt w h1
theorem tok_sort {so w : Str} (h : TokOk so w) : PyData.strOk so = true ∧ so ≠ "none" := by
  rcases h with ⟨rfl, _⟩ | ⟨rfl, _⟩ | ⟨rfl, _⟩ | ⟨rfl, _⟩ | ⟨rfl, _⟩ <;> exact ⟨by decide +kernel, by decide +kernel⟩
theorem mul_blk (n : Nat) : tl (S (List.replicate n (tl " ")).flatten) = List.replicate n 32 := by
  have e : tl " " = [32] := by decide +kernel
  rw [tl_S, e]
  induction n with
  | zero => rfl
  | succ n ih => rw [List.replicate_succ, List.flatten_cons, ih, List.replicate_succ]; rfl
theorem sp_S : (Str.ofString " ") = S (tl " ") := (S_tl' _).symm
theorem sp_len : (tl " ").length = 1 := by decide +kernel
theorem rep_lt (n : Nat) : ∀ c ∈ List.replicate n 32, c < 128 := fun c h => by
  rw [(List.mem_replicate.mp h).2]
  decide
def L4 : List Str := ["let x", "-", "", "A9 ?"]
theorem l4_ok : ∀ w ∈ L4, (tl w).length ≤ 10 ∧ ∀ c ∈ tl w, c < 128 := by decide +kernel
/-- all that the list comparisons ask of lexemes -/
def TsOk (ts : List Tk) : Prop := ∀ t ∈ ts, PyData.strOk t.sort = true ∧ PyData.strOk t.word = true
section
variable {P : Program} {w : World} {K : PySem.W.Frag} {mg : Str → Option Value} {base : Heap}
def spRow : Sp := fun vs H Q _ => ∃ (pu : Addr) (num steps n : Nat), vs = [.ref pu, .int (num : Int), .int (steps : Int)] ∧ steps ≤ 10 ∧ PuOk H pu n ∧ n ≤ 100000 ∧
  ∀ p fo H' line ts us, H p = none → H fo = none → But pu H H' → PuOk H' pu (n + 1000) → H' p = some (.lst [.str line, .ref fo]) → H' fo = some (.lst us) → Paired (TkL H') us ts → LexR num 0 (tl line) none ts → (tl line).length ≤ 200 → (∀ c ∈ tl line, c < 128) → TsOk ts → us.length ≤ 10 → Q (.ref p) H'
theorem pu_ne {H : Hp} {pu p : Addr} {n : Nat} (h : PuOk H pu n) (hp : H p = none) : p ≠ pu := fun z => by
  obtain ⟨a, b, c, h1, _⟩ := h
  rw [z, h1] at hp
  cases hp
theorem ok_L_row (T : Txt K mg) : FnOk P w K mg base (L2.CX P w) 4 (He.ga K "_law_row") (fdAt K (He.ga K "_law_row")) ["_law_purse_here", "_law_number", "_law_steps"] spRow := by
  refine T.d_L_row.fn.ok sc_L_row (fun vs H Q E h => ?_) (fun cdv A outer s H vs Q E hr h => ?_)
  · obtain ⟨_, _, _, _, rfl, _⟩ := h
    rfl
  · obtain ⟨pu, num, steps, n, rfl, hst, hpu, hn, q⟩ := h
    refine ⟨_, PSs.nox (pss_cons (ps_set (i := 3) sc_L_row.nd rfl (.inl rfl) (pe_op op_mulS pe_str (pe_call (ok_L_take T) (hr.mono (by decide)) (by rfl) T.d_L_take.g T.d_L_take.fn.kp T.d_L_take.b .nil passL (pa_cons (pv 0) (pa_cons pe_int pa_nil)))))
      (pss_cons (ps_set (i := 4) sc_L_row.nd rfl (.inl rfl) (pe_lst pa_nil))
      (pss_cons (ps_set (i := 5) sc_L_row.nd rfl (.inl rfl) pe_non)
      (pss_cons (ps_for PassesOwn.never rfl (pi_range1 (by rfl) T.b_range (pa_cons (pv 2) pa_nil)) (pg_name (i := 6) sc_L_row.nd rfl (.inl rfl))
        (pss_cons (ps_asg (pe_call (ok_L_word T) (hr.mono (by decide)) (by rfl) T.d_L_word.g T.d_L_word.fn.kp T.d_L_word.b .nil passL (pa_cons (pv 0) pa_nil)) (pg_lst rfl (pgs_cons (pg_name (i := 7) sc_L_row.nd rfl (.inl rfl)) (pgs_cons (pg_name (i := 8) sc_L_row.nd rfl (.inl rfl)) pgs_nil))))
      (pss_one (ps_if (pt_cmpR op_lt (pe_callB call_len_str (by rfl) T.b_len PySem.boot_len (pa_cons (pv 3) pa_nil)) pe_int (nomark _))
        (C8.pss_cut (ps_if (pw_or (pt_cmpR op_gt (pe_call (ok_L_take T) (hr.mono (by decide)) (by rfl) T.d_L_take.g T.d_L_take.fn.kp T.d_L_take.b .nil passL (pa_cons (pv 0) (pa_cons pe_int pa_nil))) pe_int (nomark _)) (pw_or1 (pt_not (pt_val (pe_call (ok_L_touches T) (hr.mono (by decide)) (by rfl) T.d_L_touches.g T.d_L_touches.fn.kp T.d_L_touches.b .nil passL (pa_cons (pv 7) (pa_cons (pv 8) (pa_cons (pv 5) pa_nil)))))))).pt
        (pss_one (ps_set (i := 3) sc_L_row.nd rfl (.inl rfl) (pe_op op_add_str (pv 3) (pe_op op_mulS pe_str (pe_op op_add pe_int (pe_call (ok_L_take T) (hr.mono (by decide)) (by rfl) T.d_L_take.g T.d_L_take.fn.kp T.d_L_take.b .nil passL (pa_cons (pv 0) (pa_cons pe_int pa_nil))))))))
        pss_nil)
      (pss_cons (ps_expr (pe_bm PySem.F.plainAttrs_list PySem.F.slot_list_append PySem.F.type_list_append mt_append (pv 4) (pa_cons (pe_lst (pa_cons (pe_tup (pa_cons (pv 1) (pa_cons (pe_op op_add (pe_callB call_len_str (by rfl) T.b_len PySem.boot_len (pa_cons (pv 3) pa_nil)) pe_int) pa_nil))) (pa_cons (pv 7) (pa_cons (pv 8) pa_nil)))) pa_nil)))
      (pss_cons (ps_set (i := 3) sc_L_row.nd rfl (.inl rfl) (pe_op op_add_str (pv 3) (pv 8)))
      (pss_one (ps_set (i := 5) sc_L_row.nd rfl (.inl rfl) (pe_lst (pa_cons (pv 7) (pa_cons (pv 8) pa_nil))))))))
        pss_nil))))
      (pss_cons (ps_set (i := 3) sc_L_row.nd rfl (.inl rfl) (pe_op op_add_str (pv 3) (pe_op op_mulS pe_str (pe_call (ok_L_take T) (hr.mono (by decide)) (by rfl) T.d_L_take.g T.d_L_take.fn.kp T.d_L_take.b .nil passL (pa_cons (pv 0) (pa_cons pe_int pa_nil))))))
      (C8.pss_cut (ps_if (pt_cmpR op_eq (pe_call (ok_L_take T) (hr.mono (by decide)) (by rfl) T.d_L_take.g T.d_L_take.fn.kp T.d_L_take.b .nil passL (pa_cons (pv 0) (pa_cons pe_int pa_nil))) pe_int (nomark _))
        (pss_one (ps_set (i := 3) sc_L_row.nd rfl (.inl rfl) (pe_op op_add_str (pe_op op_add_str (pv 3) pe_str) (pe_ix ix_list (pe_lst (pa_cons pe_str (pa_cons pe_str (pa_cons pe_str (pa_cons pe_str pa_nil))))) (pe_call (ok_L_take T) (hr.mono (by decide)) (by rfl) T.d_L_take.g T.d_L_take.fn.kp T.d_L_take.b .nil passL (pa_cons (pv 0) (pa_cons pe_int pa_nil))) (fun _ _ => rfl)))))
        pss_nil)
      (pss_one (ps_ret (pe_lst (pa_cons (pv 3) (pa_cons (pv 4) pa_nil))))))))))), ?_⟩
    -- blanks ahead
    refine ⟨_, rfl, pu, 9, n, rfl, by decide, by decide, hpu, by omega, fun r H1 r0 r1 bt1 fr1 hpu1 => ?_⟩
    obtain ⟨k, rfl⟩ := Int.eq_ofNat_of_zero_le r0
    refine ⟨tl " ", k, congrArg V.str sp_S, rfl, by rw [sp_len]; omega, by omega, ?_⟩
    refine ⟨szS (by simp), fun fo hfo => ?_⟩
    have nefo := pu_ne hpu1 hfo
    refine ⟨_, rfl, steps, rfl, by omega, by omega, ?_⟩
    refine for_range (lo := 0) (n := (steps : Int).toNat) (fun i σ H' => ∃ (line : Str) (ts : List Tk) (us : List V) (last : Option (Str × Str)) (lv : V) (y6 y7 y8 : Option V),
        σ = [some (.ref pu), some (.int (num : Int)), some (.int (steps : Int)), some (.str line), some (.ref fo), some lv, y6, y7, y8] ∧ But pu H H' ∧ PuOk H' pu (n + 1 + 40 * i) ∧ H' fo = some (.lst us) ∧ Paired (TkL H') us ts ∧
        RowI num (tl line) ts (okOf last) ∧ lastV H' last lv ∧ (∀ ls lw, last = some (ls, lw) → lw.length ≤ 30) ∧ (tl line).length ≤ 100 ∧ (∀ c ∈ tl line, c < 128) ∧ TsOk ts ∧ us.length ≤ i)
      ?_ ?_ ?_
    · refine ⟨_, [], [], none, .non, none, none, none, rfl, bt1.new hfo, hpu1.same (same_new hfo), upd_same, .nil, ?_, rfl, (fun _ _ h => by cases h), ?_, ?_, (fun _ h => by cases h), Nat.zero_le _⟩
      · rw [mul_blk]
        exact RowI.start num k
      · rw [mul_blk, List.length_replicate]
        omega
      · rw [mul_blk]
        exact rep_lt k
    · rintro i σ H' hi ⟨line, ts, us, last, lv, y6, y7, y8, rfl, bt, hp, hf, hpl, hrow, hlv, hlw, hll, hlt, hts, hus⟩
      -- sort, word
      refine ⟨_, rfl, pu, n + 1 + 40 * i, rfl, hp, by omega, fun pw H2 so w hpw bt2 hp2 hw2 htok hwl => ?_⟩
      refine ⟨pw, _, rfl, .of hw2, rfl, _, _, rfl, _, _, rfl, rfl, ?_⟩
      have hpl2 := pl_but hpl bt2 hp.noTk
      have hf2 : H2 fo = some (.lst us) := bt2 _ _ nefo hf
      have hlv2 : lastV H2 last lv := by
        cases last with
        | none => exact hlv
        | some p =>
          obtain ⟨l, e1, e2, e3⟩ := hlv
          refine ⟨l, e1, bt2 _ _ (fun z => ?_) e2, e3⟩
          obtain ⟨a, b, c, h1, _⟩ := hp
          rw [z, h1] at e2
          cases e2
      have hll' : line.length ≤ 100 := by rw [← tl_len]; exact hll
      refine ⟨_, rfl, line, rfl, szS (by omega), _, _, rfl, rfl, _, rfl, ite2 (fun e1 => ?_) (fun e1 => ?_)⟩
      · have e1' := of_decide_eq_true e1
        have hl55 : (tl line).length < 55 := by rw [tl_len]; omega
        -- a blank or none
        refine ⟨fun σ' H' => ∃ (line' : Str) (ok : List Nat → Prop), σ' = [some (.ref pu), some (.int (num : Int)), some (.int (steps : Int)), some (.str line'), some (.ref fo), some lv, some (.int ((0 : Int) + (i : Nat))), some (.str so), some (.str w)] ∧ But pu H H' ∧ PuOk H' pu (n + 1 + 40 * i + 25) ∧ H' fo = some (.lst us) ∧ Paired (TkL H') us ts ∧
            RowI num (tl line') ts ok ∧ (∀ r, ok (tl w ++ r)) ∧ (tl line').length ≤ 58 ∧ (∀ c ∈ tl line', c < 128), ?_, ?_⟩
        · refine ⟨_, rfl, pu, 3, n + 1 + 40 * i + 20, rfl, by decide, by decide, hp2, by omega, fun r3 H3 r30 r31 bt3 fr3 hp3 => ?_⟩
          have hf3 := bt3 _ _ nefo hf2
          have hpl3 := pl_but hpl2 bt3 hp2.noTk
          have hlv3 : lastV H3 last lv := by
            cases last with
            | none => exact hlv2
            | some p =>
              obtain ⟨l, e1, e2, e3⟩ := hlv2
              refine ⟨l, e1, bt3 _ _ (fun z => ?_) e2, e3⟩
              obtain ⟨a, b, c, h1, _⟩ := hp2
              rw [z, h1] at e2
              cases e2
          -- the blanks
          have put : ∀ H4, Same H3 H4 → tAsg (tOp (fun x y H Q => ∃ i j, x = V.str i ∧ y = V.str j ∧ i.length + j.length ≤ sizeLine ∧ Q (.str (i ++ j)) H) (tVar 3) (tOp rMulS (tC (.str " ")) (tOp (rI0 fun i j => V.int (i + j)) (tC (.int 1)) (tCall spTake [] E0 (tCons (tVar 0) (tCons (tC (.int 3)) tNil)))))) (gName 3)
              { nx := fun σ' H' => ∃ (line' : Str) (ok : List Nat → Prop), σ' = [some (.ref pu), some (.int (num : Int)), some (.int (steps : Int)), some (.str line'), some (.ref fo), some lv, some (.int ((0 : Int) + (i : Nat))), some (.str so), some (.str w)] ∧ But pu H H' ∧ PuOk H' pu (n + 1 + 40 * i + 25) ∧ H' fo = some (.lst us) ∧ Paired (TkL H') us ts ∧
                RowI num (tl line') ts ok ∧ (∀ r, ok (tl w ++ r)) ∧ (tl line').length ≤ 58 ∧ (∀ c ∈ tl line', c < 128), rt := Q, bk := fun _ _ => False, ct := fun _ _ => False }
              [some (.ref pu), some (.int (num : Int)), some (.int (steps : Int)), some (.str line), some (.ref fo), some lv, some (.int ((0 : Int) + (i : Nat))), some (.str so), some (.str w)] H4 := fun H4 s4 => by
            refine ⟨_, rfl, _, rfl, pu, 3, n + 1 + 40 * i + 21, rfl, by decide, by decide, hp3.same s4, by omega, fun r5 H5 r50 r51 bt5 fr5 hp5 => ?_⟩
            obtain ⟨m, rfl⟩ := Int.eq_ofNat_of_zero_le r50
            refine ⟨_, _, rfl, rfl, tl " ", m + 1, congrArg V.str sp_S, by show V.int (1 + (m : Int)) = _; rw [show (1 + (m : Int)) = ((m + 1 : Nat) : Int) by omega], by rw [sp_len]; omega, by omega, ?_⟩
            have hml : (S (List.replicate (m + 1) (tl " ")).flatten).length = m + 1 := by rw [← tl_len, mul_blk, List.length_replicate]
            refine ⟨line, _, rfl, rfl, szS (by rw [hml]; omega), _, fun _ => True, rfl, (bt.trans (bt2.trans bt3)).trans ((But.of s4).trans bt5), hp5.mono (by omega), bt5 _ _ nefo (s4 _ _ hf3), pl_but (pl_same hpl3 s4) bt5 (hp3.same s4).noTk, ?_, fun _ => True.intro, ?_, ?_⟩
            · rw [tl_app, mul_blk]
              exact hrow.blanks m (okOf_blank last)
            · rw [tl_app, mul_blk, List.length_append, List.length_replicate]
              omega
            · rw [tl_app, mul_blk]
              intro c hc
              rcases List.mem_append.mp hc with hc | hc
              · exact hlt c hc
              · exact rep_lt _ c hc
          refine ⟨_, _, rfl, rfl, _, rfl, ite2 (fun e3 => iteT (put H3 (Same.refl H3))) (fun e3 => ?_)⟩
          refine ⟨_, rfl, _, rfl, _, rfl, so, w, lv, last, rfl, hlv3, htok, by omega, (fun ls lw e => by have := hlw ls lw e; omega), fun b H4 s4 hb => ?_⟩
          refine ⟨_, rfl, ?_⟩
          cases b with
          | false => exact iteT (put H4 s4)
          | true => exact iteF ⟨line, okOf last, rfl, (bt.trans (bt2.trans bt3)).trans (But.of s4), (hp3.same s4).mono (by omega), s4 _ _ hf3, pl_same hpl3 s4, hrow, okOf_touch (hb rfl), by omega, hlt⟩
        · -- the lexeme
          rintro σ' H3 ⟨line', ok, rfl, bt3, hp3, hf3, hpl3, hrow3, hok3, hl3, hlt3⟩
          have hl3' : line'.length ≤ 58 := by rw [← tl_len]; exact hl3
          refine ⟨_, rfl, .inl ⟨rfl, _, .of hf3⟩, _, rfl, _, rfl, line', rfl, szS (by omega), _, _, rfl, rfl, szS (by simp), fun b hb => ?_⟩
          refine ⟨_, rfl, _, rfl, szS (by simp), fun a ha => ?_⟩
          have sb := same_new (o := HO.tup [V.int (num : Int), V.int ((line'.length : Int) + 1)]) hb
          have sa := same_new (o := HO.lst [V.ref b, V.str so, V.str w]) ha
          have hf5 := sa _ _ (sb _ _ hf3)
          have nba : b ≠ a := fun z => by rw [← z, upd_same] at ha; cases ha
          have nfb : fo ≠ b := ne_of_none hf3 hb
          have nfa : fo ≠ a := ne_of_none (sb _ _ hf3) ha
          have hp5 := hp3.same (sb.trans sa)
          have hpl5 := pl_same hpl3 (sb.trans sa)
          refine ⟨fo, us, .ref a, rfl, rfl, hf5, szL (by omega), ?_⟩
          refine ⟨_, rfl, _, rfl, line', w, rfl, rfl, szS (by omega), ?_⟩
          refine ⟨_, rfl, _, rfl, szS (by simp), fun ll hll2 => ?_⟩
          have hfo5 : NoTk (upd (upd H3 b (.tup [V.int (num : Int), V.int ((line'.length : Int) + 1)])) a (.lst [V.ref b, V.str so, V.str w])) fo := noTk_refs hf5 (pl_refs hpl5)
          have nll : ll ≠ fo := fun z => by rw [z, upd_same] at hll2; cases hll2
          refine ⟨line' ++ w, ts ++ [⟨num, (tl line').length + 1, so, w⟩], us ++ [.ref a], some (so, w), .ref ll, _, _, _, rfl, ?_, ?_, ?_, ?_, ?_, ⟨ll, rfl, upd_same, htok⟩, ?_, ?_, ?_, ?_, ?_⟩
          · -- tracked things stay
            intro x o hx ho
            have h1 := (sb.trans sa) _ _ (bt3 x o hx ho)
            have h2 : x ≠ fo := ne_of_none (bt1 x o hx ho) hfo
            have h3 : upd (upd (upd H3 b (.tup [V.int (num : Int), V.int ((line'.length : Int) + 1)])) a (.lst [V.ref b, V.str so, V.str w])) fo (.lst (us ++ [V.ref a])) x = some o := by rw [upd_ne h2]; exact h1
            exact (same_new hll2) _ _ h3
          · have h1 : PuOk (upd (upd (upd H3 b (.tup [V.int (num : Int), V.int ((line'.length : Int) + 1)])) a (.lst [V.ref b, V.str so, V.str w])) fo (.lst (us ++ [V.ref a]))) pu (n + 1 + 40 * i + 25) := hp5.but (But.upd (But.refl fo _)) nefo.symm
            exact (h1.same (same_new hll2)).mono (by omega)
          · exact (same_new hll2) _ _ upd_same
          · refine pl_same (Paired.snoc (pl_but hpl5 (But.upd (But.refl _ _)) hfo5) ⟨a, b, rfl, ?_, ?_⟩) (same_new hll2)
            · rw [upd_ne nfa.symm, upd_same]
            · rw [upd_ne nfb.symm, upd_ne nba, upd_same, tl_len]
              rfl
          · rw [tl_app]
            exact hrow3.tok htok hok3 (tok_sort htok).2
          · intro ls lw e
            cases e
            exact hwl
          · rw [tl_app, List.length_append, tl_len w]
            omega
          · rw [tl_app]
            intro c hc
            rcases List.mem_append.mp hc with hc | hc
            · exact hlt3 c hc
            · exact tok_lt htok c hc
          · intro t ht
            rcases List.mem_append.mp ht with ht | ht
            · exact hts t ht
            · have e : t = ⟨num, (tl line').length + 1, so, w⟩ := by simpa using ht
              rw [e]
              exact ⟨(tok_sort htok).1, tok_ok htok⟩
          · rw [List.length_append]
            simp
            exact hus
      · exact ⟨line, ts, us, last, lv, _, _, _, rfl, bt.trans bt2, hp2.mono (by omega), hf2, hpl2, hrow, hlv2, hlw, hll, hlt, hts, by omega⟩
    · rintro σ H' ⟨line, ts, us, last, lv, y6, y7, y8, rfl, bt, hp, hf, hpl, hrow, hlv, hlw, hll, hlt, hts, hus⟩
      have hst2 : (steps : Int).toNat = steps := by omega
      rw [hst2] at hp hus
      have hll' : line.length ≤ 100 := by rw [← tl_len]; exact hll
      -- blanks behind
      refine ⟨_, rfl, _, rfl, pu, 3, n + 1 + 40 * steps, rfl, by decide, by decide, hp, by omega, fun r2 H2 r20 r21 bt2 fr2 hp2 => ?_⟩
      obtain ⟨m, rfl⟩ := Int.eq_ofNat_of_zero_le r20
      refine ⟨tl " ", m, congrArg V.str sp_S, rfl, by rw [sp_len]; omega, by omega, ?_⟩
      have hml : (S (List.replicate m (tl " ")).flatten).length = m := by rw [← tl_len, mul_blk, List.length_replicate]
      refine ⟨line, _, rfl, rfl, szS (by rw [hml]; omega), ?_⟩
      have hf2 := bt2 _ _ nefo hf
      have hpl2 := pl_but hpl bt2 hp.noTk
      obtain ⟨ok, hrow2, hok2, hok0⟩ : ∃ ok, RowI num (tl (line ++ S (List.replicate m (tl " ")).flatten)) ts ok ∧ (∀ r, ok (32 :: r)) ∧ ok [] := by
        rw [tl_app, mul_blk]
        cases m with
        | zero => exact ⟨okOf last, by simpa using hrow, okOf_blank last, okOf_nil last⟩
        | succ m => exact ⟨_, hrow.blanks m (okOf_blank last), fun _ => True.intro, True.intro⟩
      have hl2 : (tl (line ++ S (List.replicate m (tl " ")).flatten)).length ≤ 103 := by
        rw [tl_app, mul_blk, List.length_append, List.length_replicate]
        omega
      have hlt2 : ∀ c ∈ tl (line ++ S (List.replicate m (tl " ")).flatten), c < 128 := by
        rw [tl_app, mul_blk]
        intro c hc
        rcases List.mem_append.mp hc with hc | hc
        · exact hlt c hc
        · exact rep_lt _ c hc
      generalize line ++ S (List.replicate m (tl " ")).flatten = line2 at hrow2 hl2 hlt2 ⊢
      -- a remark
      refine ⟨fun σ' H' => ∃ line' : Str, σ'[3]? = some (some (.str line')) ∧ σ'[4]? = some (some (.ref fo)) ∧ But pu H H' ∧ PuOk H' pu (n + 1000) ∧ H' fo = some (.lst us) ∧ Paired (TkL H') us ts ∧ LexR num 0 (tl line') none ts ∧ (tl line').length ≤ 200 ∧ ∀ c ∈ tl line', c < 128, ?_, ?_⟩
      · refine ⟨_, rfl, pu, 4, n + 1 + 40 * steps + 1, rfl, by decide, by decide, hp2, by omega, fun r3 H3 r30 r31 bt3 fr3 hp3 => ?_⟩
        have hf3 := bt3 _ _ nefo hf2
        have hpl3 := pl_but hpl2 bt3 hp2.noTk
        refine ⟨rfl, _, rfl, ite2 (fun e3 => ?_) (fun e3 => ?_)⟩
        · have hl2' : line2.length ≤ 103 := by rw [← tl_len]; exact hl2
          have e4 : (Str.ofString " -- ").length = 4 := by decide +kernel
          refine ⟨_, rfl, line2, _, rfl, rfl, szS (by rw [e4]; omega), szS (by simp), fun p4 hp4 => ?_⟩
          refine ⟨_, rfl, pu, 4, n + 1 + 40 * steps + 2, rfl, by decide, by decide, hp3.same (same_new hp4), by omega, fun r5 H5 r50 r51 bt5 fr5 hp5 => ?_⟩
          obtain ⟨x, hx, hat⟩ := pick (L := L4) r50 (by exact r51)
          obtain ⟨hx1, hx2⟩ := l4_ok x hx
          have hx1' : x.length ≤ 10 := by rw [← tl_len]; exact hx1
          have ne4 := pu_ne hp3 hp4
          have hlb : (line2 ++ (Str.ofString " -- ")).length ≤ 107 := by
            rw [← tl_len, tl_app, List.length_append, tl_len (Str.ofString " -- "), e4]
            omega
          refine ⟨p4, _, _, _, rfl, rfl, .of (bt5 _ _ ne4 upd_same), hat, _, x, rfl, rfl, szS (by omega), ?_⟩
          have tl4 : tl " -- " = [32, 45, 45, 32] := by decide +kernel
          refine ⟨_, rfl, rfl, (bt.trans (bt2.trans bt3)).trans ((But.of (same_new hp4)).trans bt5), hp5.mono (by omega), bt5 _ _ nefo ((same_new hp4) _ _ hf3), pl_but (pl_same hpl3 (same_new hp4)) bt5 (hp3.same (same_new hp4)).noTk, ?_, ?_, ?_⟩
          · rw [tl_app, tl_app, tl4, List.append_assoc]
            exact hrow2.remark hok2 _
          · rw [tl_app, List.length_append, tl_len (line2 ++ _)]
            omega
          · rw [tl_app, tl_app, tl4]
            intro c hc
            rcases List.mem_append.mp hc with hc | hc
            · rcases List.mem_append.mp hc with hc | hc
              · exact hlt2 c hc
              · have h4 : ∀ c ∈ [32, 45, 45, 32], c < 128 := by decide
                exact h4 c hc
            · exact hx2 c hc
        · exact ⟨line2, rfl, rfl, bt.trans (bt2.trans bt3), hp3.mono (by omega), hf3, hpl3, hrow2.done hok0, by omega, hlt2⟩
      · rintro σ' H5 ⟨line', h3, h4, bt5, hp5, hf5, hpl5, hlex, hl5, hlt5⟩
        refine ⟨_, h3, _, h4, szS (by simp), fun p hpn => ?_⟩
        have hpp : p ≠ pu := pu_ne hp5 hpn
        refine q p fo _ line' ts us (bt5.free hpp hpn) (bt1.free nefo hfo) (bt5.new hpn) (hp5.same (same_new hpn)) upd_same ((same_new hpn) _ _ hf5) (pl_same hpl5 (same_new hpn)) hlex hl5 hlt5 hts (by omega)
end
end Sw
set_option Elab.async false
set_option linter.all false
set_option maxRecDepth 100000
set_option maxHeartbeats 4000000
namespace Sw
open PySem PySem.Spec PyProof.Rows L2 SX
theorem LexT.snoc : ∀ {n : Nat} {rows : List Str} {ts t : List Tk} {r : Str}, LexT n rows ts → LexR (n + rows.length) 0 (tl r) none t → LexT n (rows ++ [r]) (ts ++ t)
  | n, [], _, t, r, .nil, h => by
    have e := LexT.cons (n := n) (r := r) (rs := []) h .nil
    rw [List.append_nil] at e
    exact e
  | n, x :: rows, _, t, r, .cons (t1 := t1) (t2 := t2) h1 h2, h => by
    rw [List.append_assoc]
    refine .cons h1 (LexT.snoc h2 ?_)
    rw [List.length_cons] at h
    rw [show n + 1 + rows.length = n + (rows.length + 1) by omega]
    exact h
/-- what is asked of rows that are handed on -/
def RowsOk (rows : List Str) : Prop := ∀ r ∈ rows, (tl r).length ≤ 200 ∧ ∀ c ∈ tl r, c < 128
section
variable {P : Program} {w : World} {K : PySem.W.Frag} {mg : Str → Option Value} {base : Heap}
def spRows : Sp := fun vs H Q _ => ∃ (pu : Addr) (steps n : Nat), vs = [.ref pu, .int (steps : Int)] ∧ steps ≤ 8 ∧ PuOk H pu n ∧ n ≤ 1000 ∧
  ∀ p la fo H' rows ts us, H p = none → H la = none → H fo = none → But pu H H' → H' p = some (.lst [.ref la, .ref fo]) → H' la = some (.lst (rows.map V.str)) → H' fo = some (.lst us) → Paired (TkL H') us ts → LexT 1 rows ts → rows.length ≤ 8 → RowsOk rows → TsOk ts → us.length ≤ 100 → Q (.ref p) H'
theorem ok_L_rows (T : Txt K mg) : FnOk P w K mg base (L2.CX P w) 5 (He.ga K "_law_rows") (fdAt K (He.ga K "_law_rows")) ["_law_purse_here", "_law_steps"] spRows := by
  refine T.d_L_rows.fn.ok sc_L_rows (fun vs H Q E h => ?_) (fun cdv A outer s H vs Q E hr h => ?_)
  · obtain ⟨_, _, _, rfl, _⟩ := h
    rfl
  · obtain ⟨pu, steps, n, rfl, hst, hpu, hn, q⟩ := h
    refine ⟨_, PSs.nox (pss_cons (ps_set (i := 2) sc_L_rows.nd rfl (.inl rfl) (pe_lst pa_nil))
      (pss_cons (ps_set (i := 3) sc_L_rows.nd rfl (.inl rfl) (pe_lst pa_nil))
      (pss_cons (ps_for PassesOwn.never rfl (pi_range2 (by rfl) T.b_range (pa_cons pe_int (pa_cons (pe_op op_add (pv 1) pe_int) pa_nil))) (pg_name (i := 4) sc_L_rows.nd rfl (.inl rfl))
        (pss_cons (ps_asg (pe_call (ok_L_row T) (hr.mono (by decide)) (by rfl) T.d_L_row.g T.d_L_row.fn.kp T.d_L_row.b .nil passL (pa_cons (pv 0) (pa_cons (pv 4) (pa_cons (pe_call (ok_L_take T) (hr.mono (by decide)) (by rfl) T.d_L_take.g T.d_L_take.fn.kp T.d_L_take.b .nil passL (pa_cons (pv 0) (pa_cons pe_int pa_nil))) pa_nil)))) (pg_lst rfl (pgs_cons (pg_name (i := 5) sc_L_rows.nd rfl (.inl rfl)) (pgs_cons (pg_name (i := 6) sc_L_rows.nd rfl (.inl rfl)) pgs_nil))))
      (pss_cons (ps_expr (pe_bm PySem.F.plainAttrs_list PySem.F.slot_list_append PySem.F.type_list_append mt_append (pv 2) (pa_cons (pv 5) pa_nil)))
      (pss_one (ps_set (i := 3) sc_L_rows.nd rfl (.inl rfl) (pe_op op_cat (pv 3) (pv 6)))))))
      (pss_one (ps_ret (pe_lst (pa_cons (pv 2) (pa_cons (pv 3) pa_nil)))))))), ?_⟩
    refine ⟨szS (by simp), fun la hla => ?_⟩
    refine ⟨szS (by simp), fun f0 hf0 => ?_⟩
    have nela := pu_ne hpu hla
    have hf0' : H f0 = none := (same_new hla).free hf0
    refine ⟨_, rfl, _, _, rfl, rfl, 1, (steps : Int) + 1, rfl, by omega, ?_⟩
    refine for_range (lo := 1) (n := ((steps : Int) + 1 - 1).toNat) (fun i σ H' => ∃ (rows : List Str) (ts : List Tk) (us : List V) (fo : Addr) (y4 y5 y6 : Option V),
        σ = [some (.ref pu), some (.int (steps : Int)), some (.ref la), some (.ref fo), y4, y5, y6] ∧ H fo = none ∧ fo ≠ la ∧ But pu H H' ∧ PuOk H' pu (n + 1001 * i) ∧ H' la = some (.lst (rows.map V.str)) ∧ H' fo = some (.lst us) ∧ Paired (TkL H') us ts ∧ LexT 1 rows ts ∧ rows.length = i ∧ RowsOk rows ∧ TsOk ts ∧ us.length ≤ 10 * i)
      ?_ ?_ ?_
    · have s0 := (same_new (o := HO.lst []) hla).trans (same_new (o := HO.lst []) hf0)
      exact ⟨[], [], [], f0, none, none, none, rfl, hf0', (fun z => by rw [z, upd_same] at hf0; cases hf0), But.of s0, hpu.same s0, (same_new hf0) _ _ upd_same, upd_same, .nil, .nil, rfl, (fun _ h => by cases h), (fun _ h => by cases h), Nat.zero_le _⟩
    · rintro i σ H' hi ⟨rows, ts, us, fo, y4, y5, y6, rfl, hfo, hfl, bt, hp, hla', hf, hpl, hlex, hrl, hro, hts, hul⟩
      have nefo : fo ≠ pu := pu_ne hpu hfo
      refine ⟨_, rfl, _, rfl, _, rfl, pu, 7, n + 1001 * i, rfl, by decide, by decide, hp, by omega, fun r H2 r0 r1 bt2 fr2 hp2 => ?_⟩
      obtain ⟨k, rfl⟩ := Int.eq_ofNat_of_zero_le r0
      refine ⟨pu, i + 1, k, n + 1001 * i + 1, by show [V.ref pu, V.int (1 + (i : Int)), V.int (k : Int)] = _; rw [show (1 + (i : Int)) = ((i + 1 : Nat) : Int) by omega], by omega, hp2, by omega, ?_⟩
      intro pr f1 H3 line t1 u1 hpr hf1 bt3 hp3 hpr3 hf13 hpl1 hlex1 hll hlt1 hts1 hul1
      refine ⟨pr, _, rfl, .of hpr3, rfl, _, _, rfl, _, _, rfl, rfl, ?_⟩
      have hla3 : H3 la = some (.lst (rows.map V.str)) := bt3 _ _ nela (bt2 _ _ nela hla')
      have hfo3 : H3 fo = some (.lst us) := bt3 _ _ nefo (bt2 _ _ nefo hf)
      have hplo := pl_but (pl_but hpl bt2 hp.noTk) bt3 hp2.noTk
      have hstr : NoTk H3 la := by
        refine ⟨fun b x y z => ?_, fun x y z => ?_⟩
        · rw [hla3] at z
          have e : rows.map V.str = [.ref b, .str x, .str y] := by injection (Option.some.inj z)
          cases rows with
          | nil => cases e
          | cons a b => cases e
        · rw [hla3] at z
          cases z
      have bla := But.upd (o := HO.lst (rows.map V.str ++ [V.str line])) (But.refl la H3)
      have nf1la : f1 ≠ la := fun z => by
        have := bt2 _ _ nela hla'
        rw [← z, hf1] at this
        cases this
      refine ⟨_, rfl, .inl ⟨rfl, _, .of hla3⟩, _, rfl, la, rows.map V.str, .str line, rfl, rfl, hla3, szL (by rw [List.length_map]; omega), ?_⟩
      have hfoL := bla _ _ hfl hfo3
      have hf1L := bla _ _ nf1la hf13
      refine ⟨_, rfl, _, rfl, fo, f1, us, u1, rfl, rfl, hfoL, hf1L, szS (by omega), fun f2 hf2 => ?_⟩
      have s2 := same_new (o := HO.lst (us ++ u1)) hf2
      have btH : But pu H (upd H3 la (.lst (rows.map V.str ++ [V.str line]))) := fun b o hb ho => by
        rw [upd_ne (ne_of_none ho hla)]
        exact bt3 b o hb (bt2 b o hb (bt b o hb ho))
      have hpL : PuOk (upd H3 la (.lst (rows.map V.str ++ [V.str line]))) pu (n + 1001 * i + 1 + 1000) := hp3.but bla nela.symm
      have nf2 : f2 ≠ pu := pu_ne hpL hf2
      refine ⟨rows ++ [line], ts ++ t1, us ++ u1, f2, _, _, _, rfl, btH.free nf2 hf2, (fun z => by rw [z, upd_same] at hf2; cases hf2), btH.new hf2, (hpL.same s2).mono (by omega), ?_, upd_same, ?_, ?_, by rw [List.length_append, hrl]; rfl, ?_, ?_, by rw [List.length_append]; omega⟩
      · have h1 := s2 la _ upd_same
        rw [h1, List.map_append]
        rfl
      · exact pl_same (pt_app (pl_but hplo bla hstr) (pl_but hpl1 bla hstr)) s2
      · refine hlex.snoc ?_
        rw [hrl, show 1 + i = i + 1 by omega]
        exact hlex1
      · intro r hr
        rcases List.mem_append.mp hr with hr | hr
        · exact hro r hr
        · have e : r = line := by simpa using hr
          rw [e]
          exact ⟨hll, hlt1⟩
      · intro t ht
        rcases List.mem_append.mp ht with ht | ht
        · exact hts t ht
        · exact hts1 t ht
    · rintro σ H' ⟨rows, ts, us, fo, y4, y5, y6, rfl, hfo, hfl, bt, hp, hla', hf, hpl, hlex, hrl, hro, hts, hul⟩
      refine ⟨_, rfl, _, rfl, szS (by simp), fun p hpn => ?_⟩
      have s2 := same_new (o := HO.lst [V.ref la, V.ref fo]) hpn
      refine q p la fo _ rows ts us (bt.free (pu_ne hp hpn) hpn) hla hfo (bt.new hpn) upd_same (s2 _ _ hla') (s2 _ _ hf) (pl_same hpl s2) hlex (by omega) hro hts (by omega)
end
end Sw
set_option Elab.async false
set_option linter.all false
set_option maxRecDepth 100000
set_option maxHeartbeats 4000000
namespace Sw
open PySem PySem.Spec PyProof.Rows L2 SX
theorem same_but {H H1 H2 : Hp} {pu : Addr} (a : Same H H1) (n : H pu = none) (b : But pu H1 H2) : Same H H2 := fun x o h => b x o (ne_of_none h n) (a x o h)
theorem units64 {A : Around} {k : Nat} (hr : Room k A) : A.units + 64 < cLine := hr.units
/-! ### lexemes as data -/
def tkD (t : Tk) : PyData := .tuple [.tuple [.int (t.row : Int), .int (t.col : Int)], .str t.sort, .str t.word]
section
variable {P : Program} {w : World} {K : PySem.W.Frag} {mg : Str → Option Value} {base : Heap}
theorem dp_tk {H : Hp} {v : V} {t : Tk} (h : TkT H v t) : Dp K H v (tkD t) := by
  obtain ⟨a, b, rfl, h2, h3⟩ := h
  exact .tup (.of h2) (.cons (.tup (.of h3) (.cons (.int _) (.cons (.int _) .nil))) (.cons (.str _) (.cons (.str _) .nil)))
theorem dp_tks {H : Hp} : ∀ {us : List V} {ts : List Tk}, Paired (TkT H) us ts → DpAll K H us (ts.map tkD)
  | _, _, .nil => .nil
  | _, _, .cons h t => .cons (dp_tk h) (dp_tks t)
theorem lay_tks : ∀ {ts : List Tk}, TsOk ts → PyData.canLayAll0 (ts.map tkD) = true
  | [], _ => rfl
  | t :: ts, h => by
    have h1 := h t (List.mem_cons_self ..)
    have h2 := lay_tks (ts := ts) fun x hx => h x (List.mem_cons_of_mem _ hx)
    simp [PyData.canLayAll0, tkD, PyData.canLay0, h1.1, h1.2, h2]
theorem dep_tks : ∀ (ts : List Tk), PyData.depthAll (ts.map tkD) ≤ 3
  | [] => by simp [PyData.depthAll]
  | t :: ts => by
    have h := dep_tks ts
    have h1 : (tkD t).depth ≤ 3 := by simp [tkD, PyData.depth, PyData.depthAll]
    simp only [List.map_cons, PyData.depthAll]
    omega
theorem shp_tks {ts : List Tk} (h : TsOk ts) : SeqAt.shaped (.list (ts.map tkD)) = true := by
  have h1 := dep_tks ts
  have h2 : PyData.depth (.list (ts.map tkD)) ≤ 64 := by
    simp only [PyData.depth]
    omega
  show (PyData.canLay0 (.list (ts.map tkD)) && decide (PyData.depth (.list (ts.map tkD)) ≤ 64)) = true
  rw [Bool.and_eq_true]
  exact ⟨by simp only [PyData.canLay0]; exact lay_tks h, decide_eq_true h2⟩
theorem dp_strs {H : Hp} : ∀ (rows : List Str), DpAll K H (rows.map V.str) (rows.map PyData.str)
  | [] => .nil
  | r :: rows => .cons (.str r) (dp_strs rows)
theorem lay_strs : ∀ {rows : List Str}, RowsOk rows → PyData.canLayAll0 (rows.map PyData.str) = true
  | [], _ => rfl
  | r :: rows, h => by
    have h1 : PyData.strOk r = true := strOk_of (h r (List.mem_cons_self ..)).2
    have h2 := lay_strs (rows := rows) fun x hx => h x (List.mem_cons_of_mem _ hx)
    simp [PyData.canLayAll0, PyData.canLay0, h1, h2]
theorem dep_strs : ∀ (rows : List Str), PyData.depthAll (rows.map PyData.str) ≤ 1
  | [] => by simp [PyData.depthAll]
  | r :: rows => by
    have h := dep_strs rows
    have h1 : (PyData.str r).depth ≤ 1 := by simp [PyData.depth]
    simp only [List.map_cons, PyData.depthAll]
    omega
theorem shp_strs {rows : List Str} (h : RowsOk rows) : SeqAt.shaped (.list (rows.map PyData.str)) = true := by
  have h1 := dep_strs rows
  have h2 : PyData.depth (.list (rows.map PyData.str)) ≤ 64 := by
    simp only [PyData.depth]
    omega
  show (PyData.canLay0 (.list (rows.map PyData.str)) && decide (PyData.depth (.list (rows.map PyData.str)) ≤ 64)) = true
  rw [Bool.and_eq_true]
  exact ⟨by simp only [PyData.canLay0]; exact lay_strs h, decide_eq_true h2⟩
theorem eqv_self {d : PyData} (h : SeqAt.shaped d = true) : PyData.eqv d d = true := SeqAt.eqv_refl d (SeqAt.canLay_of_shaped h)
/-! ### the law -/
def spLaw (K : PySem.W.Frag) : Sp := fun vs H Q _ => ∃ (a : Addr) (ns : List Int), vs = [.ref a] ∧ SqL K H a (ns.map V.int) ∧ ns.length ≤ 63 ∧ ∀ H', Q (.bl true) H'
theorem ok_law (T : Txt K mg) : FnOk P w K mg base (L2.CX P w) 6 (He.ga K "law") (fdAt K (He.ga K "law")) ["_law_script"] (spLaw K) := by
  refine T.d_law.fn.ok sc_law (fun vs H Q E h => ?_) (fun cdv A outer s H vs Q E hr h => ?_)
  · obtain ⟨_, _, rfl, _⟩ := h
    rfl
  · obtain ⟨a, ns, rfl, hS, hlen, q⟩ := h
    refine ⟨_, PSs.nox (pss_cons (ps_for PassesOwn.never rfl (pi_list (pe_op op_cat (pe_slice sl_list (pv 0) po_none (po_some pe_int)) (pe_lst (pa_cons (pe_call (ok_L_at T) (hr.mono (by decide)) (by rfl) T.d_L_at.g T.d_L_at.fn.kp T.d_L_at.b .nil passL (pa_cons (pv 0) (pa_cons pe_int pa_nil))) pa_nil)))) (pg_name (i := 1) sc_law.nd rfl (.inl rfl))
        (pss_cons (ps_set (i := 2) sc_law.nd rfl (.inl rfl) (pe_call (ok_L_purse T) (hr.mono (by decide)) (by rfl) T.d_L_purse.g T.d_L_purse.fn.kp T.d_L_purse.b .nil passL (pa_cons (pv 1) (pa_cons pe_int pa_nil))))
      (pss_cons (ps_asg (pe_call (ok_L_rows T) (hr.mono (by decide)) (by rfl) T.d_L_rows.g T.d_L_rows.fn.kp T.d_L_rows.b .nil passL (pa_cons (pv 2) (pa_cons (pe_call (ok_L_take T) (hr.mono (by decide)) (by rfl) T.d_L_take.g T.d_L_take.fn.kp T.d_L_take.b .nil passL (pa_cons (pv 2) (pa_cons pe_int pa_nil))) pa_nil))) (pg_lst rfl (pgs_cons (pg_name (i := 3) sc_law.nd rfl (.inl rfl)) (pgs_cons (pg_name (i := 4) sc_law.nd rfl (.inl rfl)) pgs_nil))))
      (pss_cons (ps_setLc (i := 4) (own := [("_law_place", 5), ("_law_sort", 6), ("_law_said", 7)]) (g := gLst K 3 (gCons (gName 5) (gCons (gName 6) (gCons (gName 7) gNil)))) rfl sc_law.nd rfl rfl (sw_true rfl rfl rfl (by decide +kernel)) (pi_list (pv 4)) (blkOk_by (own := [("_law_place", 5), ("_law_sort", 6), ("_law_said", 7)]) (N := ["_law_script", "_law_cell", "_law_purse_here", "_law_lines", "_law_due", "_law_place", "_law_sort", "_law_said", "_law_handed", "_law_turn", "_law_told"]) (sc := defScope s_law) (by decide +kernel)) (fun _ _ _ _ _ => (pg_lst rfl (pgs_cons (pg_name (i := 5) sc_law.nd rfl (.inl rfl)) (pgs_cons (pg_name (i := 6) sc_law.nd rfl (.inl rfl)) (pgs_cons (pg_name (i := 7) sc_law.nd rfl (.inl rfl)) pgs_nil))))) (fun _ _ _ _ _ => pts_nil) (fun _ _ _ _ _ => (pe_tup (pa_cons (pv 5) (pa_cons (pv 6) (pa_cons (pv 7) pa_nil))))))
      (pss_cons (ps_set (i := 8) sc_law.nd rfl (.inl rfl) (pe_callTy call_list_of (by rfl) T.b_list (by decide +kernel) (pa_cons (pv 3) pa_nil)))
      (pss_one (ps_for PassesOwn.never rfl (pi_range1 (by rfl) T.b_range (pa_cons pe_int pa_nil)) (pg_name (i := 9) sc_law.nd rfl (.inl rfl))
        (pss_cons (ps_set (i := 10) sc_law.nd rfl (.inl rfl) (pe_ix ix_list (pe_lst (pa_cons (pe_call (ok_lexemes T) (hr.mono (by decide)) (by rfl) T.d_lexemes.g T.d_lexemes.fn.kp T.d_lexemes.b .nil passL (pa_cons (pv 8) pa_nil)) (pa_cons (pe_callN0 (ok_lexemes T) (hr.mono (by decide)) (by rfl) T.d_lexemes.g T.d_lexemes.fn.kp T.k_lexemes passL (pk_cons (pv 8) pk_nil)) pa_nil))) (pv 9) (fun _ _ => rfl)))
      (pss_cons (ps_if (pw_or (pt_not (pt_val (pe_callB call_isi (by rfl) T.b_isinstance (by decide +kernel) (pa_cons (pv 10) (pa_cons (pe_bltn (v := .ty "list") (by rfl) T.b_list (by decide +kernel) rfl) pa_nil))))) (pw_or (pt_cmpR (op_neD (units64 hr)) (pv 10) (pv 4) (nomark _)) (pw_or1 (pt_cmpR (op_neD (units64 hr)) (pv 8) (pv 3) (nomark _))))).pt
        (pss_one (ps_ret pe_bl))
        pss_nil)
      (pss_cons (ps_for PassesOwn.never rfl (pi_list (pv 10)) (pg_tup rfl (pgs_cons (pg_name (i := 5) sc_law.nd rfl (.inl rfl)) (pgs_cons (pg_name (i := 6) sc_law.nd rfl (.inl rfl)) (pgs_cons (pg_name (i := 7) sc_law.nd rfl (.inl rfl)) pgs_nil))))
        (pss_one (ps_if (pw_or (pt_not (pt_val (pe_callB call_isi (by rfl) T.b_isinstance (by decide +kernel) (pa_cons (pv 5) (pa_cons (pe_bltn (v := .ty "tuple") (by rfl) T.b_tuple (by decide +kernel) rfl) pa_nil))))) (pw_or (pt_val (pe_callB call_isi (by rfl) T.b_isinstance (by decide +kernel) (pa_cons (pe_ix ix_tup (pv 5) pe_int (fun _ _ => rfl)) (pa_cons (pe_bltn (v := .ty "bool") (by rfl) T.b_bool (by decide +kernel) rfl) pa_nil)))) (pw_or1 (pt_not (pt_val (pe_callB call_isi (by rfl) T.b_isinstance (by decide +kernel) (pa_cons (pv 7) (pa_cons (pe_bltn (v := .ty "str") (by rfl) T.b_str (by decide +kernel) rfl) pa_nil)))))))).pt
        (pss_one (ps_ret pe_bl))
        pss_nil)))
      (pss_cons (ps_expr (pe_bm PySem.F.plainAttrs_list PySem.F.slot_list_append PySem.F.type_list_append mt_append (pv 10) (pa_cons pe_str pa_nil)))
      (pss_one (ps_expr (pe_bm0 PySem.F.plainAttrs_list PySem.F.slot_list_reverse PySem.F.type_list_reverse mt_reverse (pv 10)))))))))))))))
      (pss_one (ps_ret pe_bl))), ?_⟩
    -- the cells
    refine ⟨_, rfl, 5, rfl, a, _, rfl, hS, fun p1 hp1 => ?_⟩
    refine ⟨_, rfl, a, ns, 2, rfl, (same_new hp1).seq hS, fun r => ?_⟩
    refine ⟨szS (by simp), fun p2 hp2 => ?_⟩
    have hcut : (cutV (ns.map V.int) none (some 5)).length ≤ 63 := Nat.le_trans (cutV_length _ _ _) (by rw [List.length_map]; exact hlen)
    refine ⟨p1, p2, _, _, rfl, rfl, (same_new hp2) _ _ upd_same, upd_same, szS (by simp; omega), fun p3 hp3 => ?_⟩
    have hint : ∀ v ∈ cutV (ns.map V.int) none (some 5) ++ [V.int r], ∃ i : Int, v = .int i := by
      intro v hv
      rcases List.mem_append.mp hv with hv | hv
      · have h1 : v ∈ ns.map V.int := List.mem_of_mem_drop (List.mem_of_mem_take hv)
        obtain ⟨i, _, e⟩ := List.mem_map.mp h1
        exact ⟨i, e.symm⟩
      · exact ⟨r, by simpa using hv⟩
    refine ⟨p3, rfl, ⟨_, .of upd_same⟩, ?_⟩
    generalize cutV (ns.map V.int) none (some 5) ++ [V.int r] = cells at hint ⊢
    have hc0 : (upd (upd (upd H p1 (.lst (cutV (ns.map V.int) none (some 5)))) p2 (.lst [V.int r])) p3 (.lst cells)) p3 = some (.lst cells) := upd_same
    generalize upd (upd (upd H p1 (.lst (cutV (ns.map V.int) none (some 5)))) p2 (.lst [V.int r])) p3 (.lst cells) = H0 at hc0 ⊢
    refine for_list (K := K) (a := p3) (xs := cells) (fun i σ H' => ∃ y1 y2 y3 y4 y5 y6 y7 y8 y9 y10 : Option V, σ = [some (.ref a), y1, y2, y3, y4, y5, y6, y7, y8, y9, y10] ∧ Same H0 H')
      ⟨none, none, none, none, none, none, none, none, none, none, rfl, Same.refl _⟩ (fun i σ H' _ ⟨_, _, _, _, _, _, _, _, _, _, _, sm⟩ => .of (sm _ _ hc0)) ?_ ?_
    · rintro i x σ H' hx ⟨y1, y2, y3, y4, y5, y6, y7, y8, y9, y10, rfl, sm⟩
      obtain ⟨c, rfl⟩ := hint x (List.mem_of_getElem? hx)
      -- a purse
      refine ⟨_, rfl, c, 1, rfl, by decide, by decide, fun pu H1 hpu0 s1 hpu => ?_⟩
      -- lines and what is due
      refine ⟨_, rfl, _, rfl, pu, 8, 0, rfl, by decide, by decide, hpu, by omega, fun r8 H2 r80 r81 bt2 fr2 hp2 => ?_⟩
      obtain ⟨k, rfl⟩ := Int.eq_ofNat_of_zero_le r80
      refine ⟨pu, k, 1, rfl, by omega, hp2, by omega, ?_⟩
      intro p la fo H3 rows ts us hp hla hfo bt3 hp3 hla3 hfo3 hpl hlex hrl hro hts hul
      have s3 : Same H' H3 := same_but s1 hpu0 (bt2.trans bt3)
      refine ⟨p, _, rfl, .of hp3, rfl, _, _, rfl, _, _, rfl, rfl, ?_⟩
      -- due as tuples
      refine ⟨_, rfl, fo, rfl, ⟨_, .of hfo3⟩, fun D hD => ?_⟩
      refine lc_list (K := K) (a := fo) (xs := us) (fun i H' => ∃ vs : List V, H' D = some (.lst vs) ∧ Same H3 H' ∧ Paired (TkT H') vs (ts.take i) ∧ vs.length ≤ i)
        ⟨[], upd_same, same_new hD, .nil, Nat.zero_le _⟩ (fun i H' _ ⟨_, _, sm, _⟩ => .of (sm _ _ hfo3)) ?_ ?_
      · rintro i x H4 hx ⟨vs, hD4, s4, hpv, hvl⟩
        obtain ⟨t, ht, ha⟩ := L2.paired_get hpl hx
        obtain ⟨a4, b4, rfl, ha4, hb4⟩ := ha
        refine ⟨a4, _, rfl, .of (s4 _ _ ha4), rfl, _, _, rfl, _, _, rfl, _, _, rfl, rfl, rfl, _, rfl, _, rfl, _, rfl, szS (by simp), fun p5 hp5 => ?_⟩
        have s5 := same_new (o := HO.tup [V.ref b4, V.str t.sort, V.str t.word]) hp5
        have hi : i < us.length := (List.getElem?_eq_some_iff.mp hx).1
        have hD5 := s5 _ _ hD4
        refine ⟨vs, hD5, szL (by omega), vs ++ [.ref p5], upd_same, same_mut (s4.trans s5) hD, ?_, by rw [List.length_append]; simp; exact hvl⟩
        rw [List.take_add_one, ht]
        have np5 : p5 ≠ D := (ne_of_none hD4 hp5).symm
        refine Paired.snoc (pt_but (pt_same hpv s5) (But.upd (But.refl _ _)) hD5) ⟨p5, b4, rfl, ?_, ?_⟩
        · rw [upd_ne np5, upd_same]
        · have hb5 := (s4.trans s5) _ _ hb4
          rw [upd_ne (ne_of hb5 hD5 (by intro z; cases z))]
          exact hb5
      · rintro H4 ⟨vs, hD4, s4, hpv, hvl⟩
        have hte : ts.take us.length = ts := List.take_of_length_le (by rw [hpl.length]; exact Nat.le_refl _)
        rw [hte] at hpv
        -- handed
        refine ⟨_, rfl, la, _, rfl, .inl (.of (s4 _ _ hla3)), fun ha hha => ?_⟩
        have s5 := same_new (o := HO.lst (rows.map V.str)) hha
        have hla5 := s5 _ _ (s4 _ _ hla3)
        have hD5 := s5 _ _ hD4
        have hpv5 := pt_same hpv s5
        have hha5 : upd H4 ha (.lst (rows.map V.str)) ha = some (.lst (rows.map V.str)) := upd_same
        have s05 : Same H' (upd H4 ha (.lst (rows.map V.str))) := s3.trans (s4.trans s5)
        generalize upd H4 ha (.lst (rows.map V.str)) = H5 at s5 hla5 hD5 hpv5 hha5 s05 ⊢
        refine ⟨2, rfl, by decide, by decide, ?_⟩
        refine for_range (lo := 0) (n := 2) (fun i σ H' => ∃ y5 y6 y7 y9 y10 : Option V, σ = [some (.ref a), some (.int c), some (.ref pu), some (.ref la), some (.ref D), y5, y6, y7, some (.ref ha), y9, y10] ∧ Same H5 H')
          ⟨_, _, _, _, _, rfl, Same.refl _⟩ ?_ ?_
        · rintro i σ H6 hi ⟨z5, z6, z7, z9, z10, rfl, s6⟩
          -- the two calls
          refine ⟨_, rfl, ha, rows, ts, rfl, .of (s6 _ _ hha5), by omega, fun r hr => (hro r hr).1, hlex, fun pa H7 ua hpa s7 hpa7 hpta => ?_⟩
          refine ⟨_, rfl, rfl, rfl, ha, rows, ts, rfl, .of (s7 _ _ (s6 _ _ hha5)), by omega, fun r hr => (hro r hr).1, hlex, fun pb H8 ub hpb s8 hpb8 hptb => ?_⟩
          refine ⟨szS (by simp), fun pl hpl8 => ?_⟩
          have s9 := same_new (o := HO.lst [V.ref pa, V.ref pb]) hpl8
          obtain ⟨tp, ut, hat, h1, h2, h3⟩ : ∃ tp ut, atI [V.ref pa, V.ref pb] ((0 : Int) + (i : Nat)) = some (.ref tp) ∧ H6 tp = none ∧ upd H8 pl (.lst [V.ref pa, V.ref pb]) tp = some (.lst ut) ∧ Paired (TkT (upd H8 pl (.lst [V.ref pa, V.ref pb]))) ut ts := by
            match i, hi with
            | 0, _ => exact ⟨pa, ua, rfl, hpa, s9 _ _ (s8 _ _ hpa7), pt_same hpta (s8.trans s9)⟩
            | 1, _ => exact ⟨pb, ub, rfl, s7.free hpb, s9 _ _ hpb8, pt_same hptb s9⟩
          refine ⟨_, rfl, pl, _, _, _, rfl, rfl, .of upd_same, hat, ?_⟩
          have s69 : Same H6 (upd H8 pl (.lst [V.ref pa, V.ref pb])) := s7.trans (s8.trans s9)
          generalize upd H8 pl (.lst [V.ref pa, V.ref pb]) = H9 at h2 h3 s69 ⊢
          have s59 := s6.trans s69
          have hutl : ut.length ≤ 100 := by rw [h3.length, ← hpl.length]; exact hul
          -- a list, just what is due, the rows as they were
          refine ⟨_, rfl, _, _, _, _, true, rfl, .ty "list", .base (.lst h2), kit_ty (by decide +kernel), _, rfl, iteF ?_⟩
          refine ⟨_, rfl, _, rfl, _, _, .lst (.of h2) (dp_tks h3), .lst (.of (s59 _ _ hD5)) (dp_tks (pt_same hpv5 s59)), shp_tks hts, shp_tks hts, _, rfl, ?_⟩
          rw [eqv_self (shp_tks hts)]
          refine iteF ?_
          refine ⟨_, rfl, _, rfl, _, _, .lst (.of (s59 _ _ hha5)) (dp_strs rows), .lst (.of (s59 _ _ hla5)) (dp_strs rows), shp_strs hro, shp_strs hro, _, rfl, ?_⟩
          rw [eqv_self (shp_strs hro)]
          refine iteF ?_
          -- each a tuple
          refine ⟨_, rfl, tp, rfl, ⟨_, .of h2⟩, ?_⟩
          refine for_list (K := K) (a := tp) (xs := ut) (fun j σ H' => ∃ y5 y6 y7 : Option V, σ = [some (.ref a), some (.int c), some (.ref pu), some (.ref la), some (.ref D), y5, y6, y7, some (.ref ha), some (.int ((0 : Int) + (i : Nat))), some (.ref tp)] ∧ H' = H9)
            ⟨_, _, _, rfl, rfl⟩ (fun j σ H' _ ⟨_, _, _, _, e⟩ => by rw [e]; exact .of h2) ?_ ?_
          · rintro j x σ H' hx ⟨x5, x6, x7, rfl, rfl⟩
            obtain ⟨t, ht, a4, b4, rfl, ha4, hb4⟩ := L2.paired_get h3 hx
            refine ⟨a4, _, rfl, .of ha4, rfl, _, _, rfl, _, _, rfl, _, _, rfl, rfl, ?_⟩
            refine ⟨_, rfl, _, _, _, _, true, rfl, .ty "tuple", .base (.tup hb4), kit_ty (by decide +kernel), _, rfl, iteF ?_⟩
            refine ⟨_, rfl, b4, _, 0, _, rfl, rfl, .of hb4, rfl, _, _, _, _, false, rfl, .ty "bool", .base (.int _), kit_ty (by decide +kernel), _, rfl, iteF ?_⟩
            exact ⟨_, rfl, _, _, _, _, true, rfl, .ty "str", .base (.str _), kit_ty (by decide +kernel), _, rfl, iteF ⟨_, _, _, rfl, rfl⟩⟩
          · rintro σ H' ⟨x5, x6, x7, rfl, rfl⟩
            refine ⟨_, rfl, .inl ⟨rfl, _, .of h2⟩, tp, _, _, rfl, rfl, h2, szL (by omega), ?_⟩
            refine ⟨_, rfl, .inl ⟨rfl, _, .of upd_same⟩, tp, _, rfl, rfl, upd_same, ?_⟩
            have h1' : H5 tp = none := s6.free h1
            exact ⟨_, _, _, _, _, rfl, same_mut (same_mut s59 h1') h1'⟩
        · rintro σ H6 ⟨z5, z6, z7, z9, z10, rfl, s6⟩
          exact ⟨_, _, _, _, _, _, _, _, _, _, rfl, sm.trans (s05.trans s6)⟩
    · rintro σ H' ⟨y1, y2, y3, y4, y5, y6, y7, y8, y9, y10, rfl, sm⟩
      exact q H'
end
end Sw
set_option Elab.async false
set_option linter.all false
set_option maxRecDepth 100000
set_option maxHeartbeats 0
namespace Sw
open PySem PySem.Spec PyProof.Rows L2 SX
def h_L_mixed : He.DefD := ⟨("_law_mixed", none), "_law_mixed", "_law_mixed", defArgs s_L_mixed, defBody s_L_mixed, defScope s_L_mixed, [], []⟩
def h_L_purse : He.DefD := ⟨("_law_purse", none), "_law_purse", "_law_purse", defArgs s_L_purse, defBody s_L_purse, defScope s_L_purse, [], []⟩
def h_L_take : He.DefD := ⟨("_law_take", none), "_law_take", "_law_take", defArgs s_L_take, defBody s_L_take, defScope s_L_take, [], []⟩
def h_L_at : He.DefD := ⟨("_law_at", none), "_law_at", "_law_at", defArgs s_L_at, defBody s_L_at, defScope s_L_at, [], []⟩
def h_L_word : He.DefD := ⟨("_law_word", none), "_law_word", "_law_word", defArgs s_L_word, defBody s_L_word, defScope s_L_word, [], []⟩
def h_L_words : He.DefD := ⟨("_law_words", none), "_law_words", "_law_words", defArgs s_L_words, defBody s_L_words, defScope s_L_words, [], []⟩
def h_L_touches : He.DefD := ⟨("_law_touches", none), "_law_touches", "_law_touches", defArgs s_L_touches, defBody s_L_touches, defScope s_L_touches, [], []⟩
def h_L_grow : He.DefD := ⟨("_law_grow", none), "_law_grow", "_law_grow", defArgs s_L_grow, defBody s_L_grow, defScope s_L_grow, [], []⟩
def h_L_row : He.DefD := ⟨("_law_row", none), "_law_row", "_law_row", defArgs s_L_row, defBody s_L_row, defScope s_L_row, [], []⟩
def h_L_rows : He.DefD := ⟨("_law_rows", none), "_law_rows", "_law_rows", defArgs s_L_rows, defBody s_L_rows, defScope s_L_rows, [], []⟩
def h_law : He.DefD := ⟨("law", none), "law", "law", defArgs s_law, defBody s_law, defScope s_law, [], []⟩
def h_run_end : He.DefD := ⟨("run_end", none), "run_end", "run_end", defArgs s_run_end, defBody s_run_end, defScope s_run_end, [], []⟩
def h_lexeme_end : He.DefD := ⟨("lexeme_end", none), "lexeme_end", "lexeme_end", defArgs s_lexeme_end, defBody s_lexeme_end, defScope s_lexeme_end, [], []⟩
def h_row_lexemes : He.DefD := ⟨("row_lexemes", none), "row_lexemes", "row_lexemes", defArgs s_row_lexemes, defBody s_row_lexemes, defScope s_row_lexemes, [], []⟩
def h_lexemes : He.DefD := ⟨("lexemes", none), "lexemes", "lexemes", defArgs s_lexemes, defBody s_lexemes, defScope s_lexemes, [], []⟩
def hfn : List He.DefD := [h_L_mixed, h_L_purse, h_L_take, h_L_at, h_L_word, h_L_words, h_L_touches, h_L_grow, h_L_row, h_L_rows, h_law, h_run_end, h_lexeme_end, h_row_lexemes, h_lexemes]
def hloose : List Str := (["SlumberError", "NoSign", "SMALL", "GREAT", "FIGURES", "WORDS", "SIGNS", "MOST_LETTERS", "run_end", "lexeme_end", "row_lexemes", "lexemes", "_law_mixed", "_law_purse", "_law_take", "_law_at", "_law_word", "_law_words", "_law_touches", "_law_grow", "_law_row", "_law_rows"] : List Str)
def hlaw : Nat := 25
/-! ### a Hook with one more look -/
abbrev AlZ : Type := He.AlD × Bool
def obsZ (n : Nat) (fa : List He.Fa) (fn : List He.DefD) (ex : PySem.W.Frag → Bool) (g : Addr → Option Obj) : AlZ := (He.obsD fa fn (He.frG g (He.asD g n)), ex (He.frG g (He.asD g n)))
def hookZ (n : Nat) (fa : List He.Fa) (fn : List He.DefD) (ex : PySem.W.Frag → Bool) : PySem.W.Hook where
  α := AlZ
  obs := fun s => obsZ n fa fn ex s.heap.get?
  val := fun _ => (He.valD fn, true)
  says := fun _ h => ∃ K : PySem.W.Frag, K.In h ∧ He.SaysD fa fn K ∧ ex K = true
  of := fun _ _ e => ⟨_, He.frG_in, congrArg (fun z : AlZ => z.1) e, congrArg (fun z : AlZ => z.2) e⟩
  keeps := fun _ _ _ ⟨K, hK, c⟩ k => ⟨K, PySem.W.Frag.In.keeps hK k, c⟩
theorem obsZ_eq {n : Nat} {fa : List He.Fa} {fn : List He.DefD} {ex : PySem.W.Frag → Bool} {g : Addr → Option Obj} {s : Shared} (h : ∀ a, g a = s.heap.get? a) : obsZ n fa fn ex g = (hookZ n fa fn ex).obs s := by
  have e : g = s.heap.get? := funext h
  rw [e] <;> rfl
/-! ### the head -/
def hfa : List He.Fa := hfn.map (fun d => He.Fa.glo d.name) ++ [.str "SMALL" "abcdefghijklmnopqrstuvwxyz", .str "GREAT" "ABCDEFGHIJKLMNOPQRSTUVWXYZ", .str "FIGURES" "0123456789", .glo "WORDS", .glo "SIGNS", .int "MOST_LETTERS" 8,
  .free "len", .free "int", .free "list", .free "tuple", .free "str", .free "bool", .free "range", .free "enumerate", .free "isinstance"]
def hex (K : PySem.W.Frag) : Bool := He.tupB K "WORDS" (WORDS.map He.Dv.str) && He.tupB K "SIGNS" (SIGNS.map He.Dv.str)
abbrev HR : PySem.W.OpenRow := PySem.W.OpenLaw.row PySem.Challenge.rw_slumberway_k01_lexemes
abbrev hhk : PySem.W.Hook := hookZ 4 hfa hfn hex
def hob (s : PySem.W.SharedT) : AlZ := obsZ 4 hfa hfn hex (HandSHeadRun.getT s)
theorem hob_eq (s : PySem.W.SharedT) : hob s = hhk.obs s.abs := obsZ_eq (HandSHeadRun.getT_eq s)
theorem hrun (w : World) : HandSHeadRun.RunEq HR (PySem.W.view HR.prog [25]) hhk hob 4000 hloose w := by
  intro os
  kernel_rfl
end Sw
set_option Elab.async false
set_option linter.all false
set_option maxRecDepth 100000
set_option maxHeartbeats 0
namespace Sw
open PySem PySem.Spec PyProof.Rows L2 SX
/-- a law's end over a head by facts, what is let out hanging on the world -/
theorem walk_law {l : PySem.W.OpenLaw} {n k : Nat} {q : Program} {loose : List Str} {XP : (Str → Option Value) → Heap → Prop} {YP : World → Heap → Prop} {d : DefRec} {x : Str}
    (hn : l.most = some n) (hn2 : n ≤ sizeLine) (hdf : d.params.defaults = []) (hr : Room k callerA)
    (F : ∀ (w : World) (mg : Str → Option Value) (fa : Addr) (h : Heap), YP w h → h.Ns mainGlobals mg → mg d.name = some (.ref fa) →
      ∃ (K : PySem.W.Frag) (fd : FuncData) (sp : Sp), K.In h ∧ (∀ (s : Shared) (u : Value), BindsTo s fd ⟨[u], []⟩ [(x, u)]) ∧
        (∀ (H : Hp) (a : Addr) (ns : List Int), ns.length ≤ n → Only H → SqL K H a (ns.map V.int) → sp [.ref a] H (fun v _ => v = .bl true) fun _ _ _ => False) ∧
        ∀ base : Heap, K.In base → base.Ns mainGlobals mg → FnOk l.prog w K mg base (L2.CX l.prog w) k fa fd [x] sp) :
    PySem.W.WalkO q loose XP YP l.row.toRowW d [] (fun f vs => PySem.call f vs) := by
  refine Att.attach_call hn hdf fun w s₀ s₁ mg mb fa o pm cd doc a vs ns G Y ho hd hcd hmg hobj hints hlen hg => ?_
  obtain ⟨K, fd, sp, KX, hb, hsp, hF⟩ := F w mg fa _ Y G.T.g hmg
  refine law_call KX G.T.g G.T.b G.T.builtins G.T.nolimit hg hobj hints (Nat.le_trans hlen hn2) hr hF hb (fun H hO hS => hsp H a ns hlen hO hS) fun H e s' hx => ?_
  obtain ⟨_, _, _, _, _, _, _, _, _, _, _, _, z⟩ := hx
  exact z.elim
theorem txt_of {K : PySem.W.Frag} {h : Heap} {mg : Str → Option Value} (X : K.In h) (G : h.Ns mainGlobals mg) (c : He.SaysD hfa hfn K) (e : hex K = true) : Txt K mg := by
  have e1 := He.ba e
  exact {
    d_L_mixed := by
      obtain ⟨fd, F⟩ := c.def_ 0 (d := h_L_mixed) rfl
      exact dfn_mk F (He.glo_ok X G (c.fact 0 (f := .glo "_law_mixed") rfl)) (fun _ _ _ _ _ _ us hl => match us, hl with | [_, _], _ => rfl)
    d_L_purse := by
      obtain ⟨fd, F⟩ := c.def_ 1 (d := h_L_purse) rfl
      exact dfn_mk F (He.glo_ok X G (c.fact 1 (f := .glo "_law_purse") rfl)) (fun _ _ _ _ _ _ us hl => match us, hl with | [_, _], _ => rfl)
    d_L_take := by
      obtain ⟨fd, F⟩ := c.def_ 2 (d := h_L_take) rfl
      exact dfn_mk F (He.glo_ok X G (c.fact 2 (f := .glo "_law_take") rfl)) (fun _ _ _ _ _ _ us hl => match us, hl with | [_, _], _ => rfl)
    d_L_at := by
      obtain ⟨fd, F⟩ := c.def_ 3 (d := h_L_at) rfl
      exact dfn_mk F (He.glo_ok X G (c.fact 3 (f := .glo "_law_at") rfl)) (fun _ _ _ _ _ _ us hl => match us, hl with | [_, _], _ => rfl)
    d_L_word := by
      obtain ⟨fd, F⟩ := c.def_ 4 (d := h_L_word) rfl
      exact dfn_mk F (He.glo_ok X G (c.fact 4 (f := .glo "_law_word") rfl)) (fun _ _ _ _ _ _ us hl => match us, hl with | [_], _ => rfl)
    d_L_words := by
      obtain ⟨fd, F⟩ := c.def_ 5 (d := h_L_words) rfl
      exact dfn_mk F (He.glo_ok X G (c.fact 5 (f := .glo "_law_words") rfl)) (fun _ _ _ _ _ _ us hl => match us, hl with | [], _ => rfl)
    d_L_touches := by
      obtain ⟨fd, F⟩ := c.def_ 6 (d := h_L_touches) rfl
      exact dfn_mk F (He.glo_ok X G (c.fact 6 (f := .glo "_law_touches") rfl)) (fun _ _ _ _ _ _ us hl => match us, hl with | [_, _, _], _ => rfl)
    d_L_grow := by
      obtain ⟨fd, F⟩ := c.def_ 7 (d := h_L_grow) rfl
      exact dfn_mk F (He.glo_ok X G (c.fact 7 (f := .glo "_law_grow") rfl)) (fun _ _ _ _ _ _ us hl => match us, hl with | [], _ => rfl)
    d_L_row := by
      obtain ⟨fd, F⟩ := c.def_ 8 (d := h_L_row) rfl
      exact dfn_mk F (He.glo_ok X G (c.fact 8 (f := .glo "_law_row") rfl)) (fun _ _ _ _ _ _ us hl => match us, hl with | [_, _, _], _ => rfl)
    d_L_rows := by
      obtain ⟨fd, F⟩ := c.def_ 9 (d := h_L_rows) rfl
      exact dfn_mk F (He.glo_ok X G (c.fact 9 (f := .glo "_law_rows") rfl)) (fun _ _ _ _ _ _ us hl => match us, hl with | [_, _], _ => rfl)
    d_law := by
      obtain ⟨fd, F⟩ := c.def_ 10 (d := h_law) rfl
      exact dfn_mk F (He.glo_ok X G (c.fact 10 (f := .glo "law") rfl)) (fun _ _ _ _ _ _ us hl => match us, hl with | [_], _ => rfl)
    d_run_end := by
      obtain ⟨fd, F⟩ := c.def_ 11 (d := h_run_end) rfl
      exact dfn_mk F (He.glo_ok X G (c.fact 11 (f := .glo "run_end") rfl)) (fun _ _ _ _ _ _ us hl => match us, hl with | [_, _, _, _], _ => rfl)
    d_lexeme_end := by
      obtain ⟨fd, F⟩ := c.def_ 12 (d := h_lexeme_end) rfl
      exact dfn_mk F (He.glo_ok X G (c.fact 12 (f := .glo "lexeme_end") rfl)) (fun _ _ _ _ _ _ us hl => match us, hl with | [_, _], _ => rfl)
    d_row_lexemes := by
      obtain ⟨fd, F⟩ := c.def_ 13 (d := h_row_lexemes) rfl
      exact dfn_mk F (He.glo_ok X G (c.fact 13 (f := .glo "row_lexemes") rfl)) (fun _ _ _ _ _ _ us hl => match us, hl with | [_, _], _ => rfl)
    d_lexemes := by
      obtain ⟨fd, F⟩ := c.def_ 14 (d := h_lexemes) rfl
      exact dfn_mk F (He.glo_ok X G (c.fact 14 (f := .glo "lexemes") rfl)) (fun _ _ _ _ _ _ us hl => match us, hl with | [_], _ => rfl)
    k_lexemes := by
      obtain ⟨fd, F⟩ := c.def_ 14 (d := h_lexemes) rfl
      have ef : fdAt K (He.ga K "lexemes") = fd := fdAt_eq F
      rw [ef]
      exact kbn0 F (fun us ws => us ++ ws) (fun r1 r2 => r1.append r2) (fun _ _ _ _ _ _ us ws h1 h2 => match us, h1, ws, h2 with | [], _, [_], _ => rfl)
    c_SMALL := by
      obtain ⟨t, q⟩ := He.str_ok X G (c.fact 15 (f := .str "SMALL" "abcdefghijklmnopqrstuvwxyz") rfl)
      exact ⟨_, q, ⟨t, rfl⟩⟩
    c_GREAT := by
      obtain ⟨t, q⟩ := He.str_ok X G (c.fact 16 (f := .str "GREAT" "ABCDEFGHIJKLMNOPQRSTUVWXYZ") rfl)
      exact ⟨_, q, ⟨t, rfl⟩⟩
    c_FIGURES := by
      obtain ⟨t, q⟩ := He.str_ok X G (c.fact 17 (f := .str "FIGURES" "0123456789") rfl)
      exact ⟨_, q, ⟨t, rfl⟩⟩
    c_WORDS := ⟨_, He.glo_ok X G (c.fact 18 (f := .glo "WORDS") rfl), rfl⟩
    c_SIGNS := ⟨_, He.glo_ok X G (c.fact 19 (f := .glo "SIGNS") rfl), rfl⟩
    c_MOST_LETTERS := by
      obtain ⟨t, q⟩ := He.int_ok X G (c.fact 20 (f := .int "MOST_LETTERS" 8) rfl)
      exact ⟨_, q, ⟨t, rfl⟩⟩
    t_WORDS := fun H => He.tupB_ok e1.1 H
    t_SIGNS := fun H => He.tupB_ok e1.2 H
    b_len := He.free_ok X G (c.fact 21 (f := .free "len") rfl)
    b_int := He.free_ok X G (c.fact 22 (f := .free "int") rfl)
    b_list := He.free_ok X G (c.fact 23 (f := .free "list") rfl)
    b_tuple := He.free_ok X G (c.fact 24 (f := .free "tuple") rfl)
    b_str := He.free_ok X G (c.fact 25 (f := .free "str") rfl)
    b_bool := He.free_ok X G (c.fact 26 (f := .free "bool") rfl)
    b_range := He.free_ok X G (c.fact 27 (f := .free "range") rfl)
    b_enumerate := He.free_ok X G (c.fact 28 (f := .free "enumerate") rfl)
    b_isinstance := He.free_ok X G (c.fact 29 (f := .free "isinstance") rfl) }
theorem hfacts {P : Program} {w : World} {K : PySem.W.Frag} {h : Heap} {mg : Str → Option Value} {f : Addr} (X : K.In h) (G : h.Ns mainGlobals mg) (hfa' : mg ("law" : Str) = some (.ref f)) (c : He.SaysD hfa hfn K) (e : hex K = true) :
    ∃ fd : FuncData, (∀ (s : Shared) (v : Value), BindsTo s fd ⟨[v], []⟩ [("_law_script", v)]) ∧ ∀ base : Heap, K.In base → base.Ns mainGlobals mg → FnOk P w K mg base (L2.CX P w) 6 f fd ["_law_script"] (spLaw K) := by
  have T := txt_of X G c e
  obtain ⟨fd, F⟩ := c.def_ 10 (d := h_law) rfl
  have ef : fdAt K (He.ga K "law") = fd := fdAt_eq F
  have eq := hfa'.symm.trans T.d_law.g
  cases eq
  have b := FunD.bindsA (ps := ["_law_script"]) F fun _ _ _ _ _ _ us hl => match us, hl with | [_], _ => rfl
  refine ⟨fd, fun s v => b s [v] rfl, fun base _ _ => ?_⟩
  rw [← ef]
  exact ok_law T
end Sw
open PySem PySem.W PySem.Calls PyProof.Rows
theorem PySem.Challenge.cw_slumberway_k01_lexemes_holds : PySem.Challenge.rw_slumberway_k01_lexemes.Holds := by
  w_on; o_law
  refine HandSHeadRun.head_any (r := OpenLaw.row PySem.Challenge.rw_slumberway_k01_lexemes) (q := view (OpenLaw.row PySem.Challenge.rw_slumberway_k01_lexemes).prog [25]) (H := Sw.hhk) (ob := Sw.hob) (M := 4000) (loose := Sw.hloose) (d := HandSHeadRun.topDef (OpenLaw.row PySem.Challenge.rw_slumberway_k01_lexemes).prog 25) (kwd := []) Sw.hob_eq
    (by kernel_rfl) (fun s => by kernel_rfl) Sw.hrun (by kernel_rfl) (by kernel_rfl) (by kernel_rfl) (by rfl) (by first | assumption | decide +kernel) (by decide +kernel) ⟨rfl, rfl, rfl, rfl, rfl, by decide +kernel⟩ ?hw ?hc
  case hw => w_witness2
  case hc =>
    refine Sw.walk_law (l := PySem.Challenge.rw_slumberway_k01_lexemes) (n := 63) (k := 6) (x := "_law_script") rfl (by decide) (by kernel_rfl) ⟨rfl, by decide, by decide⟩ ?F
    case F =>
      intro w mg fa h Y G hmg0
      obtain ⟨K, KX, c, ec⟩ := Y
      have hmg : mg ("law" : PySem.Str) = some (.ref fa) := by
        have e : (HandSHeadRun.topDef (OpenLaw.row PySem.Challenge.rw_slumberway_k01_lexemes).prog 25).name = ("law" : PySem.Str) := by kernel_rfl
        rw [← e]
        exact hmg0
      obtain ⟨fd, hb, hF⟩ := Sw.hfacts (P := (PySem.Challenge.rw_slumberway_k01_lexemes).prog) (w := w) KX G hmg c ec
      exact ⟨K, fd, Sw.spLaw K, KX, hb, fun H a ns hl _ hS => ⟨a, ns, rfl, hS, hl, fun _ => rfl⟩, hF⟩
