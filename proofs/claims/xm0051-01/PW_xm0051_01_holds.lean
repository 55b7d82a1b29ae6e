import PyProof.Rows.All
import Wide.All
import OpenK.AllK
import Wide.FinOn
import Lean
import PySem.Challenge.RW_xm0051_01

set_option Elab.async false

section
open PySem PySem.W PyProof.Rows
namespace Mine
abbrev theRow : OpenRow := PySem.Challenge.rw_xm0051_01.row
theorem boot_e : opening theRow.prog = plainProg theRow.prog.main.scope.names := by rfl
theorem boot_f : ∀ s, fenceModules? theRow.prog s = some s := fun _ => rfl
/-- the run of the top, its heap kept as a tree; 'ok' and 'go' are stepOk and stepT, or what the library shows equal to them -/
def treeRun (ok : Nat → Option Value → Thread → Bool) (go : Program → World → SharedT → Thread → Option (SharedT × Thread)) (p : Program) (w : World) (n₀ : Nat) (ann : Option Value) : Nat → SharedT → Thread → Option SharedT
  | 0, _, _ => none
  | n + 1, s, t => match through t with
    | true => some s
    | false => match ok n₀ ann t with
      | false => none
      | true => match go p w s t with
        | some (s', t') => treeRun ok go p w n₀ ann n s' t'
        | none => none
theorem treeRun_spec {tb : String → Option Builtin} {p : Program} {w : World} {n₀ : Nat} {ann : Option Value} : ∀ {n : Nat} {s s' : SharedT} {t : Thread},
    treeRun stepOk (stepT (denote tb)) p w n₀ ann n s t = some s' → topRun tb p w n₀ ann n s.abs t = some s'.abs
  | 0, _, _, _, h => by cases h
  | n + 1, s, s', t, h => by
    unfold treeRun at h
    unfold topRun
    cases e : through t with
    | true => rw [e] at h; cases h; rfl
    | false =>
      rw [e] at h
      cases k : stepOk n₀ ann t with
      | false => rw [k] at h; cases h
      | true =>
        rw [k] at h
        cases g : stepT (denote tb) p w s t with
        | none => rw [g] at h; cases h
        | some r => obtain ⟨s₂, t₂⟩ := r; rw [g] at h; rw [stepT_spec g]; exact treeRun_spec h
def growT : BT → Nat → List Obj → BT
  | T, _, [] => T
  | T, n, o :: r => growT (T.ins n o) (n + 1) r
noncomputable def bootS (w : World) (os : OsState) : SharedT := ⟨growT .nil 0 (boot_heap w.params).objs.toList, 11, (boot_heap w.params).life, #[], boot_drawn, boot_toks, os⟩
theorem boot_abs (w : World) (os : OsState) : (bootS w os).abs = ⟨boot_heap w.params, #[], boot_drawn, boot_toks, os⟩ := by kernel_rfl
theorem boot_size (w : World) : ((boot_heap w.params).isNs mainGlobals && (#[] : Array GenState).size == 0, (boot_heap w.params).objs.size, (boot_heap w.params).nsMap mainGlobals "__annotations__") = (true, 11, some (.ref 6)) := by kernel_rfl
/-- what is asked behind the run -/
noncomputable def behindIt (h : Heap) (s : Shared) : Bool := staticsOk (importedModules theRow.prog.main.body) h s.heap && namesBound theRow.prog s.heap && gensDone s && laidKept h s.heap
/-- the state behind the top -/
noncomputable def endRun (N : Nat) (w : World) (os : OsState) : Option SharedT :=
  treeRun PySem.W.Fast.tw6613529449190102663 (PySem.W.Fast.tw10156331382660048174 (PySem.W.Fast.tw11892475500146522536 PySem.W.Fast.tw14364793385576792824)) theRow.prog w 11 (some (.ref 6)) N (bootS w os) (topStub theRow.prog)
/-- the statements that the look at the top keeps: all but the five that name a module -/
noncomputable def theView : Program := PySem.W.view theRow.prog [1, 2, 3, 4, 5, 6, 7, 8, 9, 11, 12, 13, 14, 15, 17, 18, 19, 20, 21, 22, 23, 24, 25, 26, 27, 28, 30, 31, 32, 33, 34, 35, 36, 37, 38, 40, 41, 42, 43, 44, 45]
abbrev theLoose : List Str := [Str.ofString "BasicError"]
noncomputable def theXt (s : Shared) : Bool := xlAt theView [] s && recOk (RowW.records theRow.toRowW) s
noncomputable abbrev seenQ (s : Shared) := PySem.W.Fast.tw4187177175401517315 theView theLoose (importedModules theRow.prog.main.body) theXt true s
theorem end_behind : ∀ w : World, (fun os => (endRun 2970 w os).map fun s => behindIt (boot_heap w.params) s.abs) = fun _ => some true := by
  intro w
  kernel_rfl
theorem end_defs : ∀ w : World, (fun os => (endRun 2970 w os).map fun s => (seenQ s.abs).1) = fun _ => some (expectedOf theView) := by
  intro w
  kernel_rfl
theorem end_rest : ∀ w : World, (fun os => (endRun 2970 w os).map fun s => (seenQ s.abs).2) = fun _ => some (bltViewBooted, true, true, pinGoodD (drecsOf theView), plainGoodE theView (looseW theView theLoose), plainGoodD theView theLoose, wideGood theView, clsGoodW theView theLoose) := by
  intro w
  kernel_rfl
theorem seen_of {q : Program} {loose mods : List Str} {Xt : Shared → Bool} {g0 : Bool} {s : Shared} (a : (PySem.W.Fast.tw4187177175401517315 q loose mods Xt g0 s).1 = expectedOf q)
    (b : (PySem.W.Fast.tw4187177175401517315 q loose mods Xt g0 s).2 = (bltViewBooted, true, true, pinGoodD (drecsOf q), plainGoodE q (looseW q loose), plainGoodD q loose, wideGood q, clsGoodW q loose)) :
    openSeen q loose mods Xt g0 s = openGood q loose := by
  rw [PySem.W.Fast.te4187177175401517315]
  exact Prod.ext a b
theorem left_gen {N : Nat} {q : Program} {loose : List Str} {Xt : Shared → Bool} {α : Type} {Yf : Shared → α} {Ya : World → α}
    (hN : Nat.ble 600 N = true) (h1 : ∀ w : World, (fun os => (endRun N w os).map fun s => behindIt (boot_heap w.params) s.abs) = fun _ => some true)
    (h2 : ∀ w : World, (fun os => (endRun N w os).map fun s => (PySem.W.Fast.tw4187177175401517315 q loose (importedModules theRow.prog.main.body) Xt true s.abs).1) = fun _ => some (expectedOf q))
    (h3 : ∀ w : World, (fun os => (endRun N w os).map fun s => (PySem.W.Fast.tw4187177175401517315 q loose (importedModules theRow.prog.main.body) Xt true s.abs).2) =
      fun _ => some (bltViewBooted, true, true, pinGoodD (drecsOf q), plainGoodE q (looseW q loose), plainGoodD q loose, wideGood q, clsGoodW q loose))
    (h4 : ∀ w : World, (fun os => (endRun N w os).map fun s => Yf s.abs) = fun _ => some (Ya w)) : LeftO theRow.prog q loose Xt Yf Ya N := fun w => by
  obtain ⟨⟨h, gs, d, k, os⟩, e, e'⟩ := Option.map_eq_some_iff.mp (boot_open (N := N) boot_e hN boot_f w)
  obtain ⟨rfl, rfl, rfl, rfl⟩ : h = boot_heap w.params ∧ gs = #[] ∧ d = boot_drawn ∧ k = boot_toks := by simpa using e'
  obtain ⟨s, hs, hv⟩ := Option.map_eq_some_iff.mp (congrFun (h4 w) os)
  have part {β : Type} {f : World → SharedT → β} {v : World → β} (p : ∀ w : World, (fun os => (endRun N w os).map (f w)) = fun _ => some (v w)) : f w s = v w := by
    have := congrFun (p w) os
    simp only [hs, Option.map_some, Option.some.injEq] at this
    exact this
  have v1 := part h1
  have v2 := seen_of (part h2) (part h3)
  obtain ⟨z1, hz⟩ := Prod.mk.inj (boot_size w)
  obtain ⟨z2, z3⟩ := Prod.mk.inj hz
  unfold endRun at hs
  rw [← PySem.W.Fast.te6613529449190102663, ← PySem.W.Fast.te10156331382660048174, ← PySem.W.Fast.te11892475500146522536, ← PySem.W.Fast.te14364793385576792824] at hs
  have r := treeRun_spec hs
  rw [boot_abs] at r
  have t : topFrom treeTable theRow.prog w N ⟨boot_heap w.params, #[], boot_drawn, boot_toks, os⟩ = some s.abs := by
    unfold topFrom
    dsimp only
    rw [z1, z2, z3, r]
    show (match behindIt (boot_heap w.params) s.abs with | true => some s.abs | false => none) = some s.abs
    rw [v1]
  unfold openEnds
  rw [e]
  show (topFrom _ _ _ _ _).map _ = _
  rw [t]
  exact congrArg some (looks_pair v2 hv)
theorem left_of {q : Program} {loose : List Str} {Xt : Shared → Bool} {α : Type} {Yf : Shared → α} {Ya : World → α} {N : Nat}
    (left : ∀ w : World, (N, q, loose, Xt, fun os => (endRun 2970 w os).map fun s => Yf s.abs) = (2970, theView, theLoose, theXt, fun _ => some (Ya w))) :
    LeftO theRow.prog q loose Xt Yf Ya N := fun w => by
  have H : ∀ w : World, (fun os => (endRun 2970 w os).map fun s => Yf s.abs) = fun _ => some (Ya w) := fun w => (Prod.mk.inj (Prod.mk.inj (Prod.mk.inj (Prod.mk.inj (left w)).2).2).2).2
  obtain ⟨e1, h⟩ := Prod.mk.inj (left w)
  obtain ⟨e2, h⟩ := Prod.mk.inj h
  obtain ⟨e3, h⟩ := Prod.mk.inj h
  obtain ⟨e4, _⟩ := Prod.mk.inj h
  clear left h
  subst e1 e2 e3 e4
  exact left_gen (by decide) end_behind end_defs end_rest H w
end Mine
namespace Mine.PySem.W
set_option linter.defProp false in
/-- the library's holds_open with its first premise in another form: the head's tactic, run in this namespace, takes this one -/
def holds_open {q : Program} {loose : List Str} {Xt : Shared → Bool} {XP : (Str → Option Value) → Heap → Prop} {α : Type} {Yf : Shared → α} {Ya : World → α} {YP : World → Heap → Prop} {d : DefRec} {kwd : List (Str × PySem.Expr)} {N : Nat}
    (left : ∀ w : World, (N, q, loose, Xt, fun os => (endRun 2970 w os).map fun s => Yf s.abs) = (2970, theView, theLoose, theXt, fun _ => some (Ya w))) :=
  @_root_.PySem.W.holds_open theRow q loose Xt XP α Yf Ya YP d kwd N (left_of left)
end Mine.PySem.W
namespace Mine
set_option maxRecDepth 100000 in
set_option maxHeartbeats 8000000 in
open_top hd for PySem.Challenge.rw_xm0051_01
end Mine
end

section
open PySem PySem.W PyProof.Rows
namespace Mine
def later (s : Int) : Int := (s * 214013 + 2531011) % 16777216
theorem later_eq (n : Int) : (n * 214013 + 2531011).fmod (1 * 2 ^ Int.toNat 24) = later n := by
  unfold later
  rw [Int.fmod_eq_emod_of_nonneg _ (by decide)]
  rfl

/-- the count of figures: what of it is asked -/
def FigsOf (n k : Int) : Prop := 1 ≤ k ∧ k ≤ 10 ∧ (k ≤ 9 ↔ n < 1000000000)
def FigWord (n many bound : Int) : Prop :=
  (many = 1 ∧ bound = 10) ∨ (many = 2 ∧ bound = 100 ∧ 10 ≤ n) ∨ (many = 3 ∧ bound = 1000 ∧ 100 ≤ n) ∨ (many = 4 ∧ bound = 10000 ∧ 1000 ≤ n) ∨
  (many = 5 ∧ bound = 100000 ∧ 10000 ≤ n) ∨ (many = 6 ∧ bound = 1000000 ∧ 100000 ≤ n) ∨ (many = 7 ∧ bound = 10000000 ∧ 1000000 ≤ n) ∨
  (many = 8 ∧ bound = 100000000 ∧ 10000000 ≤ n) ∨ (many = 9 ∧ bound = 1000000000 ∧ 100000000 ≤ n) ∨ (many = 10 ∧ bound = 10000000000 ∧ 1000000000 ≤ n)
theorem figWord_start (n : Int) : FigWord n 1 10 := .inl ⟨rfl, rfl⟩
theorem figWord_turn {n many bound : Int} (hn : n < 10000000000) (h : FigWord n many bound) (hb : bound ≤ n) : FigWord n (many + 1) (bound * 10) := by
  unfold FigWord at *
  rcases h with h | h | h | h | h | h | h | h | h | h <;> obtain ⟨h1, h2⟩ := h <;> subst h1
  · right; left; omega
  · right; right; left; omega
  · right; right; right; left; omega
  · right; right; right; right; left; omega
  · right; right; right; right; right; left; omega
  · right; right; right; right; right; right; left; omega
  · right; right; right; right; right; right; right; left; omega
  · right; right; right; right; right; right; right; right; left; omega
  · right; right; right; right; right; right; right; right; right; omega
  · omega
theorem figWord_less {n many bound : Int} (hn : n < 10000000000) (h : FigWord n many bound) (hb : bound ≤ n) : (11 - (many + 1)).toNat < (11 - many).toNat := by
  unfold FigWord at h
  rcases h with h | h | h | h | h | h | h | h | h | h <;> omega
theorem figWord_end {n many bound : Int} (h : FigWord n many bound) (hb : ¬ bound ≤ n) : FigsOf n many := by
  unfold FigWord at h
  unfold FigsOf
  rcases h with h | h | h | h | h | h | h | h | h | h <;> omega

section
variable {w : World} {mean : ExcName → Option Value} {mg mb : Str → Option Value} {dp un : Nat} {gd : Option (List Code)} {cn : Str} {cs : Scope} {a : Addr} {ccd : Value} {cl : List (Str × Addr)}
  {outer : List Env} {A₀ : Around} {base h₀ : Heap} {L : Addr} {m : Str → Option Value} {news : List (Addr × Obj)} {s : Shared} {Q E : Value → Shared → Prop}

set_option maxRecDepth 100000 in
set_option maxHeartbeats 8000000 in
theorem later_use {n : Int} {t : Tok} (B : Below A₀ base outer h₀) (F : Fr h₀ L s.heap m) (X : (hd.heap_39 w.params).In h₀) (N : News h₀ L s.heap news)
    (T : Top hd.view_39 (looseW hd.view_39 [Str.ofString "BasicError"]) mean mg mb h₀) (hk : cs.kind = .function) (ok1 : 0 ≤ n) (ok2 : n < 16777216)
    (hd : dp + 1 < recursionLimit) (hu : un + 8 < cLine)
    (ret : ∀ t' h' tk', Fr h₀ L h' m → News h₀ L h' news → Q (.int (later n) t') { s with heap := h', toks := tk' }) :
    wpAny (model PySem.Challenge.rw_xm0051_01.row.prog w) (ktrTop dp un gd cn cs L a ccd cl outer) (call (.ref 93) [.int n t]) Q E s := by
  k_with_none
  revert X
  k_fill
  intro X
  refine wpAny_call ?_
  k_dflt ktr_enter
  w_strict k_steps
  all_goals (rw [later_eq]; exact ret _ _ _ (by k_asm) (by k_asm))

set_option maxRecDepth 100000 in
set_option maxHeartbeats 8000000 in
theorem figs_use {n : Int} {t : Tok} (B : Below A₀ base outer h₀) (F : Fr h₀ L s.heap m) (X : (hd.heap_39 w.params).In h₀) (N : News h₀ L s.heap news)
    (T : Top hd.view_39 (looseW hd.view_39 [Str.ofString "BasicError"]) mean mg mb h₀) (hk : cs.kind = .function) (ok1 : 0 ≤ n) (ok2 : n < 10000000000)
    (hd : dp + 1 < recursionLimit) (hu : un + 8 < cLine)
    (ret : ∀ k t' h' tk', Fr h₀ L h' m → News h₀ L h' news → FigsOf n k → Q (.int k t') { s with heap := h', toks := tk' }) :
    wpAny (model PySem.Challenge.rw_xm0051_01.row.prog w) (ktrTop dp un gd cn cs L a ccd cl outer) (call (.ref 44) [.int n t]) Q E s := by
  k_with_none
  revert X
  k_fill
  intro X
  refine wpAny_call ?_
  k_dflt ktr_enter
  k_with "exec While Compare cons nil" => k_while (fun _ many bound => FigWord n many bound) (fun _ many _ => (11 - many).toNat) "many" "bound"
  k_with "state" => first | exact figWord_start _ | exact figWord_turn (by assumption) (by assumption) (by assumption)
  k_with "measure" => exact figWord_less (by assumption) (by assumption) (by assumption)
  w_strict k_steps
  all_goals (refine ret _ _ _ _ (by k_asm) ?_ (figWord_end (by assumption) (by assumption)); refine' cb_drop ?cbN ?cbS; (case cbN => assumption); (case cbS => kcj_all))
end
end Mine
end

section
open PySem PySem.W PyProof.Rows
namespace Mine
/-- one figure fewer, half to even -/
def rnd (n : Int) : Int := if 5 < n % 10 ∨ (n % 10 = 5 ∧ (n / 10) % 2 = 1) then n / 10 + 1 else n / 10
theorem fmod10 (n : Int) : n.fmod (10 ^ Int.toNat 1) = n % 10 := Int.fmod_eq_emod_of_nonneg _ (by decide)
theorem fdiv10 (n : Int) : n.fdiv (10 ^ Int.toNat 1) = n / 10 := Int.fdiv_eq_ediv_of_nonneg _ (by decide)
theorem fmod2 (n : Int) : n.fmod 2 = n % 2 := Int.fmod_eq_emod_of_nonneg _ (by decide)
theorem pow1 : (10 : Int) ^ Int.toNat 1 = 10 := by decide
theorem rnd_a {n : Int} (h : 10 ^ Int.toNat 1 < 2 * n.fmod (10 ^ Int.toNat 1)) : n.fdiv (10 ^ Int.toNat 1) + 1 = rnd n := by
  rw [fmod10, pow1] at h; rw [fdiv10]; unfold rnd; rw [if_pos (.inl (by omega))]
theorem rnd_b {n : Int} (h : 2 * n.fmod (10 ^ Int.toNat 1) = 10 ^ Int.toNat 1) (h' : (n.fdiv (10 ^ Int.toNat 1)).fmod 2 = 1) : n.fdiv (10 ^ Int.toNat 1) + 1 = rnd n := by
  rw [fmod10, pow1] at h; rw [fdiv10, fmod2] at h'; rw [fdiv10]; unfold rnd; rw [if_pos (.inr ⟨by omega, h'⟩)]
theorem rnd_c {n : Int} (h : 2 * n.fmod (10 ^ Int.toNat 1) = 10 ^ Int.toNat 1) (h' : (n.fdiv (10 ^ Int.toNat 1)).fmod 2 ≠ 1) : n.fdiv (10 ^ Int.toNat 1) = rnd n := by
  rw [fmod10, pow1] at h; rw [fdiv10, fmod2] at h'; rw [fdiv10]; unfold rnd; rw [if_neg (by omega)]
theorem rnd_d {n : Int} (h : ¬ 10 ^ Int.toNat 1 < 2 * n.fmod (10 ^ Int.toNat 1)) (h' : 2 * n.fmod (10 ^ Int.toNat 1) ≠ 10 ^ Int.toNat 1) : n.fdiv (10 ^ Int.toNat 1) = rnd n := by
  rw [fmod10, pow1] at h h'; rw [fdiv10]; unfold rnd; rw [if_neg (by omega)]
theorem rnd_lo {n : Int} (h : 0 ≤ n) : 0 ≤ rnd n := by unfold rnd; split <;> omega
theorem rnd_near (n : Int) : 10 * rnd n ≤ n + 5 ∧ n ≤ 10 * rnd n + 5 := by unfold rnd; split <;> omega
section
variable {w : World} {mean : ExcName → Option Value} {mg mb : Str → Option Value} {dp un : Nat} {gd : Option (List Code)} {cn : Str} {cs : Scope} {a : Addr} {ccd : Value} {cl : List (Str × Addr)}
  {outer : List Env} {A₀ : Around} {base h₀ : Heap} {L : Addr} {m : Str → Option Value} {news : List (Addr × Obj)} {s : Shared} {Q E : Value → Shared → Prop}
set_option maxRecDepth 100000 in
set_option maxHeartbeats 8000000 in
theorem rnd_use {n q : Int} {t u : Tok} (B : Below A₀ base outer h₀) (F : Fr h₀ L s.heap m) (X : (hd.heap_39 w.params).In h₀) (N : News h₀ L s.heap news)
    (T : Top hd.view_39 (looseW hd.view_39 [Str.ofString "BasicError"]) mean mg mb h₀) (hk : cs.kind = .function) (hq : q = 1) (ok1 : 0 ≤ n) (ok2 : n < 10000000000)
    (hd : dp + 2 < recursionLimit) (hu : un + 16 < cLine)
    (ret : ∀ t' h' tk', Fr h₀ L h' m → News h₀ L h' news → Q (.int (rnd n) t') { s with heap := h', toks := tk' }) :
    wpAny (model PySem.Challenge.rw_xm0051_01.row.prog w) (ktrTop dp un gd cn cs L a ccd cl outer) (call (.ref 51) [.int n t, .int q u]) Q E s := by
  subst hq
  k_with_none
  revert X
  k_fill
  intro X
  refine wpAny_call ?_
  k_dflt ktr_enter
  k_with "call ref" => ((refine' figs_use ?k1 ?k2 ?k3 ?k4 ?k5 ?kK ?ko ?kp ?kd ?ku ?_); (case k1 => k_asm); (case k2 => k_asm); (case k3 => k_asm); (case k4 => k_asm); (case k5 => k_asm); (case kK => first | exact rfl | assumption); (case ko => omega); (case kp => omega); (case kd => ktr_room); (case ku => ktr_units); intro k' t' h' tk' F' N' hF'; obtain ⟨hF1, hF2, hF3⟩ := hF')
  w_strict k_steps
  all_goals (first | rw [rnd_a (by assumption)] | rw [rnd_b (by assumption) (by assumption)] | rw [rnd_c (by assumption) (by assumption)] | rw [rnd_d (by assumption) (by assumption)])
  all_goals (refine ret _ _ _ (by k_asm) ?_; first | k_asm | (refine' cb_drop ?cbN ?cbS; (case cbN => assumption); (case cbS => kcj_all)))
end
end Mine
end

section
open PySem PySem.W PyProof.Rows
namespace Mine
/-- the noughts at the end go into the exponent -/
def stripF : Nat → Int → Int → Int × Int
  | 0, s, e => (s, e)
  | f + 1, s, e => if s % 10 = 0 then stripF f (s / 10) (e + 1) else (s, e)
def strip (s e : Int) : Int × Int := stripF s.toNat s e
theorem stripF_enough : ∀ (f g : Nat) (s e : Int), 0 < s → s.toNat ≤ f → s.toNat ≤ g → stripF f s e = stripF g s e
  | 0, _, s, _, h, hf, _ => by omega
  | _ + 1, 0, s, _, h, _, hg => by omega
  | f + 1, g + 1, s, e, h, hf, hg => by
    unfold stripF
    split
    · exact stripF_enough f g (s / 10) (e + 1) (by omega) (by omega) (by omega)
    · rfl
theorem strip_turn {s e : Int} (h : 0 < s) (hs : s % 10 = 0) : strip (s / 10) (e + 1) = strip s e := by
  unfold strip
  obtain ⟨n, hn⟩ : ∃ n, s.toNat = n + 1 := ⟨s.toNat - 1, by omega⟩
  rw [hn]
  show _ = if s % 10 = 0 then stripF n (s / 10) (e + 1) else (s, e)
  rw [if_pos hs]
  exact stripF_enough _ _ _ _ (by omega) (Nat.le_refl _) (by omega)
theorem strip_end {s e : Int} (hs : s % 10 ≠ 0) : strip s e = (s, e) := by
  unfold strip
  cases s.toNat with
  | zero => rfl
  | succ n => show (if s % 10 = 0 then stripF n (s / 10) (e + 1) else (s, e)) = _; rw [if_neg hs]
/-- what made answers, of nine figures -/
def made9 (c e : Int) : Int × Int :=
  if c = 0 then (0, 0) else if c < 1000000000 then strip c e else strip (rnd c) (e + 1)
def MadeWord (c e size exponent : Int) : Prop :=
  0 < size ∧ strip size exponent = made9 c e ∧
  ((exponent = e ∧ size < 10000000000) ∨ (exponent = e + 1 ∧ size ≤ 1000000000) ∨ (exponent = e + 2 ∧ size ≤ 100000000) ∨ (exponent = e + 3 ∧ size ≤ 10000000) ∨
   (exponent = e + 4 ∧ size ≤ 1000000) ∨ (exponent = e + 5 ∧ size ≤ 100000) ∨ (exponent = e + 6 ∧ size ≤ 10000) ∨ (exponent = e + 7 ∧ size ≤ 1000) ∨
   (exponent = e + 8 ∧ size ≤ 100) ∨ (exponent = e + 9 ∧ size ≤ 10) ∨ (exponent = e + 10 ∧ size ≤ 1))
theorem madeWord_low {c e : Int} (h : 0 < c) (h9 : c < 1000000000) : MadeWord c e c e :=
  ⟨h, by unfold made9; rw [if_neg (by omega), if_pos h9], .inl ⟨rfl, by omega⟩⟩
theorem madeWord_high {c e x : Int} (h : c < 10000000000) (h9 : ¬ c < 1000000000) (hx : x = e + 1) : MadeWord c e (rnd c) x := by
  subst hx
  have := rnd_near c
  exact ⟨by omega, by unfold made9; rw [if_neg (by omega), if_neg h9], .inr (.inl ⟨rfl, by omega⟩)⟩
theorem madeWord_turn {c e s x : Int} (h : MadeWord c e s x) (hs : s.fmod 10 = 0) : MadeWord c e (s.fdiv 10) (x + 1) := by
  rw [Int.fmod_eq_emod_of_nonneg _ (by decide)] at hs
  rw [Int.fdiv_eq_ediv_of_nonneg _ (by decide)]
  obtain ⟨h1, h2, h3⟩ := h
  refine ⟨by omega, (strip_turn h1 hs).trans h2, ?_⟩
  rcases h3 with h | h | h | h | h | h | h | h | h | h | h <;> obtain ⟨h3, h4⟩ := h <;> subst h3
  · right; left; omega
  · right; right; left; omega
  · right; right; right; left; omega
  · right; right; right; right; left; omega
  · right; right; right; right; right; left; omega
  · right; right; right; right; right; right; left; omega
  · right; right; right; right; right; right; right; left; omega
  · right; right; right; right; right; right; right; right; left; omega
  · right; right; right; right; right; right; right; right; right; left; omega
  · right; right; right; right; right; right; right; right; right; right; omega
  · omega
theorem madeWord_less {c e s x : Int} (h : MadeWord c e s x) (hs : s.fmod 10 = 0) : (s.fdiv 10).toNat < s.toNat := by
  rw [Int.fdiv_eq_ediv_of_nonneg _ (by decide)]
  have := h.1
  omega
theorem madeWord_room {c e s x : Int} (h : MadeWord c e s x) : 0 < s ∧ s < 10000000000 ∧ e ≤ x ∧ x ≤ e + 10 := by
  obtain ⟨h1, _, h3⟩ := h
  rcases h3 with h | h | h | h | h | h | h | h | h | h | h <;> omega
theorem madeWord_end {c e s x : Int} (h : MadeWord c e s x) (hs : s.fmod 10 ≠ 0) : made9 c e = (s, x) := by
  rw [Int.fmod_eq_emod_of_nonneg _ (by decide)] at hs
  rw [← h.2.1, strip_end hs]
theorem made9_zero {c e : Int} (h : c = 0) : made9 c e = (0, 0) := by unfold made9; rw [if_pos h]
section
variable {w : World} {mean : ExcName → Option Value} {mg mb : Str → Option Value} {dp un : Nat} {gd : Option (List Code)} {cn : Str} {cs : Scope} {a : Addr} {ccd : Value} {cl : List (Str × Addr)}
  {outer : List Env} {A₀ : Around} {base h₀ : Heap} {L : Addr} {m : Str → Option Value} {news : List (Addr × Obj)} {s : Shared} {Q E : Value → Shared → Prop}
abbrev tupOf (x : Int) (t : Tok) (y : Int) (u : Tok) : Obj := { cls := .type "tuple", data := .seq #[.int x t, .int y u] 0 }
theorem made_end {c e x y : Int} {D : Addr} {t1 t2 : Tok} {h' : Heap} {tk' : Nat} {news' : List (Addr × Obj)}
    (ret : ∀ D t1 t2 h' tk', Fr h₀ L h' m → News h₀ L h' ((D, tupOf (made9 c e).1 t1 (made9 c e).2 t2) :: news) → (∀ p ∈ news, p.1 < D) → Q (.ref D) { s with heap := h', toks := tk' })
    (hM : made9 c e = (x, y)) (F : Fr h₀ L h' m) (N : News h₀ L h' news') (hi : (D, tupOf x t1 y t2) ∈ news') (hs : ∀ p ∈ news, p ∈ news') (hl : ∀ p ∈ news, p.1 < D) : Q (.ref D) { s with heap := h', toks := tk' } := by
  refine ret D t1 t2 h' tk' F ?_ hl
  rw [hM]
  intro p hp
  rcases List.mem_cons.mp hp with rfl | hp
  · exact N _ hi
  · exact N _ (hs p hp)
set_option maxRecDepth 100000 in
set_option maxHeartbeats 8000000 in
theorem made_use {c e : Int} {t u v : Tok} (B : Below A₀ base outer h₀) (F : Fr h₀ L s.heap m) (X : (hd.heap_39 w.params).In h₀) (N : News h₀ L s.heap news)
    (T : Top hd.view_39 (looseW hd.view_39 [Str.ofString "BasicError"]) mean mg mb h₀) (hk : cs.kind = .function) (ok1 : 0 ≤ c) (ok2 : c < 10000000000) (ok3 : -20 ≤ e) (ok4 : e ≤ 20)
    (hd : dp + 3 < recursionLimit) (hu : un + 24 < cLine)
    (ret : ∀ D t1 t2 h' tk', Fr h₀ L h' m → News h₀ L h' ((D, tupOf (made9 c e).1 t1 (made9 c e).2 t2) :: news) → (∀ p ∈ news, p.1 < D) → Q (.ref D) { s with heap := h', toks := tk' }) :
    wpAny (model PySem.Challenge.rw_xm0051_01.row.prog w) (ktrTop dp un gd cn cs L a ccd cl outer) (call (.ref 58) [.int c t, .int e u, .int 9 v]) Q E s := by
  k_with_none
  revert X
  k_fill
  intro X
  refine wpAny_call ?_
  k_dflt ktr_enter
  k_with "call ref" => ((refine' figs_use ?k1 ?k2 ?k3 ?k4 ?k5 ?kK ?ko ?kp ?kd ?ku ?_); (case k1 => k_asm); (case k2 => k_asm); (case k3 => k_asm); (case k4 => k_asm); (case k5 => k_asm); (case kK => first | exact rfl | assumption); (case ko => first | omega | ((rename MadeWord _ _ _ _ => hMW); have hMR := madeWord_room hMW; omega)); (case kp => first | omega | ((rename MadeWord _ _ _ _ => hMW); have hMR := madeWord_room hMW; omega)); (case kd => ktr_room); (case ku => ktr_units); intro k' t' h' tk' F' N' hF'; obtain ⟨hF1, hF2, hF3⟩ := hF'; try ((rename MadeWord _ _ _ _ => hMW); obtain ⟨hM1, hM2, hM3, hM4⟩ := madeWord_room hMW))
  k_with "call ref" => ((refine' rnd_use ?k1 ?k2 ?k3 ?k4 ?k5 ?kK ?kq ?ko ?kp ?kd ?ku ?_); (case k1 => k_asm); (case k2 => k_asm); (case k3 => k_asm); (case k4 => k_asm); (case k5 => k_asm); (case kK => first | exact rfl | assumption); (case kq => omega); (case ko => omega); (case kp => omega); (case kd => ktr_room); (case ku => ktr_units); intro t' h' tk' F' N'; have hRN := rnd_near c)
  k_with "call builtin:abs" => (refine call_abs_int ?_; rw [if_neg (by omega)]; intro _ _)
  k_with "exec While Compare cons nil" => k_while (fun _ size exponent => MadeWord c e size exponent) (fun _ size _ => size.toNat) "size" "exponent"
  k_with "state" => first | exact madeWord_turn (by assumption) (by assumption) | exact madeWord_low (by omega) (by omega) | exact madeWord_high (by omega) (by omega) (by omega)
  k_with "measure" => exact madeWord_less (by assumption) (by assumption)
  w_strict k_steps
  all_goals (try (exfalso; omega))
  all_goals ((first | (refine' made_end ret (made9_zero (by assumption)) ?f ?n ?i ?s ?l) | ((rename MadeWord _ _ _ _ => hMW); (rename Int.fmod _ 10 ≠ 0 => hMN); refine' made_end ret (madeWord_end hMW hMN) ?f ?n ?i ?s ?l)); (case n => assumption); (case f => k_asm); (case i => k_mem); (case s => kcj_all); (case l => first | assumption | ((rename (_ ∧ AllLt _ _) => hLo); exact ktn_ltOf hLo.2)))
end
end Mine
end

section
open PySem PySem.W PyProof.Rows
namespace Mine
def floorV (x y : Int) : Int := if y = 0 then x else x.fdiv (10 ^ (0 - y).toNat)
theorem floorV_a {x y : Int} (h : y ≤ 0) (h' : 0 ≤ y) : x * 10 ^ y.toNat = floorV x y := by
  have : y = 0 := by omega
  subst this
  unfold floorV
  rw [if_pos rfl]
  simp
theorem floorV_b {x y : Int} (h : ¬ 0 ≤ y) : x.fdiv (10 ^ (0 - y).toNat) = floorV x y := by
  unfold floorV
  rw [if_neg (by omega)]
theorem pow_ne (k : Nat) : (10 : Int) ^ k ≠ 0 := Int.ne_of_gt (Int.pow_pos (by decide))
theorem pow_small {k : Nat} (h : k ≤ 9) : ((10 : Int) ^ k).natAbs < 1073741824 := by
  have : ∀ k ≤ 9, ((10 : Int) ^ k).natAbs < 1073741824 := by decide
  exact this k h
section
variable {w : World} {mean : ExcName → Option Value} {mg mb : Str → Option Value} {dp un : Nat} {gd : Option (List Code)} {cn : Str} {cs : Scope} {a : Addr} {ccd : Value} {cl : List (Str × Addr)}
  {outer : List Env} {A₀ : Around} {base h₀ : Heap} {L : Addr} {m : Str → Option Value} {news : List (Addr × Obj)} {s : Shared} {Q E : Value → Shared → Prop}
set_option maxRecDepth 100000 in
set_option maxHeartbeats 8000000 in
theorem floor_use {x y : Int} {D : Addr} {t1 t2 : Tok} (B : Below A₀ base outer h₀) (F : Fr h₀ L s.heap m) (X : (hd.heap_39 w.params).In h₀) (N : News h₀ L s.heap news)
    (T : Top hd.view_39 (looseW hd.view_39 [Str.ofString "BasicError"]) mean mg mb h₀) (hk : cs.kind = .function) (hm : (D, tupOf x t1 y t2) ∈ news) (ok1 : -9 ≤ y) (ok2 : y ≤ 0)
    (ok3 : 0 ≤ x) (ok4 : x < 10000000000)
    (hd : dp + 1 < recursionLimit) (hu : un + 8 < cLine)
    (ret : ∀ t' h' tk', Fr h₀ L h' m → News h₀ L h' news → Q (.int (floorV x y) t') { s with heap := h', toks := tk' }) :
    wpAny (model PySem.Challenge.rw_xm0051_01.row.prog w) (ktrTop dp un gd cn cs L a ccd cl outer) (call (.ref 171) [.ref D]) Q E s := by
  k_with_none
  revert X
  k_fill
  intro X
  refine wpAny_call ?_
  k_dflt ktr_enter
  k_with "binaryOp FloorDiv int int" => (refine floordiv_int (pow_ne _) ?_ (Or.inl (PyProof.noPylong_small (pow_small (by omega)))))
  w_strict k_steps
  all_goals (first | rw [floorV_a (by assumption) (by assumption)] | rw [floorV_b (by assumption)])
  all_goals (refine ret _ _ _ (by k_asm) ?_; first | k_asm | (refine' cb_drop ?cbN ?cbS; (case cbN => assumption); (case cbS => kcj_all)))
end
end Mine
end

section
open PySem PySem.W PyProof.Rows
namespace Mine
def cutSeed (n : Int) : Int := (n * 10 ^ Int.toNat 9).fdiv (2 ^ Int.toNat 24)
def tell (n : Int) : Int × Int := made9 (cutSeed n) (-9)
def tell2 (n : Int) : Int × Int := made9 (tell n).1 (tell n).2
def prod9 (n m : Int) : Int × Int := made9 ((tell2 n).1 * (made9 m 0).1) ((tell2 n).2 + (made9 m 0).2)
def place (n m : Int) : Int := floorV (prod9 n m).1 (prod9 n m).2

theorem cutSeed_eq (n : Int) : cutSeed n = n * 1000000000 / 16777216 := by
  unfold cutSeed
  rw [Int.fdiv_eq_ediv_of_nonneg _ (by decide)]
  rfl
theorem cutSeed_room {n : Int} (h : 0 ≤ n) (h' : n < 16777216) : 0 ≤ cutSeed n ∧ cutSeed n ≤ 999999940 := by
  rw [cutSeed_eq]; omega
theorem stripF_spec : ∀ (f : Nat) (s e : Int), 0 < s → ∃ j : Nat, (stripF f s e).1 * 10 ^ j = s ∧ (stripF f s e).2 = e + (j : Int) ∧ 0 < (stripF f s e).1
  | 0, s, e, h => ⟨0, by simp [stripF], by simp [stripF], h⟩
  | f + 1, s, e, h => by
    unfold stripF
    split
    · rename_i hs
      obtain ⟨j, h1, h2, h3⟩ := stripF_spec f (s / 10) (e + 1) (by omega)
      refine ⟨j + 1, ?_, ?_, h3⟩
      · rw [Int.pow_succ, ← Int.mul_assoc, h1]; omega
      · rw [h2]; omega
    · exact ⟨0, by simp, by simp, h⟩
theorem strip_spec (s e : Int) (h : 0 < s) : ∃ j : Nat, (strip s e).1 * 10 ^ j = s ∧ (strip s e).2 = e + (j : Int) ∧ 0 < (strip s e).1 := stripF_spec _ s e h
theorem pow_pos10 (j : Nat) : (0 : Int) < 10 ^ j := Int.pow_pos (by decide)
theorem pow_le10 {x c : Int} {j : Nat} (h : x * 10 ^ j = c) (hx : 0 < x) : x ≤ c ∧ (10 : Int) ^ j ≤ c := by
  have hp := pow_pos10 j
  constructor
  · have := Int.mul_le_mul_of_nonneg_left (show (1 : Int) ≤ 10 ^ j by omega) (show (0 : Int) ≤ x by omega)
    omega
  · have := Int.mul_le_mul_of_nonneg_right (show (1 : Int) ≤ x by omega) (show (0 : Int) ≤ 10 ^ j by omega)
    omega
theorem pow_bound {j k : Nat} (h : (10 : Int) ^ j < 10 ^ k) : j < k := by
  rcases Nat.lt_or_ge j k with h1 | h1
  · exact h1
  · have h2 : (10 : Nat) ^ k ≤ 10 ^ j := Nat.pow_le_pow_right (by decide) h1
    have h3 : ((10 : Nat) ^ k : Int) ≤ ((10 : Nat) ^ j : Int) := by exact_mod_cast h2
    simp at h3
    omega
theorem made9_small {c e : Int} (h : 0 < c) (h9 : c < 1000000000) : ∃ j : Nat, j ≤ 8 ∧ (made9 c e).1 * 10 ^ j = c ∧ (made9 c e).2 = e + (j : Int) ∧ 0 < (made9 c e).1 := by
  unfold made9
  rw [if_neg (by omega), if_pos h9]
  obtain ⟨j, h1, h2, h3⟩ := strip_spec c e h
  refine ⟨j, ?_, h1, h2, h3⟩
  have := (pow_le10 h1 h3).2
  have := pow_bound (j := j) (k := 9) (by omega)
  omega
theorem made9_large {c e : Int} (h9 : ¬ c < 1000000000) (h10 : c < 10000000000) : ∃ j : Nat, (made9 c e).1 * 10 ^ j = rnd c ∧ (made9 c e).2 = e + 1 + (j : Int) ∧ 0 < (made9 c e).1 := by
  unfold made9
  rw [if_neg (by omega), if_neg h9]
  have := rnd_near c
  exact strip_spec (rnd c) (e + 1) (by omega)
theorem made9_few {m : Int} (h : 2 ≤ m) (h' : m ≤ 6) : made9 m 0 = (m, 0) := by
  unfold made9
  rw [if_neg (by omega), if_pos (by omega), strip_end (by omega)]
structure PlaceFacts (n m : Int) : Prop where
  c1 : 0 ≤ cutSeed n
  c2 : cutSeed n < 10000000000
  a1 : 0 ≤ (tell n).1
  a2 : (tell n).1 < 10000000000
  a3 : -20 ≤ (tell n).2
  a4 : (tell n).2 ≤ 20
  b1 : 0 ≤ (tell2 n).1
  b2 : (tell2 n).1 < 1000000000
  b3 : -20 ≤ (tell2 n).2
  b4 : (tell2 n).2 ≤ 20
  p1 : 0 ≤ (tell2 n).1 * m
  p2 : (tell2 n).1 * m < 10000000000
  d1 : -9 ≤ (prod9 n m).2
  d2 : (prod9 n m).2 ≤ 0
  d3 : 0 ≤ (prod9 n m).1
  d4 : (prod9 n m).1 < 10000000000
  r1 : 0 ≤ place n m
  r2 : place n m < m
theorem floor_room {x y m : Int} {k : Nat} (hx : 0 ≤ x) (hk : y = (k : Int) - 9) (hk9 : k ≤ 9) (hv : x * 10 ^ k < m * 1000000000) : 0 ≤ floorV x y ∧ floorV x y < m := by
  unfold floorV
  split
  · have : k = 9 := by omega
    subst this
    have : (10 : Int) ^ 9 = 1000000000 := by decide
    rw [this] at hv
    omega
  · have e : (0 - y).toNat = 9 - k := by omega
    rw [e]
    have hp := pow_pos10 (9 - k)
    have hpk := pow_pos10 k
    have he : (10 : Int) ^ (9 - k) * 10 ^ k = 1000000000 := by rw [← Int.pow_add, Nat.sub_add_cancel hk9]; decide
    rw [Int.fdiv_eq_ediv_of_nonneg _ (by omega)]
    refine ⟨Int.ediv_nonneg hx (by omega), ?_⟩
    refine Int.ediv_lt_of_lt_mul hp ?_
    have h1 : x * 10 ^ k < m * 10 ^ (9 - k) * 10 ^ k := by rw [Int.mul_assoc, he]; exact hv
    exact Int.lt_of_mul_lt_mul_right h1 (by omega)
theorem place_facts {n m : Int} (h0 : 0 ≤ n) (h1 : n < 16777216) (h2 : 2 ≤ m) (h6 : m ≤ 6) : PlaceFacts n m := by
  obtain ⟨c1, c2⟩ := cutSeed_room h0 h1
  have hm := made9_few h2 h6
  by_cases hz : cutSeed n = 0
  · have ea : tell n = (0, 0) := by unfold tell; exact made9_zero hz
    have eb : tell2 n = (0, 0) := by unfold tell2; rw [ea]; exact made9_zero rfl
    have ep : prod9 n m = (0, 0) := by unfold prod9; rw [eb]; exact made9_zero (by simp)
    have er : place n m = 0 := by unfold place; rw [ep]; rfl
    constructor <;> (try simp only [ea, eb, ep, er]) <;> omega
  · obtain ⟨j, hj, ja, jb, jc⟩ := made9_small (c := cutSeed n) (e := -9) (by omega) (by omega)
    have ja' : (tell n).1 * 10 ^ j = cutSeed n := ja
    have jb' : (tell n).2 = -9 + (j : Int) := jb
    have jc' : 0 < (tell n).1 := jc
    have la := (pow_le10 ja' jc').1
    obtain ⟨i, hi, ia, ib, ic⟩ := made9_small (c := (tell n).1) (e := (tell n).2) (by omega) (by omega)
    have ia' : (tell2 n).1 * 10 ^ i = (tell n).1 := ia
    have ib' : (tell2 n).2 = (tell n).2 + (i : Int) := ib
    have ic' : 0 < (tell2 n).1 := ic
    have lb := (pow_le10 ia' ic').1
    have hp0 : 0 < (tell2 n).1 * m := Int.mul_pos ic' (by omega)
    have hp6 : (tell2 n).1 * m ≤ (tell2 n).1 * 6 := Int.mul_le_mul_of_nonneg_left h6 (by omega)
    -- the product's worth
    have worth : (tell2 n).1 * m * 10 ^ (i + j) = cutSeed n * m := by
      rw [← ja', ← ia', Int.pow_add]
      simp only [Int.mul_comm, Int.mul_left_comm, Int.mul_assoc]
    have hcm : cutSeed n * m ≤ 999999940 * m := Int.mul_le_mul_of_nonneg_right c2 (by omega)
    have hcm6 : 999999940 * m ≤ 5999999640 := by omega
    have hq : prod9 n m = made9 ((tell2 n).1 * m) ((tell2 n).2) := by unfold prod9; rw [hm]; simp
    -- the answer's worth: x * 10 ^ k, y = k - 9
    have key : ∃ k : Nat, (prod9 n m).2 = (k : Int) - 9 ∧ (prod9 n m).1 * 10 ^ k ≤ cutSeed n * m + 5 ∧ 0 < (prod9 n m).1 ∧ (prod9 n m).1 < 10000000000 := by
      rw [hq]
      by_cases h9 : (tell2 n).1 * m < 1000000000
      · obtain ⟨l, _, pa, pb, pc⟩ := made9_small (c := (tell2 n).1 * m) (e := (tell2 n).2) hp0 h9
        refine ⟨l + (i + j), by omega, ?_, pc, by have := (pow_le10 pa pc).1; omega⟩
        rw [Int.pow_add, ← Int.mul_assoc, pa, worth]
        omega
      · obtain ⟨l, pa, pb, pc⟩ := made9_large (c := (tell2 n).1 * m) (e := (tell2 n).2) h9 (by omega)
        have hn := rnd_near ((tell2 n).1 * m)
        have hij : i + j < 1 := pow_bound (k := 1) (by
          have h3 : (tell2 n).1 * m * 10 ^ (i + j) ≤ 5999999640 := by rw [worth]; omega
          have h4 := Int.mul_le_mul_of_nonneg_right (show (1000000000 : Int) ≤ (tell2 n).1 * m by omega) (show (0 : Int) ≤ 10 ^ (i + j) from Int.le_of_lt (pow_pos10 _))
          have : (10 : Int) ^ 1 = 10 := by decide
          omega)
        have hij0 : i + j = 0 := by omega
        have hi0 : i = 0 := by omega
        have hj0 : j = 0 := by omega
        subst hi0
        subst hj0
        refine ⟨l + 1, by omega, ?_, pc, by have := (pow_le10 pa pc).1; omega⟩
        have w0 : (tell2 n).1 * m = cutSeed n * m := by simpa using worth
        rw [Int.pow_add, ← Int.mul_assoc, pa]
        have : (10 : Int) ^ 1 = 10 := by decide
        rw [this]
        omega
    obtain ⟨k, k1, k2, k3, k4⟩ := key
    have hk9 : k ≤ 9 := by
      have h3 := (pow_le10 (x := (prod9 n m).1) (j := k) rfl k3).2
      have := pow_bound (j := k) (k := 10) (by have : (10 : Int) ^ 10 = 10000000000 := by decide
                                               omega)
      omega
    have hv : (prod9 n m).1 * 10 ^ k < m * 1000000000 := by omega
    have hr := floor_room (x := (prod9 n m).1) (y := (prod9 n m).2) (m := m) (by omega) k1 hk9 hv
    exact { c1 := c1, c2 := by omega, a1 := by omega, a2 := by omega, a3 := by omega, a4 := by omega, b1 := by omega, b2 := by omega, b3 := by omega, b4 := by omega,
            p1 := by omega, p2 := by omega, d1 := by omega, d2 := by omega, d3 := by omega, d4 := k4, r1 := hr.1, r2 := hr.2 }
end Mine
end

section
open PySem PySem.W PyProof.Rows
namespace Mine
section
variable {w : World} {mean : ExcName → Option Value} {mg mb : Str → Option Value} {dp un : Nat} {gd : Option (List Code)} {cn : Str} {cs : Scope} {a : Addr} {ccd : Value} {cl : List (Str × Addr)}
  {outer : List Env} {A₀ : Around} {base h₀ : Heap} {L : Addr} {m : Str → Option Value} {news : List (Addr × Obj)} {s : Shared} {Q E : Value → Shared → Prop}
theorem tup_end {x y : Int} {D : Addr} {t1 t2 : Tok} {h' : Heap} {tk' : Nat} {news' : List (Addr × Obj)}
    (ret : ∀ D t1 t2 h' tk', Fr h₀ L h' m → News h₀ L h' ((D, tupOf x t1 y t2) :: news) → (∀ p ∈ news, p.1 < D) → Q (.ref D) { s with heap := h', toks := tk' })
    (F : Fr h₀ L h' m) (N : News h₀ L h' news') (hi : (D, tupOf x t1 y t2) ∈ news') (hs : ∀ p ∈ news, p ∈ news') (hl : ∀ p ∈ news, p.1 < D) : Q (.ref D) { s with heap := h', toks := tk' } := by
  refine ret D t1 t2 h' tk' F ?_ hl
  intro p hp
  rcases List.mem_cons.mp hp with rfl | hp
  · exact N _ hi
  · exact N _ (hs p hp)
set_option maxRecDepth 100000 in
set_option maxHeartbeats 8000000 in
theorem told_use {n : Int} {t u : Tok} (B : Below A₀ base outer h₀) (F : Fr h₀ L s.heap m) (X : (hd.heap_39 w.params).In h₀) (N : News h₀ L s.heap news)
    (T : Top hd.view_39 (looseW hd.view_39 [Str.ofString "BasicError"]) mean mg mb h₀) (hk : cs.kind = .function) (ok1 : 0 ≤ n) (ok2 : n < 16777216)
    (hd : dp + 4 < recursionLimit) (hu : un + 32 < cLine)
    (ret : ∀ D t1 t2 h' tk', Fr h₀ L h' m → News h₀ L h' ((D, tupOf (tell n).1 t1 (tell n).2 t2) :: news) → (∀ p ∈ news, p.1 < D) → Q (.ref D) { s with heap := h', toks := tk' }) :
    wpAny (model PySem.Challenge.rw_xm0051_01.row.prog w) (ktrTop dp un gd cn cs L a ccd cl outer) (call (.ref 100) [.int n t, .int 9 u]) Q E s := by
  have hC := cutSeed_room ok1 ok2
  unfold cutSeed at hC
  unfold tell cutSeed at ret
  k_with_none
  revert X
  k_fill
  intro X
  refine wpAny_call ?_
  k_dflt ktr_enter
  k_with "call ref" => ((refine' made_use ?k1 ?k2 ?k3 ?k4 ?k5 ?kK ?ko ?kp ?kq ?kr ?kd ?ku ?_); (case k1 => k_asm); (case k2 => k_asm); (case k3 => k_asm); (case k4 => k_asm); (case k5 => k_asm); (case kK => first | exact rfl | assumption); (case ko => omega); (case kp => omega); (case kq => omega); (case kr => omega); (case kd => ktr_room); (case ku => ktr_units); intro D' t1' t2' h' tk' F' N' l1'; (try k_lt l1'))
  w_strict k_steps
  all_goals (refine' tup_end ret ?f ?n ?i ?s ?l; (case n => assumption); (case f => k_asm); (case i => k_mem); (case s => kcj_all); (case l => first | assumption | exact ktn_ltOf (by assumption) | ((rename (_ ∧ AllLt _ _) => hLo); exact ktn_ltOf hLo.2)))
set_option maxRecDepth 100000 in
set_option maxHeartbeats 4000000 in
theorem place_use {n k : Int} {t u : Tok} (B : Below A₀ base outer h₀) (F : Fr h₀ L s.heap m) (X : (hd.heap_39 w.params).In h₀) (N : News h₀ L s.heap news)
    (T : Top hd.view_39 (looseW hd.view_39 [Str.ofString "BasicError"]) mean mg mb h₀) (hk : cs.kind = .function) (ok1 : 0 ≤ n) (ok2 : n < 16777216) (ok3 : 2 ≤ k) (ok4 : k ≤ 6)
    (hd : dp + 8 < recursionLimit) (hu : un + 64 < cLine)
    (ret : ∀ t' h' tk', Fr h₀ L h' m → News h₀ L h' news → Q (.int (place n k) t') { s with heap := h', toks := tk' }) :
    wpAny (model PySem.Challenge.rw_xm0051_01.row.prog w) (ktrTop dp un gd cn cs L a ccd cl outer) (call (.ref 255) [.int n t, .int k u]) Q E s := by
  obtain ⟨c1, c2, a1, a2, a3, a4, b1, b2, b3, b4, p1, p2, d1, d2, d3, d4, r1, r2⟩ := place_facts ok1 ok2 ok3 ok4
  have hm9 := made9_few ok3 ok4
  have hprod : made9 ((tell2 n).1 * k) ((tell2 n).2 + 0) = prod9 n k := by unfold prod9; rw [hm9]
  k_with_none
  revert X
  k_fill
  intro X
  refine wpAny_call ?_
  k_dflt ktr_enter
  have hkk : PySem.ScopeKind.function = PySem.ScopeKind.function := rfl
  k_with "call ref" => first
    | ((refine' made_use ?k1 ?k2 ?k3 ?k4 ?k5 ?kK ?ko ?kp ?kq ?kr ?kd ?ku ?_); (case k1 => k_asm); (case k2 => k_asm); (case k3 => k_asm); (case k4 => k_asm); (case k5 => k_asm); (case kK => first | exact rfl | assumption); (case ko => omega); (case kp => omega); (case kq => omega); (case kr => omega); (case kd => ktr_room); (case ku => ktr_units); intro D' t1' t2' h' tk' F' N' l1'; (try k_lt l1'); (try rw [hm9] at N'); (try rw [hprod] at N'); (try rw [show made9 (tell n).1 (tell n).2 = tell2 n from rfl] at N'))
    | ((refine' told_use ?k1 ?k2 ?k3 ?k4 ?k5 ?kK ?ko ?kp ?kd ?ku ?_); (case k1 => k_asm); (case k2 => k_asm); (case k3 => k_asm); (case k4 => k_asm); (case k5 => k_asm); (case kK => first | exact rfl | assumption); (case ko => omega); (case kp => omega); (case kd => ktr_room); (case ku => ktr_units); intro D' t1' t2' h' tk' F' N' l1'; (try k_lt l1'))
    | ((refine' floor_use ?k1 ?k2 ?k3 ?k4 ?k5 ?kK ?km ?ko ?kp ?kq ?kr ?kd ?ku ?_); (case k1 => k_asm); (case k2 => k_asm); (case k3 => k_asm); (case k4 => k_asm); (case k5 => k_asm); (case kK => first | exact rfl | assumption); (case km => k_mem); (case ko => omega); (case kp => omega); (case kq => omega); (case kr => omega); (case kd => ktr_room); (case ku => ktr_units); intro t' h' tk' F' N')
    | ((first | with_reducible show wpAny _ _ (call (Value.ref 234) _) _ _ _ | with_reducible show wpAny _ _ (call (Value.ref 178) _) _ _ _ | with_reducible show wpAny _ _ (call (Value.ref 86) _) _ _ _ | with_reducible show wpAny _ _ (call (Value.ref 136) _) _ _ _); refine wpAny_call ?_; k_dflt ktr_enter)
  w_strict k_steps
  all_goals (refine ret _ _ _ (by k_asm) ?_; first | k_asm | (refine' cb_drop ?cbN ?cbS; (case cbN => assumption); (case cbS => kcj_all)))
end
end Mine
end

section
open PySem PySem.W PyProof.Rows
namespace Mine
def swapV (vs : List Value) (i j : Nat) : List Value := (vs.set i (vs.getD j .none)).set j (vs.getD i .none)
open PySem.Calls PySem.Spec in
theorem m_item {prog : Program} {w : World} {A : Around} {E : Value → Shared → Prop} {s : Shared} {value slice : PySem.Expr} {l : Addr} {vs : List Value} {k : Int} {u : Tok} {Q : Value → Shared → Prop}
    (hl : s.heap.IsList l vs.toArray) (h0 : 0 ≤ k) (hlt : k.toNat < vs.length) (hhi : k < 2 ^ 63) (h : Q (vs.getD k.toNat .none) s)
    (hs : subscripted slice false (.ref l) (.int k u) = operate [.ref l, .int k u] (getItem (.ref l) (.int k u)) := by with_unfolding_all rfl) :
    wpAny (model prog w) A (subscriptTail value slice (.ref l) (.int k u)) Q E s :=
  tail_any hl.typeIs slot_list_getitem.lookup (wpAny_getItem_list (x := vs.getD k.toNat .none) hl h0 hhi (by simp [hlt]) h) hs
theorem m_set {prog : Program} {w : World} {A : Around} {E : Value → Shared → Prop} {s : Shared} {h₀ : Heap} {L D : Addr} {m : Str → Option Value} {news news' : List (Addr × Obj)} {vs : List Value} {n : Nat} {k : Int} {t : Tok} {x : Value} {Q : Unit → Shared → Prop}
    (F : Fr h₀ L s.heap m) (N : News h₀ L s.heap news) (U : Upd D (listOf vs.toArray n) (listOf (vs.set k.toNat x).toArray n) news news') (h0 : 0 ≤ k) (h1 : k.toNat < vs.length) (hfit : k < 2 ^ 63)
    (h : ∀ h', Fr h₀ L h' m → News h₀ L h' news' → Q () { s with heap := h' }) :
    wpAny (model prog w) A (setItem (.ref D) (.int k t) x) Q E s := by
  obtain ⟨pre, post, rfl, rfl, a, b⟩ := U.split
  have z := N (D, listOf vs.toArray n) (List.mem_append.mpr (.inr (.head _)))
  have hs : vs.toArray.size = vs.length := List.size_toArray ..
  refine ki_setAt z.1 h0 hfit (by omega) (h _ (F.change (Heap.SameBut.update ..) z.2.1 z.2.2) (ki_turn _ N a b ?_ ?_))
  · show vs.toArray.setIfInBounds k.toNat x = (vs.set k.toNat x).toArray
    apply Array.toList_inj.mp
    simp
  · simp
local macro_rules | `(tactic| k_mem) => `(tactic| first | with_reducible assumption | assumption | (refine List.Mem.tail _ ?_; k_mem))
section
variable {w : World} {mean : ExcName → Option Value} {mg mb : Str → Option Value} {dp un : Nat} {gd : Option (List Code)} {cn : Str} {cs : Scope} {a : Addr} {ccd : Value} {cl : List (Str × Addr)}
  {outer : List Env} {A₀ : Around} {base h₀ : Heap} {L : Addr} {m : Str → Option Value} {news : List (Addr × Obj)} {s : Shared} {Q E : Value → Shared → Prop}
theorem list_end {vs : List Value} {D : Addr} {c : Nat} {h' : Heap} {tk' : Nat} {news' : List (Addr × Obj)}
    (ret : ∀ D' c' h' tk', Fr h₀ L h' m → News h₀ L h' ((D', listOf vs.toArray c') :: news) → (∀ p ∈ news, p.1 < D') → Q (.ref D') { s with heap := h', toks := tk' })
    (F : Fr h₀ L h' m) (N : News h₀ L h' news') (hi : (D, listOf vs.toArray c) ∈ news') (hs : ∀ p ∈ news, p ∈ news') (hl : ∀ p ∈ news, p.1 < D) : Q (.ref D) { s with heap := h', toks := tk' } := by
  refine ret D c h' tk' F ?_ hl
  intro p hp
  rcases List.mem_cons.mp hp with rfl | hp
  · exact N _ hi
  · exact N _ (hs p hp)
set_option maxRecDepth 100000 in
set_option maxHeartbeats 4000000 in
theorem exch_use {D : Addr} {vs : List Value} {c : Nat} {i j : Int} {t u : Tok} (B : Below A₀ base outer h₀) (F : Fr h₀ L s.heap m) (X : (hd.heap_39 w.params).In h₀) (N : News h₀ L s.heap news)
    (T : Top hd.view_39 (looseW hd.view_39 [Str.ofString "BasicError"]) mean mg mb h₀) (hk : cs.kind = .function) (hm : (D, listOf vs.toArray c) ∈ news) (hv : vs.length = 6)
    (ok1 : 0 ≤ i) (ok2 : i < 6) (ok3 : 0 ≤ j) (ok4 : j < 6)
    (hd : dp + 1 < recursionLimit) (hu : un + 8 < cLine)
    (ret : ∀ D' c' h' tk', Fr h₀ L h' m → News h₀ L h' ((D', listOf (swapV vs i.toNat j.toNat).toArray c') :: news) → (∀ p ∈ news, p.1 < D') → Q (.ref D') { s with heap := h', toks := tk' }) :
    wpAny (model PySem.Challenge.rw_xm0051_01.row.prog w) (ktrTop dp un gd cn cs L a ccd cl outer) (call (.ref 262) [.ref D, .int i t, .int j u]) Q E s := by
  k_with_none
  revert X
  k_fill
  intro X
  refine wpAny_call ?_
  k_dflt ktr_enter
  k_with "call type:list" => ((refine' list_copyK ?k1 ?k2 ?k3 ?_ ?z; (case k1 => k_asm); (case k2 => k_asm); (case k3 => exact News.isList (by k_asm) (by k_mem)); (case z => (rw [List.size_toArray, hv]; decide))); intro D' c' h' F' N' l1; (try k_lt l1))
  k_with "subscriptTail" => ((with_unfolding_all refine' m_item ?k1 ?k2 ?k3 ?k4 ?_ ?k6); (case k1 => exact News.isList (by k_asm) (by k_mem)); (case k2 => omega); (case k3 => omega); (case k4 => omega); (case k6 => with_unfolding_all rfl))
  k_with "setItem ref int" => ((with_unfolding_all refine' m_set ?k1 ?k2 ?k3 ?k4 ?k5 ?k6 ?_); (case k1 => k_asm); (case k2 => k_asm); (case k3 => k_upd); (case k4 => omega); (case k5 => (first | omega | (simp only [List.length_set]; omega))); (case k6 => omega); intro h' F' N')
  w_strict k_steps
  all_goals (refine' list_end ret ?f ?n ?i ?s ?l; (case n => assumption); (case f => k_asm); (case i => k_mem); (case s => kcj_all); (case l => first | assumption | exact ktn_ltOf (by assumption) | ((rename (_ ∧ AllLt _ _) => hLo); exact ktn_ltOf hLo.2)))
end
end Mine
end

section
open PySem PySem.W PyProof.Rows
namespace Mine
theorem fmod_lo {a : Int} : 0 ≤ a.fmod 16777216 := Int.fmod_nonneg_of_pos _ (by decide)
theorem fmod_hi {a : Int} : a.fmod 16777216 < 16777216 := Int.fmod_lt_of_pos _ (by decide)
def oppN : Nat → Int
  | 0 => 1
  | k + 1 => (oppN k * (2 - 214013 * oppN k)).fmod 16777216
theorem oppN_room : ∀ k, 0 ≤ oppN k ∧ oppN k < 16777216
  | 0 => by decide
  | _ + 1 => ⟨fmod_lo, fmod_hi⟩
def OppWord (n f : Int) : Prop := 0 ≤ n ∧ f = oppN n.toNat ∧ 0 ≤ f ∧ f < 16777216
theorem opp_turn {n f : Int} (h : OppWord n f) : OppWord (n + 1) ((f * (2 - 214013 * f)).fmod 16777216) := by
  obtain ⟨h0, h1, _, _⟩ := h
  refine ⟨by omega, ?_, fmod_lo, fmod_hi⟩
  have e : (n + 1).toNat = n.toNat + 1 := by omega
  rw [e, h1]
  rfl
theorem opp_start : OppWord 0 1 := ⟨by decide, rfl, by decide, by decide⟩
def oppo : Int := 11743573
section
variable {w : World} {mean : ExcName → Option Value} {mg mb : Str → Option Value} {dp un : Nat} {gd : Option (List Code)} {cn : Str} {cs : Scope} {a : Addr} {ccd : Value} {cl : List (Str × Addr)}
  {outer : List Env} {A₀ : Around} {base h₀ : Heap} {L : Addr} {m : Str → Option Value} {news : List (Addr × Obj)} {s : Shared} {Q E : Value → Shared → Prop}
set_option maxRecDepth 100000 in
set_option maxHeartbeats 4000000 in
theorem draw_use {G P : Addr} {ws : List Value} {ns : List Int} {c c' : Nat} {t0 t : Tok} {z : Int} (B : Below A₀ base outer h₀) (F : Fr h₀ L s.heap m) (X : (hd.heap_39 w.params).In h₀)
    (N : News h₀ L s.heap [(G, listOf #[.ref P, .int 0 t0] c), (P, listOf ws.toArray c')])
    (T : Top hd.view_39 (looseW hd.view_39 [Str.ofString "BasicError"]) mean mg mb h₀) (hk : cs.kind = .function) (hz : z = 16777216) (hlt : P < G) (hi : IntsAre ws ns) (hns : ns.length ≤ 1)
    (hd : dp + 1 < recursionLimit) (hu : un + 8 < cLine)
    (ret : ∀ b t' h' tk', 0 ≤ b → b < 16777216 → Fr h₀ L h' m → News h₀ L h' [] → Q (.int b t') { s with heap := h', toks := tk' }) :
    wpAny (model PySem.Challenge.rw_xm0051_01.row.prog w) (ktrTop dp un gd cn cs L a ccd cl outer) (call (.ref 241) [.ref G, .int z t]) Q E s := by
  subst hz
  k_with_none
  revert X
  k_fill
  intro X
  refine wpAny_call ?_
  k_dflt ktr_enter
  k_with "setItem ref int" => ((with_unfolding_all refine' m_set (vs := [.ref P, .int 0 t0]) ?k1 ?k2 ?k3 ?k4 ?k5 ?k6 ?_); (case k1 => k_asm); (case k2 => k_asm); (case k3 => exact Upd.head (fun p hp => by rw [List.mem_singleton.mp hp]; exact Nat.ne_of_lt hlt)); (case k4 => decide); (case k5 => (show (1 : Nat) < 2; decide)); (case k6 => decide); intro h' F' N')
  w_strict k_steps
  all_goals (refine ret _ _ _ _ fmod_lo fmod_hi (by k_asm) ?_; exact fun p hp => nomatch hp)
end
end Mine
end

section
open PySem PySem.W PyProof.Rows
namespace Mine
section
variable {prog : Program} {w : World} {A : Around} {E : Value → Shared → Prop} {R : Result → Shared → Prop} {s : Shared}
variable {elt iter iter1 ct : PySem.Expr} {x y : Str} {px py : Pos} {scope : Scope} {pos : Pos}

abbrev two (elt iter iter1 ct : PySem.Expr) (x y : Str) (px py : Pos) (scope : Scope) (pos : Pos) : PySem.Expr :=
  .ListComp elt [⟨.Name x px, iter, [], 0⟩, ⟨.Name y py, iter1, [ct], 0⟩] scope pos

theorem turn_in (it acc : Value) (env : Env) :
    compTurn (two elt iter iter1 ct x y px py scope pos) 1 it acc env = (do
      standAt iter1.pos
      match ← pyNext it with
      | none => pure (.done .next)
      | some v =>
        letOwnedTupleGo (.Name y py) it v
        assign (.Name y py) env v
        let mut ok := true
        for c in [ct] do
          if ok then ok ← isTrue c env (eval c env)
        if ok then
          (do let _ ← call (.builtin "list.append") [acc, ← eval elt env])
        again (.compLoop (two elt iter iter1 ct x y px py scope pos) 1 it acc env)) := by rfl

theorem turn_out (it acc : Value) (env : Env) :
    compTurn (two elt iter iter1 ct x y px py scope pos) 0 it acc env = (do
      standAt iter.pos
      match ← pyNext it with
      | none => pure (.done .next)
      | some v =>
        letOwnedTupleGo (.Name x px) it v
        assign (.Name x px) env v
        let mut ok := true
        for c in ([] : List PySem.Expr) do
          if ok then ok ← isTrue c env (eval c env)
        if ok then
          let x' ← eval iter1 env
          standAt iter1.pos
          let x' ← foldedSetIterable iter1 env x'
          let _ ← runOwn (.compStart (two elt iter iter1 ct x y px py scope pos) 1 (← holding [x'] (pyIter x')) acc env) env
        again (.compLoop (two elt iter iter1 ct x y px py scope pos) 0 it acc env)) := by rfl

theorem start_in {it acc : Value} {env : Env} (h0 : codeAny (model prog w) A (.compLoop (two elt iter iter1 ct x y px py scope pos) 1 it acc env) R s)
    (h : wpAny (model prog w) A (pyIter it) (fun it' s' => codeAny (model prog w) A (.compLoop (two elt iter iter1 ct x y px py scope pos) 1 it' acc env) R s') (notedBy (model prog w) A env fun x s' => R (.error x) s') s) :
    codeAny (model prog w) A (.compStart (two elt iter iter1 ct x y px py scope pos) 1 it acc env) R s := by
  refine codeAny_of_tree ?_
  show wpAny _ _ ((compStart (two elt iter iter1 ct x y px py scope pos) 1 it acc env).onRaise (fun x => do noteFrame x env; standAt theWindowsPlace)) _ _ s
  refine wpAny_notedAt ?_
  unfold compStart
  show wpAny _ _ (ask >>= _) _ _ s
  refine wpAny_bind (wpAny_askSetting (wpAny_ite ?_))
  split
  · first
      | exact wpAny_bind (wpAny_pure (wpAny_pure (And.intro rfl h0)))
      | exact wpAny_pure (And.intro rfl h0)
  · refine wpAny_bind (wpAny_rule ?_)
    show wpAny _ _ (standAt iter1.pos >>= _) _ _ s
    exact wpAny_bind (wpAny_standAt (wpAny_bind (wpAny_mono h (fun it' s' h' => wpAny_pure (And.intro rfl h')) fun _ _ x => x)))

theorem loop_in {I D : Addr} {fp wr : List Addr} {n : Nat} {P : Nat → Value → Prop} {St : Nat → Heap → Prop} {cenv : Env} {m : Str → Option Value} {ys₀ : Array Value} {vx : Value}
    (W : Walks prog w A I fp wr n P St) (pz : Value → Bool) (hxy : x ≠ y)
    (hy : cenv.kindOf y = some .local) (hp : (cenv.scope.kind == .class || (cenv.scope.kind == .module && cenv.locals != cenv.globals)) = false)
    (hDC : D ≠ cenv.locals) (hDf : D ∉ fp) (hCf : cenv.locals ∉ fp)
    (hst : St 0 s.heap) (hacc : s.heap.PlainList D ys₀) (hn : s.heap.Ns cenv.locals m) (hm : m x = some vx)
    (htest : ∀ i v s₂ m₂ E', P i v → s₂.heap.Ns cenv.locals m₂ → m₂ x = some vx → m₂ y = some v → (∀ b o, b ≠ cenv.locals → b ∉ wr → b ≠ D → s.heap.get? b = some o → s₂.heap.get? b = some o) →
      wpAny (model prog w) A (isTrue ct cenv (eval ct cenv)) (fun ok s₃ => ok = pz v ∧ Keeps s₂ s₃) E' s₂)
    (helt : ∀ s₂ m₂ E', s₂.heap.Ns cenv.locals m₂ → m₂ x = some vx → wpAny (model prog w) A (eval elt cenv) (fun _ s₃ => Keeps s₂ s₃) E' s₂)
    (hR : ∀ h' tk m' ys (vs : List Value), h'.Ns cenv.locals m' → h'.PlainList D ys → vs.length = n → (∀ j v, vs[j]? = some v → P j v) → ys.size = ys₀.size + (vs.filter pz).length →
      (∀ b o, b ≠ cenv.locals → b ∉ wr → b ≠ D → s.heap.get? b = some o → h'.get? b = some o) → R (.ok .next) { s with heap := h', toks := tk })
    (hsz : ys₀.size + n ≤ sizeLine) :
    codeAny (model prog w) A (.compLoop (two elt iter iter1 ct x y px py scope pos) 1 (.ref I) (.ref D) cenv) R s := by
  refine codeAny_loop rfl
    (fun k s' => ∃ h' tk m' ys, ∃ vs : List Value, s' = { s with heap := h', toks := tk } ∧ St vs.length h' ∧ h'.PlainList D ys ∧ h'.Ns cenv.locals m' ∧ m' x = some vx ∧ (∀ j v, vs[j]? = some v → P j v) ∧
      ys.size = ys₀.size + (vs.filter pz).length ∧ vs.length ≤ n ∧ k = n + 1 - vs.length ∧
      (∀ b o, b ≠ cenv.locals → b ∉ wr → b ≠ D → s.heap.get? b = some o → h'.get? b = some o)) ?_ (n + 1)
    ⟨s.heap, s.toks, m, ys₀, [], rfl, hst, hacc, hn, hm, by simp, by simp, Nat.zero_le _, rfl, fun _ _ _ _ _ e => e⟩
  rintro k s' ⟨H, tk, m', ys, vs, rfl, hst', hacc', hn', hm', hP, hF, hi, rfl, hk⟩
  show wpAny _ A ((compTurn (two elt iter iter1 ct x y px py scope pos) 1 (.ref I) (.ref D) cenv).onRaise (fun x => do noteFrame x cenv; theTreesLotGoes x)) _ _ _
  refine wpAny_noted ?_
  rw [turn_in]
  refine wpAny_bind (wpAny_standAt (wpAny_bind ?_))
  have hCw : cenv.locals ∉ wr := fun h => hCf (W.sub _ h)
  have hDw : D ∉ wr := fun h => hDf (W.sub _ h)
  by_cases hlt : vs.length < n
  · refine W.item vs.length _ _ _ hlt hst' fun v h₁ tk₁ hPv hst₁ hk₁ => ?_
    refine wpAny_bind (wpAny_of_eq (show letOwnedTupleGo (.Name y py) (.ref I) v = pure () from rfl) ?_)
    refine wpAny_bind (wpAny_assign_Name (wpAny_storeName_local hy (hn'.at' fun o e => hk₁ _ o hCw e) (fun h₂ hn₂ hs₂ => ?_) hp))
    have up₂ : ∀ b o, b ≠ cenv.locals → b ∉ wr → H.get? b = some o → h₂.get? b = some o := fun b o hbC hbf e => hs₂.extBut b o hbC (hk₁ b o hbf e)
    have hst₂ : St (vs.length + 1) h₂ := W.frame _ _ _ hst₁ fun b hb o e => hs₂.extBut b o (fun h => hCf (h ▸ hb)) e
    have hm₂ : (fun z => if z = y then some v else m' z) x = some vx := by simp [hxy, hm']
    refine wpAny_bind (wpAny_tests_one (wpAny_mono (htest vs.length v _ _ _ hPv hn₂ hm₂ (by simp) (fun b o hbC hbf hbD e => up₂ b o hbC hbf (hk b o hbC hbf hbD e))) (fun ok s₃ h₃ => ?_) fun _ _ e => e))
    obtain ⟨rfl, h₃, tk₃, rfl, hk₃⟩ := h₃
    have hst₃ : St (vs.length + 1) h₃ := W.frame _ _ _ hst₂ fun b _ o e => hk₃ b o e
    have hacc₃ : h₃.PlainList D ys := hacc'.at fun o e => hk₃ _ o (up₂ D o hDC hDw e)
    have hn₃ := hn₂.keeps hk₃
    have hP' : ∀ j u, (vs ++ [v])[j]? = some u → P j u := fun j u hj => by
      rcases Nat.lt_trichotomy j vs.length with h | h | h
      · exact hP j u (by rwa [List.getElem?_append_left h] at hj)
      · subst h; simp at hj; subst hj; exact hPv
      · have hnone : (vs ++ [v])[j]? = none := List.getElem?_eq_none (by rw [List.length_append, List.length_singleton]; omega)
        rw [hnone] at hj; cases hj
    have hlen : (vs ++ [v]).length = vs.length + 1 := by rw [List.length_append, List.length_singleton]
    cases hpv : pz v with
    | false =>
      refine wpAny_pure ⟨rfl, n + 1 - (vs.length + 1), by omega, h₃, tk₃, _, ys, vs ++ [v], rfl, by rw [hlen]; exact hst₃, hacc₃, hn₃, hm₂, hP', ?_, by rw [hlen]; exact hlt, by rw [hlen], fun b o hbC hbf hbD e => hk₃ b o (up₂ b o hbC hbf (hk b o hbC hbf hbD e))⟩
      rw [List.filter_append, List.length_append, hF]
      simp [hpv]
    | true =>
      refine wpAny_bind (wpAny_bind (wpAny_mono (helt _ _ _ hn₃ hm₂) (fun y' s₄ h₄ => ?_) fun _ _ e => e))
      obtain ⟨h₄, tk₄, rfl, hk₄⟩ := h₄
      have hys : ys.size ≤ sizeLine := by
        have e2 : (vs.filter pz).length ≤ vs.length := List.length_filter_le _ _
        omega
      refine wpAny_bind (wpAny_list_append_plain (hsz := hys) (hacc₃.at fun o e => hk₄ _ o e) fun h₅ hl₅ hs₅ => ?_)
      refine wpAny_pure (wpAny_pure ⟨rfl, n + 1 - (vs.length + 1), by omega, h₅, tk₄, _, ys.push y', vs ++ [v], rfl, ?_, hl₅, (hn₃.keeps hk₄).sameBut hs₅ (Ne.symm hDC), hm₂, hP', ?_, by rw [hlen]; exact hlt, by rw [hlen],
        fun b o hbC hbf hbD e => hs₅.extBut b o hbD (hk₄ b o (hk₃ b o (up₂ b o hbC hbf (hk b o hbC hbf hbD e))))⟩)
      · rw [hlen]
        exact W.frame _ _ h₅ hst₃ fun b hb o e => hs₅.extBut b o (fun h => hDf (h ▸ hb)) (hk₄ b o e)
      · rw [List.filter_append, List.length_append, Array.size_push, hF]
        simp [hpv, Nat.add_assoc]
  · have hin : vs.length = n := by omega
    refine W.done _ _ _ (hin ▸ hst') fun h₁ tk₁ hk₁ => ?_
    exact wpAny_pure (hR h₁ tk₁ m' ys vs (hn'.at' fun o e => hk₁ _ o hCw e) (hacc'.at fun o e => hk₁ _ o hDw e) hin hP hF fun b o hbC hbf hbD e => hk₁ b o hbf (hk b o hbC hbf hbD e))

/-- what the inner loop hands back to the outer turn -/
def InBack (D C : Addr) (k : Nat) (s₂ : Shared) (r : Result) (s' : Shared) : Prop :=
  match r with
  | .ok _ => ∃ h tk m ys, s' = { s₂ with heap := h, toks := tk } ∧ h.Ns C m ∧ h.PlainList D ys ∧ ys.size = k ∧ (∀ b o, b ≠ C → b ≠ D → s₂.heap.get? b = some o → h.get? b = some o)
  | .error _ => False

theorem loop_out {I D : Addr} {n : Nat} {P : Nat → Value → Prop} {St : Nat → Heap → Prop} {cenv : Env} {m : Str → Option Value} (cnt : Value → Nat)
    (W : Walks prog w A I [I] [I] n P St)
    (hx : cenv.kindOf x = some .local) (hp : (cenv.scope.kind == .class || (cenv.scope.kind == .module && cenv.locals != cenv.globals)) = false)
    (hDC : D ≠ cenv.locals) (hDf : D ≠ I) (hCf : cenv.locals ≠ I)
    (hst : St 0 s.heap) (hacc : s.heap.PlainList D #[]) (hn : s.heap.Ns cenv.locals m) (hIn : ∀ i h, St i h → ∃ o, h.get? I = some o)
    (hcnt : ∀ i v, i < n → P i v → cnt v ≤ 6)
    (hbody : ∀ i v s₂ m₂ ys E', i < n → P i v → s₂.heap.Ns cenv.locals m₂ → m₂ x = some v → s₂.heap.PlainList D ys → ys.size ≤ 6 * n → (∃ o, s₂.heap.get? I = some o) → (∀ b o, b ≠ cenv.locals → b ≠ I → b ≠ D → s.heap.get? b = some o → s₂.heap.get? b = some o) →
      wpAny (model prog w) A (eval iter1 cenv) (fun xv s₃ => wpAny (model prog w) A (pyIter xv) (fun it s₄ =>
        codeAny (model prog w) A (.compStart (two elt iter iter1 ct x y px py scope pos) 1 it (.ref D) cenv) (InBack D cenv.locals (ys.size + cnt v) s₂) s₄) E' s₃) E' s₂)
    (hfold : ∀ x', foldedSetIterable iter1 cenv x' = pure x')
    (hR : ∀ h' tk m' ys (vs : List Value), h'.Ns cenv.locals m' → h'.PlainList D ys → vs.length = n → (∀ j v, vs[j]? = some v → P j v) → ys.size = (vs.map cnt).sum →
      (∀ b o, b ≠ cenv.locals → b ≠ I → b ≠ D → s.heap.get? b = some o → h'.get? b = some o) → R (.ok .next) { s with heap := h', toks := tk }) :
    codeAny (model prog w) A (.compLoop (two elt iter iter1 ct x y px py scope pos) 0 (.ref I) (.ref D) cenv) R s := by
  refine codeAny_loop rfl
    (fun k s' => ∃ h' tk m' ys, ∃ vs : List Value, s' = { s with heap := h', toks := tk } ∧ St vs.length h' ∧ h'.PlainList D ys ∧ h'.Ns cenv.locals m' ∧ (∀ j v, vs[j]? = some v → P j v) ∧
      ys.size = (vs.map cnt).sum ∧ ys.size ≤ 6 * vs.length ∧ vs.length ≤ n ∧ k = n + 1 - vs.length ∧
      (∀ b o, b ≠ cenv.locals → b ≠ I → b ≠ D → s.heap.get? b = some o → h'.get? b = some o)) ?_ (n + 1)
    ⟨s.heap, s.toks, m, #[], [], rfl, hst, hacc, hn, by simp, by simp, by simp, Nat.zero_le _, rfl, fun _ _ _ _ _ e => e⟩
  rintro k s' ⟨H, tk, m', ys, vs, rfl, hst', hacc', hn', hP, hF, hF6, hi, rfl, hk⟩
  show wpAny _ A ((compTurn (two elt iter iter1 ct x y px py scope pos) 0 (.ref I) (.ref D) cenv).onRaise (fun x => do noteFrame x cenv; theTreesLotGoes x)) _ _ _
  refine wpAny_noted ?_
  rw [turn_out]
  refine wpAny_bind (wpAny_standAt (wpAny_bind ?_))
  have not1 : ∀ {b : Addr}, b ≠ I → b ∉ [I] := fun h hm => h (List.mem_singleton.mp hm)
  by_cases hlt : vs.length < n
  · refine W.item vs.length _ _ _ hlt hst' fun v h₁ tk₁ hPv hst₁ hk₁ => ?_
    refine wpAny_bind (wpAny_of_eq (show letOwnedTupleGo (.Name x px) (.ref I) v = pure () from rfl) ?_)
    refine wpAny_bind (wpAny_assign_Name (wpAny_storeName_local hx (hn'.at' fun o e => hk₁ _ o (not1 hCf) e) (fun h₂ hn₂ hs₂ => ?_) hp))
    have up₂ : ∀ b o, b ≠ cenv.locals → b ≠ I → H.get? b = some o → h₂.get? b = some o := fun b o hbC hbf e => hs₂.extBut b o hbC (hk₁ b o (not1 hbf) e)
    have hst₂ : St (vs.length + 1) h₂ := W.frame _ _ _ hst₁ fun b hb o e => hs₂.extBut b o (fun h => hCf (h ▸ List.mem_singleton.mp hb)) e
    have hP' : ∀ j u, (vs ++ [v])[j]? = some u → P j u := fun j u hj => by
      rcases Nat.lt_trichotomy j vs.length with h | h | h
      · exact hP j u (by rwa [List.getElem?_append_left h] at hj)
      · subst h; simp at hj; subst hj; exact hPv
      · have hnone : (vs ++ [v])[j]? = none := List.getElem?_eq_none (by rw [List.length_append, List.length_singleton]; omega)
        rw [hnone] at hj; cases hj
    have hlen : (vs ++ [v]).length = vs.length + 1 := by rw [List.length_append, List.length_singleton]
    have hc6 := hcnt _ _ hlt hPv
    refine wpAny_bind (wpAny_pure ?_)
    refine wpAny_bind (wpAny_mono (hbody vs.length v _ _ ys _ hlt hPv hn₂ (by simp) (hacc'.at fun o e => up₂ D o hDC hDf e) (by omega) (hIn _ _ hst₂) (fun b o hbC hbf hbD e => up₂ b o hbC hbf (hk b o hbC hbf hbD e)))
      (fun xv s₃ h₃ => wpAny_bind (wpAny_standAt (wpAny_bind (wpAny_of_eq (hfold xv) (wpAny_bind (wpAny_holding (wpAny_mono h₃ (fun it s₄ h₄ => ?_) fun _ _ e => e))))))) fun _ _ e => e)
    refine wpAny_bind (wpAny_runOwn ?_)
    rw [Around.mark_none]
    refine codeAny_mono h₄ (fun r s₅ h₅ => ?_)
    cases r with
    | error e => exact h₅.elim
    | ok f =>
      obtain ⟨h, tk', m₅, ys₅, rfl, hn₅, hl₅, hsz₅, hk₅⟩ := h₅
      refine wpAny_pure ⟨rfl, n + 1 - (vs.length + 1), by omega, h, tk', m₅, ys₅, vs ++ [v], rfl, ?_, hl₅, hn₅, hP', ?_, by omega, by omega, by rw [hlen], fun b o hbC hbf hbD e => hk₅ b o hbC hbD (up₂ b o hbC hbf (hk b o hbC hbf hbD e))⟩
      · rw [hlen]
        exact W.frame _ _ h hst₂ fun b hb o e => hk₅ b o (fun q => hCf (q ▸ List.mem_singleton.mp hb)) (fun q => hDf (q ▸ List.mem_singleton.mp hb)) e
      · rw [hsz₅, hF]
        simp
  · have hin : vs.length = n := by omega
    refine W.done _ _ _ (hin ▸ hst') fun h₁ tk₁ hk₁ => ?_
    exact wpAny_pure (hR h₁ tk₁ m' ys vs (hn'.at' fun o e => hk₁ _ o (not1 hCf) e) (hacc'.at fun o e => hk₁ _ o (not1 hDf) e) hin hP hF fun b o hbC hbf hbD e => hk₁ b o (not1 hbf) (hk b o hbC hbf hbD e))

theorem comp_two {env : Env} {cl : List (Str × Addr)} {Q : Value → Shared → Prop} (cnt : Value → Nat)
    (hclos : closureFor scope env = pure cl) (hcell : ∀ y ∈ scope.names, y.2 ≠ .cell) (hkind : scope.kind = .function)
    (hnames : ∀ y ∈ scope.names, y.2 = .local → scope.names.lookup y.1 = some .local) (hx : scope.names.lookup x = some .local)
    (h : wpAny (model prog w) A (eval iter env) (fun xv s₁ => wpAny (model prog w) A (pyIter xv) (fun it s₂ => ∃ I n P St, it = .ref I ∧ Walks prog w A I [I] [I] n P St ∧ St 0 s₂.heap ∧ (∀ i h, St i h → ∃ o, h.get? I = some o) ∧
      (∀ i v, i < n → P i v → cnt v ≤ 6) ∧
      (∀ D C i v s₃ m₃ ys E', s₂.heap.get? D = none → s₂.heap.get? C = none → D ≠ C → s₂.heap.objs.size ≤ C → i < n → P i v → s₃.heap.Ns C m₃ → m₃ x = some v → s₃.heap.PlainList D ys → ys.size ≤ 6 * n → (∃ o, s₃.heap.get? I = some o) →
        (∀ b o, b ≠ I → s₂.heap.get? b = some o → s₃.heap.get? b = some o) →
        wpAny (model prog w) A (eval iter1 (compEnvC scope cl C env)) (fun xv s₄ => wpAny (model prog w) A (pyIter xv) (fun it s₅ =>
          codeAny (model prog w) A (.compStart (two elt iter iter1 ct x y px py scope pos) 1 it (.ref D) (compEnvC scope cl C env)) (InBack D C (ys.size + cnt v) s₃) s₅) E' s₄) E' s₃) ∧
      (∀ D h' tk ys (vs : List Value), s₂.heap.get? D = none → h'.PlainList D ys → vs.length = n → (∀ j v, vs[j]? = some v → P j v) → ys.size = (vs.map cnt).sum →
        (∀ b o, b ≠ I → s₂.heap.get? b = some o → h'.get? b = some o) → Q (.ref D) { s₂ with heap := h', toks := tk })) E s₁) E s)
    (hs : ∀ x, foldedSetIterable iter env x = pure x) (hs1 : ∀ env x, foldedSetIterable iter1 env x = pure x) :
    wpAny (model prog w) A (eval (two elt iter iter1 ct x y px py scope pos) env) Q E s := by
  rw [eval_ListComp]
  refine wpAny_comprehension_free (use := none) rfl hs hclos hkind hnames (wpAny_mono h (fun xv s₁ h₁ => wpAny_mono h₁ (fun it s₂ h₂ => ?_) fun _ _ e => e) fun _ _ e => e)
  obtain ⟨I, n, P, St, rfl, W, hst, hIn, hcnt, hbody, hQ⟩ := h₂
  refine wpAny_newObj_type (wpAny_newFunctionEnv hcell (by intro y hy; simp at hy) (fun h₁ hns₁ hsb₁ => ?_) hkind)
  dsimp only at hns₁ hsb₁ ⊢
  generalize hH2 : s₂.heap.push { cls := .type "list", dict := none, data := .seq ([] : List Value).toArray } = H2 at hns₁ hsb₁ ⊢
  have hC : H2.objs.size = s₂.heap.objs.size + 1 := by rw [← hH2, Heap.size_push]
  have hDC : s₂.heap.objs.size ≠ H2.objs.size := by rw [hC]; exact Nat.ne_of_lt (Nat.lt_succ_self _)
  have hCle : s₂.heap.objs.size ≤ H2.objs.size := by rw [hC]; exact Nat.le_succ _
  have below : ∀ b, b < s₂.heap.objs.size → b ≠ H2.objs.size ∧ b ≠ s₂.heap.objs.size := fun b hb => ⟨by rw [hC]; exact Nat.ne_of_lt (Nat.lt_succ_of_lt hb), Nat.ne_of_lt hb⟩
  obtain ⟨oI, hI⟩ := hIn _ _ hst
  have hIlt : I < s₂.heap.objs.size := Heap.lt_size hI
  have old : ∀ b o, s₂.heap.get? b = some o → h₁.get? b = some o := fun b o e => hsb₁.extBut b o (below b (Heap.lt_size e)).1 (Heap.get?_push_of_some _ (hH2 ▸ Heap.get?_push_of_some _ e))
  have hacc : h₁.PlainList s₂.heap.objs.size #[] := ⟨_, hsb₁.extBut _ _ hDC (Heap.get?_push_of_some _ (hH2 ▸ Heap.get?_push_size _ rfl))⟩
  have hst₁ : St 0 h₁ := W.frame _ _ _ hst fun b _ o e => old b o e
  have fresh : ∀ a, s₂.heap.objs.size ≤ a → s₂.heap.get? a = none := fun a ha => by
    cases e : s₂.heap.get? a with
    | none => rfl
    | some o' => exact absurd (Heap.lt_size e) (Nat.not_lt.mpr ha)
  have loop : ∀ s₃ : Shared, s₃ = { s₂ with heap := h₁, toks := s₂.toks + ([] : List (Str × Value)).length } →
      codeAny (model prog w) A (.compLoop (two elt iter iter1 ct x y px py scope pos) 0 (.ref I) (.ref s₂.heap.objs.size) (compEnvC scope cl H2.objs.size env))
        (compPost (model prog w) A E none Q (.ref s₂.heap.objs.size) H2.objs.size) s₃ := by
    rintro s₃ rfl
    refine loop_out (cenv := compEnvC scope cl H2.objs.size env) cnt W (lookup_relabel_local hx) (by simp [compEnvC, relabel, hkind]) hDC (Ne.symm (below I hIlt).2) (Ne.symm (below I hIlt).1) hst₁ hacc hns₁ hIn hcnt ?_ (hs1 _) ?_
    · intro i v s₃ m₃ ys E' hi hPv hn hm hacc' hsz hI' hk
      exact hbody s₂.heap.objs.size H2.objs.size i v s₃ m₃ ys E' (fresh _ (Nat.le_refl _)) (fresh _ hCle) hDC hCle hi hPv hn hm hacc' hsz hI' fun b o hbI e => hk b o (below b (Heap.lt_size e)).1 hbI (below b (Heap.lt_size e)).2 (old b o e)
    · intro h' tk m' ys vs hn hacc' hlen hP hsz hk
      refine ⟨m', hn, fun h'' hs'' => hQ s₂.heap.objs.size h'' tk ys vs (fresh _ (Nat.le_refl _)) (hacc'.extBut hs''.extBut hDC) hlen hP hsz fun b o hbI e => ?_⟩
      exact hs''.extBut b o (below b (Heap.lt_size e)).1 (hk b o (below b (Heap.lt_size e)).1 hbI (below b (Heap.lt_size e)).2 (old b o e))
  exact codeAny_compStart_list (loop _ rfl) (W.self 0 _ _ _ hst₁ (loop _ rfl))
end
end Mine
end

section
open PySem PySem.W PyProof.Rows
namespace Mine
section
variable {prog : Program} {w : World} {A : Around} {E : Value → Shared → Prop} {s : Shared} {scope : Scope} {cl : List (Str × Addr)} {env : Env} {C : Addr} {Q : Value → Shared → Prop}
theorem comp_local {x : Str} {pos : Pos} {v : Value} {m : Str → Option Value} (hk : scope.kind = .function) (hx : scope.names.lookup x = some .local) (hn : s.heap.Ns C m) (hv : m x = some v) (h : Q v s)
    (hd : (x == ("__debug__" : Str)) = false := by decide) : wpAny (model prog w) A (eval (.Name x pos) (compEnvC scope cl C env)) Q E s :=
  wpAny_Name (wpAny_loadName_local (env := compEnvC scope cl C env) (by simp [compEnvC, relabel, hk]) (lookup_relabel_local hx) hn hv h) hd
theorem comp_cell {x : Str} {pos : Pos} {v : Value} {c : Addr} (hk : scope.kind = .function) (hx : (compEnvC scope cl C env).kindOf x = some .cell) (hc : cl.lookup x = some c) (hv : s.heap.IsCell c (some v)) (h : Q v s)
    (hd : (x == ("__debug__" : Str)) = false := by decide) : wpAny (model prog w) A (eval (.Name x pos) (compEnvC scope cl C env)) Q E s :=
  wpAny_Name (wpAny_loadName_cell (env := compEnvC scope cl C env) (by simp [compEnvC, relabel, hk]) hx hc hv h) hd
def tS (ss : List Str) (i : Nat) : Str := ss.getD i (Str.ofString "")
def lessS (ss : List Str) (i j : Nat) : Bool := decide ((tS ss i).cps.toList < (tS ss j).cps.toList)
theorem strs_at {vs : List Value} {ss : List Str} (hS : StrsAre vs ss) {i : Nat} (hi : i < ss.length) : ∃ t, vs.toArray[i]? = some (.str (tS ss i) t) := by
  have h : ss[i]? = some (tS ss i) := by unfold tS; simp [hi]
  obtain ⟨t, e⟩ := hS.at h
  exact ⟨t, by simpa using e⟩
open PySem.Calls in
theorem pair_test {r c : Addr} {vs : List Value} {ss : List Str} {m₂ : Str → Option Value} {i j : Nat} {ti tj : Tok} {p1 p2 p3 p4 p5 p6 p7 : Pos} {E : Value → Shared → Prop}
    (hk : scope.kind = .function) (hat : scope.names.lookup (Str.ofString "at") = some .local) (hsp : scope.names.lookup (Str.ofString "spot") = some .local)
    (hrow : (compEnvC scope cl C env).kindOf (Str.ofString "row") = some .cell) (hc : cl.lookup (Str.ofString "row") = some c)
    (hcell : s.heap.IsCell c (some (.ref r))) (hl : s.heap.IsList r vs.toArray) (hS : StrsAre vs ss) (hn : s.heap.Ns C m₂) (hx : m₂ (Str.ofString "at") = some (.int (i : Int) ti)) (hy : m₂ (Str.ofString "spot") = some (.int (j : Int) tj))
    (hi : i < ss.length) (hj : j < ss.length) (h6 : ss.length = 6) :
    wpAny (model prog w) A (isTrue (.Compare (.Subscript (.Name (Str.ofString "row") p1) (.Name (Str.ofString "spot") p2) p3) [.Gt] [.Subscript (.Name (Str.ofString "row") p4) (.Name (Str.ofString "at") p5) p6] p7) (compEnvC scope cl C env)
      (eval (.Compare (.Subscript (.Name (Str.ofString "row") p1) (.Name (Str.ofString "spot") p2) p3) [.Gt] [.Subscript (.Name (Str.ofString "row") p4) (.Name (Str.ofString "at") p5) p6] p7) (compEnvC scope cl C env)))
      (fun ok s₃ => ok = lessS ss i j ∧ Keeps s s₃) E s := by
  obtain ⟨ui, ei⟩ := strs_at hS hi
  obtain ⟨uj, ej⟩ := strs_at hS hj
  refine wpAny_isTrue_Compare1 ?_
  refine wpAny_Subscript_Name slot_list_getitem.lookup ?_
  refine comp_cell hk hrow hc hcell ?_
  refine comp_local hk hsp hn hy ?_
  refine ⟨hl.typeIs, wpAny_getItem_list hl (by omega) (by omega) (by simpa using ej) ?_⟩
  refine wpAny_Subscript_Name slot_list_getitem.lookup ?_
  refine comp_cell hk hrow hc hcell ?_
  refine comp_local hk hat hn hx ?_
  refine ⟨hl.typeIs, wpAny_getItem_list hl (by omega) (by omega) (by simpa using ei) ?_⟩
  refine P.gt_str ?_
  refine wpAny_truthy_bool ?_
  exact ⟨rfl, s.heap, s.toks, rfl, fun _ _ e => e⟩
theorem range_iter {k : Nat} {t : Tok} {Q : Value → Shared → Prop} (hk : k ≤ 6)
    (h : ∀ I h' tk, s.heap.get? I = none → s.heap.objs.size ≤ I → IsRangeIter h' I 0 (k : Int) 1 → (∀ b o, s.heap.get? b = some o → h'.get? b = some o) → Q (.ref I) { s with heap := h', toks := tk }) :
    wpAny (model prog w) A (call (.type "range") [.int (k : Int) t]) (fun xv s₁ => wpAny (model prog w) A (pyIter xv) Q E s₁) E s := by
  refine call_range_1 ?_
  have hsm : ∀ k : Nat, k ≤ 6 → PySem.Builtin.Range.small 0 (k : Int) 1 = true := by decide
  have hsz : ∀ k : Nat, k ≤ 6 → PySem.Builtin.Range.rangeSize 0 (k : Int) 1 = (k : Int) := by decide
  refine wpAny_pyIter_range (Heap.get?_push_size _ rfl) (hsm k hk) ?_
  rw [hsz k hk]
  refine h _ _ _ ?_ ?_ (Heap.get?_push_size _ rfl) fun b o e => Heap.get?_push_of_some _ (Heap.get?_push_of_some _ e)
  · cases e : s.heap.get? _ with
    | none => rfl
    | some o => exact absurd (Heap.lt_size e) (by simp [Heap.size_push])
  · simp [Heap.size_push]

theorem range_open {k : Nat} {r : Addr} {t u v : Tok} {Q : Value → Shared → Prop} (hr : IsRange s.heap r 0 (k : Int) 1 t u v) (hk : k ≤ 6)
    (h : ∀ I h', s.heap.get? I = none → s.heap.objs.size ≤ I → IsRangeIter h' I 0 (k : Int) 1 → (∀ b o, s.heap.get? b = some o → h'.get? b = some o) → Q (.ref I) { s with heap := h' }) :
    wpAny (model prog w) A (pyIter (.ref r)) Q E s := by
  have hsm : ∀ k : Nat, k ≤ 6 → PySem.Builtin.Range.small 0 (k : Int) 1 = true := by decide
  have hsz : ∀ k : Nat, k ≤ 6 → PySem.Builtin.Range.rangeSize 0 (k : Int) 1 = (k : Int) := by decide
  refine wpAny_pyIter_range hr (hsm k hk) ?_
  rw [hsz k hk]
  refine h _ _ ?_ (Nat.le_refl _) (Heap.get?_push_size _ rfl) fun b o e => Heap.get?_push_of_some _ e
  cases e : s.heap.get? _ with
  | none => rfl
  | some o => exact absurd (Heap.lt_size e) (by simp)

open PySem.Calls in
theorem comp_builtin {x : Str} {pos : Pos} {v : Value} {mg mb : Str → Option Value} (hk : scope.kind = .function) (hx : (compEnvC scope cl C env).kindOf x = some .globalImplicit)
    (hg : s.heap.Ns env.globals mg) (hmiss : mg x = none) (hb : s.heap.Ns env.builtins mb) (hv : mb x = some v) (h : Q v s)
    (hd : (x == ("__debug__" : Str)) = false := by decide) : wpAny (model prog w) A (eval (.Name x pos) (compEnvC scope cl C env)) Q E s :=
  Name_function_global (by simp [compEnvC, relabel, hk]) hx (loadGlobal_builtin (env := compEnvC scope cl C env) hg hmiss hb hv h) hd
set_option maxRecDepth 100000 in
set_option maxHeartbeats 4000000 in
theorem range_call {p1 p2 p3 : Pos} {mg mb m₂ : Str → Option Value} {v : Value} (hk : scope.kind = .function) (hat : scope.names.lookup (Str.ofString "at") = some .local) (hx : (compEnvC scope cl C env).kindOf (Str.ofString "range") = some .globalImplicit)
    (hg : s.heap.Ns env.globals mg) (hmiss : mg (Str.ofString "range") = none) (hb : s.heap.Ns env.builtins mb) (hv : mb (Str.ofString "range") = some (.type "range")) (hn : s.heap.Ns C m₂) (hm : m₂ (Str.ofString "at") = some v)
    (h : wpAny (model prog w) A (call (.type "range") [v]) Q E s) :
    wpAny (model prog w) A (eval (.Call (.Name (Str.ofString "range") p1) [.Name (Str.ofString "at") p2] [] p3) (compEnvC scope cl C env)) Q E s := by
  k_with_none
  k_with "eval Name" => first | refine comp_builtin hk hx hg hmiss hb hv ?_ | refine comp_local hk hat hn hm ?_
  w_strict k_steps
  all_goals exact h
def cntS (ss : List Str) (i : Nat) : Nat := ((List.range i).filter fun j => lessS ss i j).length
def inv (ss : List Str) : Nat := ((List.range 6).map (cntS ss)).sum
def cntV (ss : List Str) : Value → Nat
  | .int i _ => cntS ss i.toNat
  | _ => 0
def pzV (ss : List Str) (i : Nat) : Value → Bool
  | .int j _ => lessS ss i j.toNat
  | _ => false
theorem filter_len {vs : List Value} {n : Nat} {p : Nat → Bool} {pz : Value → Bool} (hlen : vs.length = n) (h : ∀ j v, vs[j]? = some v → pz v = p j) : (vs.filter pz).length = ((List.range n).filter p).length := by
  have e : vs.map pz = (List.range n).map p := by
    apply List.ext_getElem?
    intro j
    rw [List.getElem?_map, List.getElem?_map]
    by_cases hj : j < n
    · have hv : vs[j]? = some (vs[j]'(by omega)) := by simp [hlen, hj]
      rw [hv, List.getElem?_range hj]
      simp only [Option.map_some]
      rw [h j _ hv]
    · rw [List.getElem?_eq_none (by omega), List.getElem?_eq_none (by rw [List.length_range]; omega)]
      rfl
  have c : ∀ {α : Type} (q : α → Bool) (l : List α), (l.filter q).length = ((l.map q).filter id).length := by
    intro α q l
    rw [List.filter_map, List.length_map]
    rfl
  rw [c pz, c p, e]
theorem map_sum {vs : List Value} {n : Nat} {p : Nat → Nat} {f : Value → Nat} (hlen : vs.length = n) (h : ∀ j v, vs[j]? = some v → f v = p j) : (vs.map f).sum = ((List.range n).map p).sum := by
  have e : vs.map f = (List.range n).map p := by
    apply List.ext_getElem?
    intro j
    rw [List.getElem?_map, List.getElem?_map]
    by_cases hj : j < n
    · have hv : vs[j]? = some (vs[j]'(by omega)) := by simp [hlen, hj]
      rw [hv, List.getElem?_range hj]
      simp only [Option.map_some]
      rw [h j _ hv]
    · rw [List.getElem?_eq_none (by omega), List.getElem?_eq_none (by rw [List.length_range]; omega)]
      rfl
  rw [e]
theorem cntS_le (ss : List Str) (i : Nat) : cntS ss i ≤ i := by
  unfold cntS
  exact Nat.le_trans (List.length_filter_le _ _) (by rw [List.length_range]; exact Nat.le_refl _)
theorem int_ix (i : Nat) : (0 : Int) + (i : Int) * 1 = (i : Int) := by omega
open PySem.Calls in
theorem pair_body {r c D : Addr} {vs : List Value} {ss : List Str} {mg mb m₃ : Str → Option Value} {i : Nat} {ti : Tok} {ys : Array Value} {iter : PySem.Expr} {p1 p2 p3 p4 p5 p6 p7 q1 q2 q3 px py pe pos : Pos} {E : Value → Shared → Prop}
    (hh : A.handled = none) (hk : scope.kind = .function) (hat : scope.names.lookup (Str.ofString "at") = some .local) (hsp : scope.names.lookup (Str.ofString "spot") = some .local)
    (hrow : (compEnvC scope cl C env).kindOf (Str.ofString "row") = some .cell) (hrg : (compEnvC scope cl C env).kindOf (Str.ofString "range") = some .globalImplicit) (hc : cl.lookup (Str.ofString "row") = some c)
    (hg : s.heap.Ns env.globals mg) (hmiss : mg (Str.ofString "range") = none) (hb : s.heap.Ns env.builtins mb) (hv : mb (Str.ofString "range") = some (.type "range"))
    (hcell : s.heap.IsCell c (some (.ref r))) (hl : s.heap.IsList r vs.toArray) (hS : StrsAre vs ss) (h6 : ss.length = 6)
    (hcC : c ≠ C) (hcD : c ≠ D) (hrC : r ≠ C) (hrD : r ≠ D) (hDC : D ≠ C) (hi : i < 6)
    (hn : s.heap.Ns C m₃) (hx : m₃ (Str.ofString "at") = some (.int (i : Int) ti)) (hacc : s.heap.PlainList D ys) (hys : ys.size ≤ 36) :
    wpAny (model prog w) A (eval (.Call (.Name (Str.ofString "range") q1) [.Name (Str.ofString "at") q2] [] q3) (compEnvC scope cl C env)) (fun xv s₄ => wpAny (model prog w) A (pyIter xv) (fun it s₅ =>
      codeAny (model prog w) A (.compStart (two (.Name (Str.ofString "at") pe) iter (.Call (.Name (Str.ofString "range") q1) [.Name (Str.ofString "at") q2] [] q3)
        (.Compare (.Subscript (.Name (Str.ofString "row") p1) (.Name (Str.ofString "spot") p2) p3) [.Gt] [.Subscript (.Name (Str.ofString "row") p4) (.Name (Str.ofString "at") p5) p6] p7)
        (Str.ofString "at") (Str.ofString "spot") px py scope pos) 1 it (.ref D) (compEnvC scope cl C env)) (InBack D C (ys.size + cntV ss (.int (i : Int) ti)) s) s₅) E s₄) E s := by
  refine range_call hk hat hrg hg hmiss hb hv hn hx ?_
  refine range_iter (by omega) fun I h' tk hI hIle hit keep => ?_
  have hline : (64 : Nat) ≤ sizeLine := by decide
  have hneI : ∀ b o, s.heap.get? b = some o → b ≠ I := fun b o e q => by rw [q, hI] at e; cases e
  have hCI : C ≠ I := by obtain ⟨o, _, _, e, _⟩ := id hn; exact hneI C o e
  have hDI : D ≠ I := by obtain ⟨n, e⟩ := id hacc; exact hneI D _ e
  have hcI : c ≠ I := by obtain ⟨o, e, _⟩ := id hcell; exact hneI c o e
  have hrI : r ≠ I := by obtain ⟨o, e, _⟩ := id hl; exact hneI r o e
  have loop : ∀ s₃ : Shared, s₃ = { s with heap := h', toks := tk } → codeAny (model prog w) A (.compLoop (two (.Name (Str.ofString "at") pe) iter (.Call (.Name (Str.ofString "range") q1) [.Name (Str.ofString "at") q2] [] q3)
        (.Compare (.Subscript (.Name (Str.ofString "row") p1) (.Name (Str.ofString "spot") p2) p3) [.Gt] [.Subscript (.Name (Str.ofString "row") p4) (.Name (Str.ofString "at") p5) p6] p7)
        (Str.ofString "at") (Str.ofString "spot") px py scope pos) 1 (.ref I) (.ref D) (compEnvC scope cl C env)) (InBack D C (ys.size + cntV ss (.int (i : Int) ti)) s) s₃ := by
    rintro s₃ rfl
    refine loop_in (cenv := compEnvC scope cl C env) (Walks.range hh I 0 1 i).bound (pzV ss i) (by decide) (lookup_relabel_local hsp) (by simp [compEnvC, relabel, hk]) hDC (by simpa using hDI) (by simpa [compEnvC] using hCI)
      (by simpa using hit) (hacc.at fun o e => keep _ o e) (hn.keeps keep) hx ?_ ?_ ?_ (by omega)
    · rintro j v s₂ m₂ E' ⟨hj, t, rfl⟩ hn₂ hx₂ hy₂ hk₂
      rw [int_ix] at hy₂ ⊢
      refine wpAny_mono (pair_test (E := E') (r := r) (i := i) (j := j) hk hat hsp hrow hc (let ⟨o, e, d⟩ := hcell; ⟨o, hk₂ c o hcC (by simpa using hcI) hcD (keep c o e), d⟩) (hl.at fun o e => hk₂ r o hrC (by simpa using hrI) hrD (keep r o e)) hS hn₂ hx₂ hy₂ (by omega) (by omega) h6) (fun ok s₃ h₃ => ⟨?_, h₃.2⟩) fun _ _ e => e
      rw [h₃.1]
      simp [pzV]
    · intro s₂ m₂ E' hn₂ hx₂
      exact comp_local hk hat hn₂ hx₂ ⟨s₂.heap, s₂.toks, rfl, fun _ _ e => e⟩
    · intro h₁ tk₁ m₁ ys₁ us hn₁ hl₁ hlen hP hsz hk₁
      refine ⟨h₁, tk₁, m₁, ys₁, rfl, hn₁, hl₁, ?_, fun b o hbC hbD e => hk₁ b o hbC (by simpa using hneI b o e) hbD (keep b o e)⟩
      rw [hsz, filter_len (p := fun j => lessS ss i j) hlen fun j v hj => ?_]
      · simp [cntV, cntS]
      · obtain ⟨_, t, rfl⟩ := hP j v hj
        rw [int_ix]
        simp [pzV]
  exact start_in (loop _ rfl) (wpAny_pyIter_rangeiter hit (loop _ rfl))
end
end Mine
end

section
open PySem PySem.W PyProof.Rows
namespace Mine
theorem inv_le (ss : List Str) : inv ss ≤ 15 := by
  have h0 := cntS_le ss 0
  have h1 := cntS_le ss 1
  have h2 := cntS_le ss 2
  have h3 := cntS_le ss 3
  have h4 := cntS_le ss 4
  have h5 := cntS_le ss 5
  have e : inv ss = cntS ss 0 + (cntS ss 1 + (cntS ss 2 + (cntS ss 3 + (cntS ss 4 + (cntS ss 5 + 0))))) := rfl
  omega
section
variable {w : World} {mean : ExcName → Option Value} {mg mb : Str → Option Value} {dp un : Nat} {gd : Option (List Code)} {cn : Str} {cs : Scope} {a : Addr} {ccd : Value} {cl : List (Str × Addr)}
  {outer : List Env} {A₀ : Around} {base h₀ : Heap} {L : Addr} {m : Str → Option Value} {news : List (Addr × Obj)} {s : Shared} {Q E : Value → Shared → Prop}
local macro_rules | `(tactic| k_mem) => `(tactic| first | with_reducible assumption | assumption | (refine List.Mem.tail _ ?_; k_mem))
set_option maxRecDepth 100000 in
set_option maxHeartbeats 4000000 in
theorem pairs_use {D : Addr} {vs : List Value} {ss : List Str} {c : Nat} (B : Below A₀ base outer h₀) (F : Fr h₀ L s.heap m) (X : (hd.heap_39 w.params).In h₀) (N : News h₀ L s.heap news)
    (T : Top hd.view_39 (looseW hd.view_39 [Str.ofString "BasicError"]) mean mg mb h₀) (hk : cs.kind = .function) (hm : (D, listOf vs.toArray c) ∈ news) (hS : StrsAre vs ss) (hv : ss.length = 6)
    (hd : dp + 1 < recursionLimit) (hu : un + 8 < cLine)
    (ret : ∀ t' h' tk', Fr h₀ L h' m → News h₀ L h' news → Q (.int (inv ss) t') { s with heap := h', toks := tk' }) :
    wpAny (model PySem.Challenge.rw_xm0051_01.row.prog w) (ktrTop dp un gd cn cs L a ccd cl outer) (call (.ref 267) [.ref D]) Q E s := by
  k_with_none
  revert X
  k_fill
  intro X
  refine wpAny_call ?_
  k_dflt (refine' code_defC ?k1 ?k2 ?k3 ?k4 ?k5 ?kA ?kF ?kK ?k6 ?k7 ?k8 ?k9 ?kB ?kD ?_ ?c2 ?c3 ?c4; (case kA => exact rfl); (case kF => exact rfl); (case kK => assumption); (case k1 => k_asm); (case k2 => k_asm); (case k3 => k_asm); (case k4 => k_asm); (case k5 => k_asm); (case k6 => k_is); (case k7 => k_is); (case k8 => ktr_room); (case k9 => exact BindsTo.of_eq rfl); (case kB => exact rfl); (case kD => decide +kernel); (case c2 => exact rfl); (case c3 => exact rfl); (case c4 => exact rfl); k_whole)
  intro g' L' h' tk' cells' FG' F' N' Y' B' X' T' l1
  (try k_lt l1)
  have hY := CellsAre.one Y'
  obtain ⟨oc, hE, hoc⟩ := hY
  subst hE
  clear Y'
  (try simp only [List.cons_append, List.nil_append] at N')
  have hoc' : oc.data = .cell (some (.ref D)) := hoc
  clear hoc
  (try dsimp only)
  (try k_fold)
  w_strict k_steps
  k_here
  refine comp_two (cntV ss) (cl := [(Str.ofString "row", L' + 1)]) ?hclos ?hcell ?hkind ?hnames ?hx ?h ?hs ?hs1
  case hclos => with_unfolding_all rfl
  case hcell => decide
  case hkind => rfl
  case hnames => decide
  case hx => rfl
  case hs => intro _; rfl
  case hs1 => intro _ _; rfl
  w_strict k_steps
  rename IsRange _ _ _ _ _ _ _ _ => hR0
  rename Fr _ _ _ _ => F1
  rename News _ _ _ _ => N1
  refine range_open (k := 6) hR0 (by decide) fun I h2 hI hIle hit keep => ?_
  have TR := topRead_of T'
  have hmiss : mg (Str.ofString "range") = none := mg_none_of X' TR.g (by k_is)
  have hbv : mb (Str.ofString "range") = some (.type "range") := (TR.builtins (Str.ofString "range") (by decide)).trans (by boot_by_name)
  refine ⟨I, 6, _, _, rfl, (Walks.range (by rfl) I 0 1 6).bound, hit, fun i h st => ⟨_, st⟩, ?hcnt, ?hbody, ?hfin⟩
  case hcnt =>
    rintro i v hi ⟨_, t, rfl⟩
    rw [int_ix]
    exact Nat.le_trans (cntS_le _ _) (by show (i : Int).toNat ≤ 6; omega)
  case hbody =>
    rintro D' C i v s₃ m₃ ys E' hD0 hC0 hDC hCle hi ⟨_, t, rfl⟩ hn3 hx3 hl3 hys hI3 hk3
    rw [int_ix] at hx3 ⊢
    have up := fun b o e => hk3 b o (fun q => by rw [q, hI] at e; cases e) (keep b o e)
    have ocN := N1.get (List.Mem.head _)
    have hlN := News.isList N1 (List.Mem.tail _ hm)
    have neD : ∀ {d : Addr}, h2.get? d = none → D ≠ d := fun hd q => by obtain ⟨o, e, _⟩ := id hlN; have z := keep _ _ e; rw [q, hd] at z; cases z
    have neC : ∀ {d : Addr}, h2.get? d = none → L' + 1 ≠ d := fun hd q => by have z := keep _ _ ocN; rw [q, hd] at z; cases z
    exact pair_body (mg := mg) (mb := mb) (c := L' + 1) (r := D) (by rfl) (by rfl) (by rfl) (by rfl) (by rfl) (by rfl) (by rfl) (TR.g.keeps fun b o e => up b o (F1.keep b o e)) hmiss (TR.b.keeps fun b o e => up b o (F1.keep b o e)) hbv
      ⟨oc, up _ _ ocN, hoc'⟩ (hlN.at fun o e => up _ o e) hS hv (neC hC0) (neC hD0) (neD hC0) (neD hD0) hDC hi hn3 hx3 hl3 (by omega)
  case hfin =>
    intro D' h9 tk9 ys us hD0 hl9 hlen hP hsz hk9
    have hinv : ys.size = inv ss := by
      rw [hsz]
      exact map_sum (p := cntS ss) hlen fun j v hj => by
        obtain ⟨_, t, rfl⟩ := hP j v hj
        rw [int_ix]
        simp [cntV]
    have up9 := fun b o e => hk9 b o (fun q => by rw [q, hI] at e; cases e) (keep b o e)
    have F9 := F1.keeps up9
    have N9 := N1.grown up9
    clear hbv hmiss hk9 up9 hP hsz hR0 hit keep hI hIle hD0
    k_with "call builtin:len" => (refine PySem.Calls.call_len_list hl9.isList ?lf ?lq; (case lf => (rw [hinv]; have := inv_le ss; omega)); rw [hinv])
    w_strict k_steps
    all_goals (refine ret _ _ _ (by k_asm) ?_; first | k_asm | (refine' cb_drop ?cbN ?cbS; (case cbN => assumption); (case cbS => kcj_all)))
end
end Mine
end

section
open PySem PySem.W PySem.Spec PyProof.Rows
namespace Mine
def letter (n : Nat) : Str := ⟨#[65 + n]⟩
def sixL : List Nat := [0, 1, 2, 3, 4, 5]
theorem signs_six : signs (Str.ofString "ABCDEF") = sixL.map letter := by decide +kernel
def swapN (p : List Nat) (i j : Nat) : List Nat := (p.set i (p.getD j 0)).set j (p.getD i 0)
def swapS (ss : List Str) (i j : Nat) : List Str := (ss.set i (tS ss j)).set j (tS ss i)
theorem swapN_length (p : List Nat) (i j : Nat) : (swapN p i j).length = p.length := by simp [swapN]
theorem swapN_perm {p : List Nat} {i j : Nat} (hi : i < p.length) (hj : j < p.length) : (swapN p i j).Perm p := by
  have h := List.set_set_perm hi hj
  unfold swapN
  have e1 : p.getD j 0 = p[j] := by simp [hj]
  have e2 : p.getD i 0 = p[i] := by simp [hi]
  rw [e1, e2]
  exact h
theorem tS_letter {p : List Nat} {i : Nat} (hi : i < p.length) : tS (p.map letter) i = letter (p.getD i 0) := by
  unfold tS
  simp [hi]
theorem swapS_letter {p : List Nat} {i j : Nat} (hi : i < p.length) (hj : j < p.length) : swapS (p.map letter) i j = (swapN p i j).map letter := by
  unfold swapS swapN
  rw [tS_letter hi, tS_letter hj]
  simp [List.map_set]
theorem strs_set {vs : List Value} {ss : List Str} (h : StrsAre vs ss) (i : Nat) (x : Str) (t : Tok) : StrsAre (vs.set i (.str x t)) (ss.set i x) := by
  induction h generalizing i with
  | nil => exact .nil
  | cons y u r ih =>
    cases i with
    | zero => exact .cons x t r
    | succ i => exact .cons y u (ih i)
theorem strs_swap {vs : List Value} {ss : List Str} (h : StrsAre vs ss) {i j : Nat} (hi : i < ss.length) (hj : j < ss.length) : StrsAre (swapV vs i j) (swapS ss i j) := by
  obtain ⟨t, et⟩ := strs_at h hi
  obtain ⟨u, eu⟩ := strs_at h hj
  have e1 : vs.getD j .none = .str (tS ss j) u := by
    have : vs[j]? = some (.str (tS ss j) u) := by simpa using eu
    simp [List.getD, this]
  have e2 : vs.getD i .none = .str (tS ss i) t := by
    have : vs[i]? = some (.str (tS ss i) t) := by simpa using et
    simp [List.getD, this]
  unfold swapV swapS
  rw [e1, e2]
  exact strs_set (strs_set h _ _ _) _ _ _
/-- exchanged twice: as it was -/
theorem swapV_back {vs : List Value} {i j : Nat} (hi : i < vs.length) (hj : j < vs.length) : swapV (swapV vs i j) i j = vs := by
  have e1 : vs.getD j .none = vs[j] := by simp [hj]
  have e2 : vs.getD i .none = vs[i] := by simp [hi]
  apply List.ext_getElem?
  intro k
  unfold swapV
  rw [e1, e2]
  by_cases hij : i = j
  · subst hij
    simp [hi]
  · have ne : ¬ j = i := fun h => hij h.symm
    by_cases hk : k = i
    · subst hk
      simp [List.getElem?_set, hi, hj, hij, ne]
    · by_cases hk2 : k = j
      · subst hk2
        simp [List.getElem?_set, hi, hj, hij, ne]
      · have n1 : ¬ i = k := fun h => hk h.symm
        have n2 : ¬ j = k := fun h => hk2 h.symm
        simp [List.getElem?_set, n1, n2]
theorem swapV_length (vs : List Value) (i j : Nat) : (swapV vs i j).length = vs.length := by simp [swapV]
-- sorted
theorem rising_le : ∀ (l : List Nat) (a : Nat), risingS (letter a) (l.map letter) = true → (a :: l).Pairwise (· ≤ ·)
  | [], a, _ => by simp
  | b :: r, a, h => by
    have h' : (!ltCps (letter b).cps.toList (letter a).cps.toList && risingS (letter b) (r.map letter)) = true := h
    rw [Bool.and_eq_true] at h'
    obtain ⟨h1, h2⟩ := h'
    have ih := rising_le r b h2
    have hab : a ≤ b := by
      have h3 : ltCps [65 + b] [65 + a] = false := by simpa [letter] using h1
      simp [ltCps] at h3
      omega
    refine List.pairwise_cons.mpr ⟨fun c hc => ?_, ih⟩
    rcases List.mem_cons.mp hc with rfl | hc
    · exact hab
    · exact Nat.le_trans hab ((List.pairwise_cons.mp ih).1 c hc)
def codeOf (s : Str) : Nat := s.cps.getD 0 0 - 65
theorem codeOf_letter (n : Nat) : codeOf (letter n) = n := by simp [codeOf, letter]
theorem sorted_is {ss' : List Str} {p : List Nat} (hp : p.Perm sixL) (h : ss'.Perm (p.map letter)) (hs : sortedS ss' = true) : ss' = sixL.map letter := by
  have hall : ∀ s ∈ ss', letter (codeOf s) = s := by
    intro s hm
    obtain ⟨n, _, rfl⟩ := List.mem_map.mp (h.mem_iff.mp hm)
    rw [codeOf_letter]
  have e : ss' = (ss'.map codeOf).map letter := by
    rw [List.map_map]
    conv => lhs; rw [← List.map_id ss']
    apply List.map_congr_left
    intro s hm
    exact (hall s hm).symm
  have hq : (ss'.map codeOf).Perm sixL := by
    have h1 := (h.map codeOf)
    rw [List.map_map] at h1
    have h2 : (p.map (codeOf ∘ letter)) = p := by
      conv => rhs; rw [← List.map_id p]
      apply List.map_congr_left
      intro n _
      exact codeOf_letter n
    rw [h2] at h1
    exact h1.trans hp
  rw [e] at hs
  generalize ss'.map codeOf = q at e hq hs
  have hpw : q.Pairwise (· ≤ ·) := by
    cases q with
    | nil => exact .nil
    | cons a r => exact rising_le r a hs
  have := List.Perm.eq_of_pairwise (le := (· ≤ ·)) (fun a b _ _ h1 h2 => Nat.le_antisymm h1 h2) hpw (by decide) hq
  rw [e, this]
-- the pairs that stand the wrong way
def cntN (p : List Nat) (i : Nat) : Nat := ((List.range i).filter fun j => decide (p.getD i 0 < p.getD j 0)).length
def invN (p : List Nat) : Nat := cntN p 0 + (cntN p 1 + (cntN p 2 + (cntN p 3 + (cntN p 4 + cntN p 5))))
theorem less_letter (a b : Nat) : decide ((letter a).cps.toList < (letter b).cps.toList) = decide (a < b) := by
  apply decide_eq_decide.mpr
  show ([65 + a] < [65 + b]) ↔ a < b
  rw [List.cons_lt_cons_iff]
  constructor
  · rintro (h | ⟨_, h⟩)
    · omega
    · exact absurd h (by simp)
  · intro h; exact .inl (by omega)
theorem inv_letter {p : List Nat} (h6 : p.length = 6) : inv (p.map letter) = invN p := by
  have key : ∀ i < 6, cntS (p.map letter) i = cntN p i := by
    intro i hi
    unfold cntS cntN
    congr 1
    apply List.filter_congr
    intro j hj
    have hj' := List.mem_range.mp hj
    unfold lessS
    rw [tS_letter (by omega), tS_letter (by omega)]
    exact less_letter _ _
  show cntS _ 0 + (cntS _ 1 + (cntS _ 2 + (cntS _ 3 + (cntS _ 4 + (cntS _ 5 + 0))))) = _
  rw [key 0 (by decide), key 1 (by decide), key 2 (by decide), key 3 (by decide), key 4 (by decide), key 5 (by decide)]
  rfl
theorem shaped_letters {p : List Nat} (hp : p.Perm sixL) : PySem.SeqAt.shaped (.list ((p.map letter).map .str)) = true := by
  have h1 : PyData.canLayAll0 ((p.map letter).map .str) = true := by
    rw [canLayAll_strs', List.all_eq_true]
    intro s hs
    obtain ⟨n, hn, rfl⟩ := List.mem_map.mp hs
    have h6 : ∀ n ∈ sixL, n < 6 := by decide
    have := h6 n (hp.mem_iff.mp hn)
    simp [PyData.strOk, letter]
    omega
  have h2 := depthAll_strs' (p.map letter)
  generalize ((p.map letter).map PyData.str) = d at h1 h2
  unfold PySem.SeqAt.shaped
  rw [Bool.and_eq_true]
  exact ⟨by simpa [PyData.canLay0] using h1, by simp [PyData.depth, h2]⟩
theorem eqv_refl : ∀ ss : List Str, PyData.eqvAll (ss.map .str) (ss.map .str) = true
  | [] => rfl
  | x :: r => by simp [PyData.eqvAll, PyData.eqv, eqv_refl r]
end Mine
end

section
open PySem PySem.W PySem.Spec PyProof.Rows
namespace Mine
theorem swap_same {p : List Nat} {i : Nat} (hi : i < p.length) : swapN p i i = p := by
  have e : p.getD i 0 = p[i] := by simp [hi]
  unfold swapN
  rw [e, List.set_set, List.set_getElem_self]
/-- the orders that the law's first walk can have reached behind k exchanges -/
def reach : Nat → List (List Nat)
  | 0 => [sixL]
  | k + 1 => (reach k).flatMap fun p => (List.range (6 - k)).map fun j => swapN p (5 - k) j
def oddAt (k : Nat) : Bool := (reach k).all fun p => p.length == 6 && (List.range (5 - k)).all fun j => (invN (swapN p (5 - k) j) + invN p) % 2 == 1
theorem odd0 : oddAt 0 = true := by decide +kernel
theorem odd1 : oddAt 1 = true := by decide +kernel
theorem odd2 : oddAt 2 = true := by decide +kernel
theorem odd3 : oddAt 3 = true := by decide +kernel
theorem odd4 : oddAt 4 = true := by decide +kernel
theorem odd_all : ∀ k < 5, oddAt k = true
  | 0, _ => odd0
  | 1, _ => odd1
  | 2, _ => odd2
  | 3, _ => odd3
  | 4, _ => odd4
/-- what the law asks of the count of exchanges and of the pairs, behind k exchanges -/
def EvenAt (k : Nat) (p : List Nat) (m : Int) : Prop := p ∈ reach k ∧ ((invN p : Int) - m).fmod 2 = 0
theorem even_start : EvenAt 0 sixL 0 := ⟨by decide, by decide⟩
theorem even_step {p q : List Nat} {m : Int} {k : Nat} {i j : Int} (h : EvenAt k p m) (hq : q = swapN p i.toNat j.toNat) (hi : i = 5 - (k : Int)) (h1 : 1 ≤ i) (hj : 0 ≤ j) (hji : j < i + 1) :
    EvenAt (k + 1) q (m + if (j != i) = true then 1 else 0) := by
  have hb : (if (j != i) = true then (1 : Int) else 0) = if j ≠ i then 1 else 0 := by simp
  rw [hb]
  subst hq
  obtain ⟨hm, hf⟩ := h
  have hk : k < 5 := by omega
  have ei : i.toNat = 5 - k := by omega
  have ho := odd_all k hk
  unfold oddAt at ho
  rw [List.all_eq_true] at ho
  have hp := ho p hm
  rw [Bool.and_eq_true, beq_iff_eq, List.all_eq_true] at hp
  obtain ⟨hl, hall⟩ := hp
  refine ⟨?_, ?_⟩
  · rw [ei]
    exact List.mem_flatMap.mpr ⟨p, hm, List.mem_map.mpr ⟨j.toNat, List.mem_range.mpr (by omega), rfl⟩⟩
  · rw [Int.fmod_eq_emod_of_nonneg _ (by decide)] at *
    by_cases e : j = i
    · subst e
      rw [swap_same (by omega)]
      simp
      omega
    · rw [if_pos e]
      have := hall j.toNat (List.mem_range.mpr (by omega))
      rw [beq_iff_eq, ← ei] at this
      omega
end Mine
end

section
open PySem PySem.W PySem.Spec PyProof.Rows
namespace Mine
theorem later_room (n : Int) : 0 ≤ later n ∧ later n < 16777216 := by unfold later; omega
theorem swapN_back {p : List Nat} {i j : Nat} (hi : i < p.length) (hj : j < p.length) : swapN (swapN p i j) i j = p := by
  have e1 : p.getD j 0 = p[j] := by simp [hj]
  have e2 : p.getD i 0 = p[i] := by simp [hi]
  apply List.ext_getElem?
  intro k
  unfold swapN
  rw [e1, e2]
  by_cases hij : i = j
  · subst hij
    simp [hi]
  · have ne : ¬ j = i := fun h => hij h.symm
    by_cases hk : k = i
    · subst hk
      simp [List.getElem?_set, hi, hj, hij, ne]
    · by_cases hk2 : k = j
      · subst hk2
        simp [List.getElem?_set, hi, hj, hij, ne]
      · have n1 : ¬ i = k := fun h => hk h.symm
        have n2 : ¬ j = k := fun h => hk2 h.symm
        simp [List.getElem?_set, n1, n2]
theorem drop_tup {h₀ h : Heap} {L : Addr} {x : Addr × Obj} {a : Addr} {items : Array Value} {n : Nat} {r : List (Addr × Obj)} (N : News h₀ L h (x :: (a, ({ cls := .type "tuple", data := .seq items n } : Obj)) :: r)) : News h₀ L h (x :: r) :=
  cb_drop N fun p hp => by
    rcases List.mem_cons.mp hp with rfl | hp
    · exact .head _
    · exact .tail _ (.tail _ hp)
theorem first_row {ys : List Value} (h : CarriedAll ys (List.map PyData.str (signs (Str.ofString "ABCDEF")))) : StrsAre ys (sixL.map letter) := by
  rw [← signs_six]; exact StrsAre.of_carried h
theorem perm_len {p : List Nat} (h : p.Perm sixL) : p.length = 6 := h.length_eq
section
variable {w : World} {mean : ExcName → Option Value} {mg mb : Str → Option Value} {dp un : Nat} {gd : Option (List Code)} {cn : Str} {cs : Scope} {a : Addr} {ccd : Value} {cl : List (Str × Addr)}
  {outer : List Env} {A₀ : Around} {base h₀ : Heap} {L : Addr} {m : Str → Option Value} {news : List (Addr × Obj)} {s : Shared} {Q E : Value → Shared → Prop}
theorem later_go {n : Int} {t : Tok} (B : Below A₀ base outer h₀) (F : Fr h₀ L s.heap m) (X : (hd.heap_39 w.params).In h₀) (N : News h₀ L s.heap news)
    (T : Top hd.view_39 (looseW hd.view_39 [Str.ofString "BasicError"]) mean mg mb h₀) (hk : cs.kind = .function) (ok1 : 0 ≤ n) (ok2 : n < 16777216)
    (hd : dp + 1 < recursionLimit) (hu : un + 8 < cLine)
    (ret : ∀ t' h' tk', Fr h₀ L h' m → News h₀ L h' news → 0 ≤ later n → later n < 16777216 → Q (.int (later n) t') { s with heap := h', toks := tk' }) :
    wpAny (model PySem.Challenge.rw_xm0051_01.row.prog w) (ktrTop dp un gd cn cs L a ccd cl outer) (call (.ref 93) [.int n t]) Q E s :=
  later_use B F X N T hk ok1 ok2 hd hu fun t' h' tk' F' N' => ret t' h' tk' F' N' (later_room n).1 (later_room n).2
theorem place_go {n k : Int} {t u : Tok} (B : Below A₀ base outer h₀) (F : Fr h₀ L s.heap m) (X : (hd.heap_39 w.params).In h₀) (N : News h₀ L s.heap news)
    (T : Top hd.view_39 (looseW hd.view_39 [Str.ofString "BasicError"]) mean mg mb h₀) (hk : cs.kind = .function) (ok1 : 0 ≤ n) (ok2 : n < 16777216) (ok3 : 2 ≤ k) (ok4 : k ≤ 6)
    (hd : dp + 8 < recursionLimit) (hu : un + 64 < cLine)
    (ret : ∀ t' h' tk', Fr h₀ L h' m → News h₀ L h' news → 0 ≤ place n k → place n k < k → Q (.int (place n k) t') { s with heap := h', toks := tk' }) :
    wpAny (model PySem.Challenge.rw_xm0051_01.row.prog w) (ktrTop dp un gd cn cs L a ccd cl outer) (call (.ref 255) [.int n t, .int k u]) Q E s :=
  place_use B F X N T hk ok1 ok2 ok3 ok4 hd hu fun t' h' tk' F' N' => ret t' h' tk' F' N' (place_facts ok1 ok2 ok3 ok4).r1 (place_facts ok1 ok2 ok3 ok4).r2
theorem exch_go {D : Addr} {vs : List Value} {p : List Nat} {c : Nat} {i j : Int} {t u : Tok} (B : Below A₀ base outer h₀) (F : Fr h₀ L s.heap m) (X : (hd.heap_39 w.params).In h₀) (N : News h₀ L s.heap news)
    (T : Top hd.view_39 (looseW hd.view_39 [Str.ofString "BasicError"]) mean mg mb h₀) (hk : cs.kind = .function) (hm : (D, listOf vs.toArray c) ∈ news) (hS : StrsAre vs (p.map letter)) (hP : p.Perm sixL)
    (ok1 : 0 ≤ i) (ok2 : i < 6) (ok3 : 0 ≤ j) (ok4 : j < 6)
    (hd : dp + 1 < recursionLimit) (hu : un + 8 < cLine)
    (ret : ∀ D' c' h' tk' vs' q, q = swapN p i.toNat j.toNat → (∀ M k, EvenAt k p M → i = 5 - (k : Int) → 1 ≤ i → j < i + 1 → EvenAt (k + 1) q (M + if (j != i) = true then 1 else 0)) → StrsAre vs' (q.map letter) → q.Perm sixL → Fr h₀ L h' m → News h₀ L h' ((D', listOf vs'.toArray c') :: news) → (∀ p ∈ news, p.1 < D') → Q (.ref D') { s with heap := h', toks := tk' }) :
    wpAny (model PySem.Challenge.rw_xm0051_01.row.prog w) (ktrTop dp un gd cn cs L a ccd cl outer) (call (.ref 262) [.ref D, .int i t, .int j u]) Q E s := by
  have hl := perm_len hP
  have hv : vs.length = 6 := by rw [hS.length, List.length_map, hl]
  refine exch_use B F X N T hk hm hv ok1 ok2 ok3 ok4 hd hu fun D' c' h' tk' F' N' l' => ret D' c' h' tk' _ _ rfl (fun M k hM hi h1 hji => even_step hM rfl hi h1 ok3 hji) ?_ ?_ F' N' l'
  · rw [← swapS_letter (by omega) (by omega)]
    exact strs_swap hS (by rw [List.length_map]; omega) (by rw [List.length_map]; omega)
  · exact (swapN_perm (by omega) (by omega)).trans hP
theorem pairs_go {D : Addr} {vs : List Value} {p : List Nat} {c : Nat} (B : Below A₀ base outer h₀) (F : Fr h₀ L s.heap m) (X : (hd.heap_39 w.params).In h₀) (N : News h₀ L s.heap news)
    (T : Top hd.view_39 (looseW hd.view_39 [Str.ofString "BasicError"]) mean mg mb h₀) (hk : cs.kind = .function) (hm : (D, listOf vs.toArray c) ∈ news) (hS : StrsAre vs (p.map letter)) (hP : p.Perm sixL)
    (hd : dp + 1 < recursionLimit) (hu : un + 8 < cLine)
    (ret : ∀ t' h' tk', Fr h₀ L h' m → News h₀ L h' news → Q (.int (invN p) t') { s with heap := h', toks := tk' }) :
    wpAny (model PySem.Challenge.rw_xm0051_01.row.prog w) (ktrTop dp un gd cn cs L a ccd cl outer) (call (.ref 267) [.ref D]) Q E s := by
  refine pairs_use B F X N T hk hm hS (by rw [List.length_map, perm_len hP]) hd hu fun t' h' tk' F' N' => ?_
  rw [inv_letter (perm_len hP)]
  exact ret t' h' tk' F' N'
end
theorem back_eq {q p r : List Nat} {i j : Nat} (e1 : q = swapN p i j) (e2 : p = swapN r i j) (hr : r.Perm sixL) (hi : i < 6) (hj : j < 6) : q = r := by
  subst e2
  rw [e1]
  exact swapN_back (by rw [perm_len hr]; exact hi) (by rw [perm_len hr]; exact hj)
theorem back_eq2 {q p r : List Nat} {n i i' a a' : Int} (e1 : q = swapN p i.toNat (place n a).toNat) (e2 : p = swapN r i'.toNat (place n a').toNat) (hr : r.Perm sixL) (hi : i = i') (ha : a = a') (h6 : i.toNat < 6) (hj : (place n a').toNat < 6) : q = r := by
  subst hi
  subst ha
  exact back_eq e1 e2 hr h6 hj
theorem back_seed {n o z : Int} (h0 : 0 ≤ n) (h1 : n < 16777216) (ho : o = 11743573) (hz : z = 16777216) : ((later n - 2531011) * o).fmod z = n := by
  subst ho
  subst hz
  rw [Int.fmod_eq_emod_of_nonneg _ (by decide)]
  unfold later
  have h : ((n * 214013 + 2531011) % 16777216 - 2531011) * 11743573 % 16777216 = (n * 214013 * 11743573) % 16777216 := by omega
  rw [h]
  omega
section
variable {prog : Program} {w : World} {A : Around} {h₀ : Heap} {L : Addr} {m : Str → Option Value} {news : List (Addr × Obj)} {s : Shared} {Q E : Value → Shared → Prop}
theorem sorted_go {D : Addr} {vs : List Value} {p : List Nat} {c : Nat} (F : Fr h₀ L s.heap m) (N : News h₀ L s.heap news) (hm : (D, listOf vs.toArray c) ∈ news) (hS : StrsAre vs (p.map letter)) (hP : p.Perm sixL)
    (ret : ∀ D' c' h' vs', StrsAre vs' (sixL.map letter) → Fr h₀ L h' m → News h₀ L h' ((D', listOf vs'.toArray c') :: news) → (∀ p ∈ news, p.1 < D') → Q (.ref D') { s with heap := h' }) :
    wpAny (model prog w) A (call (.builtin "sorted") [.ref D]) Q E s := by
  have hv : vs.length = 6 := by rw [hS.length, List.length_map, perm_len hP]
  refine sorted_N_str F N (News.isList N hm) hS (by omega) fun h' vs' ss' e F' N' hS' hp' hs' => ?_
  have := sorted_is hP hp' hs'
  subst this
  exact ret _ e h' vs' hS' F' N' fun q hq => Nat.lt_succ_of_lt (Heap.lt_size (N q hq).1)
theorem ne_go {a b : Addr} {vs us : List Value} {p q : List Nat} {c c' : Nat} (N : News h₀ L s.heap news) (ha : (a, listOf vs.toArray c) ∈ news) (hb : (b, listOf us.toArray c') ∈ news) (hS : StrsAre vs (p.map letter)) (hT : StrsAre us (q.map letter))
    (hP : q.Perm sixL) (e : p = q) (hu : A.units + 64 < cLine) (h : p = q → Q (.bool false) s) :
    wpAny (model prog w) A (compareOp .NotEq (.ref a) (.ref b)) Q E s := by
  subst e
  refine ne_dataH (Reads.list (N.get ha) rfl rfl (StrsAre.reads _ hS)) (Reads.list (N.get hb) rfl rfl (StrsAre.reads _ hT)) (shaped_letters hP) (shaped_letters hP) hu ?_
  have : PyData.eqv (.list ((p.map letter).map .str)) (.list ((p.map letter).map .str)) = true := eqv_refl _
  rw [this]
  exact h rfl
theorem mod_step {p q : List Nat} {M d j i : Int} {k : Nat} {t u : Tok} (hE : ∀ M k, EvenAt k p M → i = 5 - (k : Int) → 1 ≤ i → j < i + 1 → EvenAt (k + 1) q (M + d)) (h0 : EvenAt k p M) (hi : i = 5 - (k : Int)) (h1 : 1 ≤ i) (hji : j < i + 1)
    (hQ : EvenAt (k + 1) q (M + d) → Q (.int 0 s.toks) { s with toks := s.toks + 1 }) :
    wpAny (model prog w) A (binaryOp .Mod (.int ((invN q : Int) - (M + d)) t) (.int 2 u)) Q E s := by
  refine mod_int' (by decide) ?_
  have h := hE M k h0 hi h1 hji
  rw [show ((invN q : Int) - (M + d)).fmod 2 = 0 from h.2]
  exact hQ h
theorem mod_back {n o z : Int} {t u : Tok} (h0 : 0 ≤ n) (h1 : n < 16777216) (ho : o = 11743573) (hz : z = 16777216) (hQ : Q (.int n s.toks) { s with toks := s.toks + 1 }) :
    wpAny (model prog w) A (binaryOp .Mod (.int ((later n - 2531011) * o) t) (.int z u)) Q E s := by
  refine mod_int' (by rw [hz]; decide) ?_
  rw [back_seed h0 h1 ho hz]
  exact hQ
end
end Mine
end

section
open PySem PySem.W PyProof.Rows
namespace Mine
local macro_rules | `(tactic| walk_at "compareOp NotEq ref ref") => `(tactic| (k_here; k_dflt ((with_unfolding_all refine' ne_go ?k4 ?ka ?kb ?kS ?kT ?kP ?ke ?ku ?_); (case k4 => first | k_asm | with_unfolding_all assumption); (case ka => k_mem); (case kb => k_mem); (case kS => assumption); (case kT => assumption); (case kP => first | assumption | exact List.Perm.refl _); (case ke => first | rfl | assumption | exact back_eq2 (by assumption) (by assumption) (by first | assumption | exact List.Perm.refl _) (by omega) (by omega) (by omega) (by omega)); (case ku => ke_room); intro hpq; (try subst hpq))))
local macro_rules | `(tactic| walk_at "binaryOp Mod int int") => `(tactic| (k_here; first
  | ((with_reducible show wpAny _ _ (binaryOp _ (Value.int (HSub.hSub (Nat.cast (invN _)) _) _) _) _ _ _); (k_dflt ((rename ∀ M k, EvenAt k _ M → _ → _ → _ → EvenAt _ _ _ => hE9); refine' mod_step hE9 ?h0 ?hi ?h1 ?hj ?_; (case h0 => first | assumption | exact even_start); (case hi => omega); (case h1 => omega); (case hj => omega); intro hV9)))
  | ((with_reducible show wpAny _ _ (binaryOp _ (Value.int (HMul.hMul (HSub.hSub (later _) _) _) _) _) _ _ _); (k_dflt (refine' mod_back ?h0 ?h1 ?ho ?hz ?_; (case h0 => omega); (case h1 => omega); (case ho => decide +kernel); (case hz => decide))))))
set_option maxRecDepth 100000 in
set_option maxHeartbeats 8000000 in
theorem law_holds : PySem.Challenge.rw_xm0051_01.Holds := Mine.hd (by
  k_with_none
  w_strict k_go0
  k_with "call ref" => first
    | ((with_reducible show wpAny _ _ (call (Value.ref 241) _) _ _ _); (k_dflt ((with_unfolding_all refine' draw_use ?k1 ?k2 ?k3 ?k4 ?k5 ?kK ?kz ?kl ?ki ?kn ?kd ?ku ?_); (case k1 => k_asm); (case k2 => first | k_asm | with_unfolding_all assumption); (case k3 => k_asm); (case k5 => k_asm); (case kK => first | exact rfl | assumption); (case kd => ktr_room); (case ku => ktr_units); (case k4 => refine' cb_drop ?cbN ?cbS; (case cbN => assumption); (case cbS => kcj_all)); (case kz => decide); (case kl => first | assumption | omega); (case ki => assumption); (case kn => omega); intro b' t' h' tk' hb1 hb2 F' N')))
    | ((with_reducible show wpAny _ _ (call (Value.ref 93) _) _ _ _); (k_dflt ((with_unfolding_all refine' later_go ?k1 ?k2 ?k3 ?k4 ?k5 ?kK ?ko ?kp ?kd ?ku ?_); (case k1 => k_asm); (case k2 => first | k_asm | with_unfolding_all assumption); (case k3 => k_asm); (case k5 => k_asm); (case kK => first | exact rfl | assumption); (case kd => ktr_room); (case ku => ktr_units); (case k4 => first | ((rename News _ _ _ (_ :: (_, Obj.mk (Value.type "tuple") _ (Data.seq _ _) _) :: _) => nwX); with_unfolding_all exact drop_tup nwX) | k_asm | with_unfolding_all assumption); (case ko => omega); (case kp => omega); intro t' h' tk' F' N' hl1 hl2; (try rw [show later 0 = 2531011 from by decide]))))
    | ((with_reducible show wpAny _ _ (call (Value.ref 255) _) _ _ _); (k_dflt ((with_unfolding_all refine' place_go ?k1 ?k2 ?k3 ?k4 ?k5 ?kK ?ko ?kp ?kq ?kr ?kd ?ku ?_); (case k1 => k_asm); (case k2 => first | k_asm | with_unfolding_all assumption); (case k3 => k_asm); (case k5 => k_asm); (case kK => first | exact rfl | assumption); (case kd => ktr_room); (case ku => ktr_units); (case k4 => first | k_asm | with_unfolding_all assumption); (case ko => omega); (case kp => omega); (case kq => omega); (case kr => omega); intro t' h' tk' F' N' hp1 hp2; (try ((rename CarriedAll _ _ => hc0); have hS0 := first_row hc0; clear hc0)))))
    | ((with_reducible show wpAny _ _ (call (Value.ref 262) _) _ _ _); (k_dflt ((with_unfolding_all refine' exch_go ?k1 ?k2 ?k3 ?k4 ?k5 ?kK ?km ?kS ?kP ?ko ?kp ?kq ?kr ?kd ?ku ?_); (case k1 => k_asm); (case k2 => first | k_asm | with_unfolding_all assumption); (case k3 => k_asm); (case k5 => k_asm); (case kK => first | exact rfl | assumption); (case kd => ktr_room); (case ku => ktr_units); (case k4 => first | k_asm | with_unfolding_all assumption); (case km => k_mem); (case kS => assumption); (case kP => first | assumption | exact List.Perm.refl _); (case ko => omega); (case kp => omega); (case kq => omega); (case kr => omega); intro D' c' h' tk' vs' q' eq' hE' hS' hP' F' N' l1'; (try k_lt l1'))))
    | ((with_reducible show wpAny _ _ (call (Value.ref 267) _) _ _ _); (k_dflt ((with_unfolding_all refine' pairs_go ?k1 ?k2 ?k3 ?k4 ?k5 ?kK ?km ?kS ?kP ?kd ?ku ?_); (case k1 => k_asm); (case k2 => first | k_asm | with_unfolding_all assumption); (case k3 => k_asm); (case k5 => k_asm); (case kK => first | exact rfl | assumption); (case kd => ktr_room); (case ku => ktr_units); (case k4 => first | k_asm | with_unfolding_all assumption); (case km => k_mem); (case kS => assumption); (case kP => assumption); intro t' h' tk' F' N')))
  k_with "call builtin:sorted" => k_dflt ((with_unfolding_all refine' sorted_go ?k2 ?k4 ?km ?kS ?kP ?_); (case k2 => first | k_asm | with_unfolding_all assumption); (case k4 => first | k_asm | with_unfolding_all assumption); (case km => k_mem); (case kS => assumption); (case kP => assumption); intro D' c' h' vs' hS' F' N' l1'; (try k_lt l1'))
  all_goals (try k_fold)
  w_strict k_steps)
end Mine
end

theorem PySem.Challenge.cw_xm0051_01_holds : PySem.Challenge.rw_xm0051_01.Holds := by
  exact Mine.law_holds

