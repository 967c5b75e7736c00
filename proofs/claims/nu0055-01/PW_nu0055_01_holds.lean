import PyProof.Rows.All
import Wide.All
import OpenK.AllK
import Wide.FinOn
import PySem.Challenge.RW_nu0055_01
open PySem PySem.W PyProof.Rows
set_option Elab.async false
set_option maxRecDepth 100000
set_option maxHeartbeats 8000000
set_option compiler.extract_closed false
namespace Mine
-- part Hd
section
/-- the top behind the boot, in the library's quick words -/
theorem left_boot {α : Type} {p : Program} {N : Nat} {f : Shared → α} {r : Option α} (e : opening p = plainProg p.main.scope.names) (hN : Nat.ble 600 N = true) (fm : ∀ s, fenceModules? p s = some s) (w : World)
    (h : (fun os : OsState => Option.map f ((PySem.W.Fast.tw14082659384304107361 PySem.W.Fast.tw14364793385576792824 p w (boot_heap w.params).objs.size (PySem.W.Fast.tw8920871248978507458 (boot_heap w.params) mainGlobals (Str.ofString "__annotations__")) N
        ⟨boot_heap w.params, Array.mk [], boot_drawn, boot_toks, os⟩ (topStub p)).bind fun s₁ =>
      match (boot_heap w.params).isNs mainGlobals && (staticsOk (PySem.W.Fast.tw5923862056798008813 p.main.body) (boot_heap w.params) s₁.heap && namesBound p s₁.heap && gensDone s₁ && laidKept (boot_heap w.params) s₁.heap) with
      | true => some s₁
      | false => none)) = fun _ => r) : Option.map f (openEnds treeTable p w N) = r := by
  rw [← PySem.W.Fast.te14082659384304107361, ← PySem.W.Fast.te14364793385576792824, ← PySem.W.Fast.te8920871248978507458, ← PySem.W.Fast.te5923862056798008813] at h
  obtain ⟨s, hs, hv⟩ := Option.map_eq_some_iff.mp (boot_open e hN fm w)
  obtain ⟨hp, gs, dr, tk, os⟩ := s
  obtain ⟨rfl, hv⟩ := Prod.mk.inj hv
  obtain ⟨rfl, hv⟩ := Prod.mk.inj hv
  obtain ⟨rfl, rfl⟩ := Prod.mk.inj hv
  have h := congrFun h os
  unfold openEnds topFrom
  rw [hs]
  rw [← h]
  dsimp only [Option.bind]
  cases (boot_heap w.params).isNs mainGlobals with
  | true => rfl
  | false =>
    simp only [Bool.false_and]
    cases topRun treeTable p w (boot_heap w.params).objs.size ((boot_heap w.params).nsMap mainGlobals (Str.ofString "__annotations__")) N ⟨boot_heap w.params, Array.mk [], boot_drawn, boot_toks, os⟩ (topStub p) <;> rfl
/-- the top's statements that the view keeps -/
def cells : List Stmt → List Stmt
  | [_, a1, a2, a3, a4, _, a6, a7, _, a9, a10, a11, a12, a13, a14, _, a16, a17, a18, a19, a20, _, a22, a23, a24, a25, a26, a27, a28, a29, a30] => [a1, a2, a3, a4, a6, a7, a9, a10, a11, a12, a13, a14, a16, a17, a18, a19, a20, a22, a23, a24, a25, a26, a27, a28, a29, a30]
  | _ => []
def view : Program := { PySem.Challenge.pw_nu0055_01 with main := { PySem.Challenge.pw_nu0055_01.main with body := cells PySem.Challenge.pw_nu0055_01.main.body } }
local macro_rules | `(tactic| o_head $H) => do
  let (hl, hw, hc) := (Lean.mkIdent `hl, Lean.mkIdent `hw, Lean.mkIdent `hc)
  `(tactic| (
    refine holds_open (q := view) (loose := [Str.ofString "SyntaxFault", Str.ofString "char_of"]) (Xt := fun s => xlAt view [] s && recOk (RowW.records (OpenRow.toRowW PySem.Challenge.rw_nu0055_01.row)) s) (XP := XL view []) (Yf := Hook.obs $H) (Ya := Hook.val $H) (YP := Hook.says $H) (N := 2472)
      ?$hl (Hook.of $H) (Hook.keeps $H) (fun s e => xl_of s (Bool.and_eq_true_iff.mp e).1) XL.keeps (by rfl) (by rfl) (by rfl) (fun s e => recFacts_of (Bool.and_eq_true_iff.mp e).2) (by rfl) (by assumption) (by decide +kernel) ⟨rfl, rfl, rfl, rfl, rfl, by decide +kernel⟩ ?$hw ?$hc
    case hl =>
      show LeftO PySem.Challenge.pw_nu0055_01 _ _ _ _ _ _
      intro w
      refine left_boot (by kernel_rfl) (by kernel_rfl) (fun s => by kernel_rfl) w ?_
      rw [PySem.W.Fast.te4187177175401517315]
      kernel_rfl))
open_top hd for PySem.Challenge.rw_nu0055_01
end
-- part Ct
section
noncomputable abbrev P0 : Program := view
noncomputable abbrev Lo : List Str := looseW view [Str.ofString "SyntaxFault", Str.ofString "char_of"]
noncomputable abbrev Pr : Program := PySem.Challenge.rw_nu0055_01.row.toRowW.prog
/-- what a call of a def of the text gives back, whatever stands around it -/
def Tell (prog : Program) (w : World) (K : Frag) (mean : ExcName → Option Value) (mg mb : Str → Option Value) (f : Addr) (d : Nat) (vs : List Value) (Res : Value → Prop) : Prop :=
  ∀ (dp un : Nat) (gd : Option (List Code)) (cn : Str) (cs : Scope) (a : Addr) (ccd : Value) (cl : List (Str × Addr)) (outer : List Env) (A₀ : Around) (base h₀ : Heap) (L : Addr) (m : Str → Option Value) (news : List (Addr × Obj)) (s : Shared)
    (Q E : Value → Shared → Prop),
    Below A₀ base outer h₀ → Fr h₀ L s.heap m → K.In h₀ → News h₀ L s.heap news → Top P0 Lo mean mg mb h₀ → cs.kind = .function → dp + d < recursionLimit → un + 20 * d < cLine →
    (∀ r h' tk', Res r → Fr h₀ L h' m → News h₀ L h' news → Q r { s with heap := h', toks := tk' }) →
    wpAny (model prog w) (ktrTop dp un gd cn cs L a ccd cl outer) (call (.ref f) vs) Q E s
/-- the end of a def's body: the frame stands, the ledger stands, the value is as told -/
def Done (g : Heap) (L : Addr) (news : List (Addr × Obj)) (Res : Value → Prop) (s : Shared) (fl : Flow) (s' : Shared) : Prop :=
  ∃ h' tk' m', s' = { s with heap := h', toks := tk' } ∧ Fr g L h' m' ∧ News g L h' news ∧ Res (match fl with | .ret v => v | _ => .none)
section
variable {prog : Program} {w : World} {K : Frag} {mean : ExcName → Option Value} {mg mb : Str → Option Value} {f : Addr} {d : Nat} {vs : List Value} {Res : Value → Prop}
theorem tell_use {dp un : Nat} {gd : Option (List Code)} {cn : Str} {cs : Scope} {a : Addr} {ccd : Value} {cl : List (Str × Addr)} {outer : List Env} {A₀ : Around} {base h₀ : Heap} {L : Addr} {m : Str → Option Value} {news : List (Addr × Obj)} {s : Shared}
    {Q E : Value → Shared → Prop} (C : Tell prog w K mean mg mb f d vs Res) (B : Below A₀ base outer h₀) (F : Fr h₀ L s.heap m) (X : K.In h₀) (N : News h₀ L s.heap news) (T : Top P0 Lo mean mg mb h₀) (hk : cs.kind = .function)
    (hd : dp + d < recursionLimit) (hu : un + 20 * d < cLine)
    (ret : ∀ r h' tk', Res r → Fr h₀ L h' m → News h₀ L h' news → Q r { s with heap := h', toks := tk' }) :
    wpAny (model prog w) (ktrTop dp un gd cn cs L a ccd cl outer) (call (.ref f) vs) Q E s := C _ _ _ _ _ _ _ _ _ _ _ _ _ _ _ _ _ _ B F X N T hk hd hu ret
theorem tup_in {h₀ : Heap} {a : Addr} {xs : Array Value} {n : Nat} (X : K.In h₀) (e : K.lookup a = some { cls := .type "tuple", data := .seq xs n }) : IsTup h₀ a xs := ⟨_, X _ _ e, rfl, n, rfl⟩
theorem done_of {g : Heap} {L : Addr} {news news' : List (Addr × Obj)} {s : Shared} {h' : Heap} {tk' : Nat} {m' : Str → Option Value} {fl : Flow} (F : Fr g L h' m') (N : News g L h' news') (hs : ∀ p ∈ news, p ∈ news') (hr : Res (match fl with | .ret v => v | _ => .none)) :
    Done g L news Res s fl { s with heap := h', toks := tk' } := ⟨h', tk', m', rfl, F, fun p hp => N p (hs p hp), hr⟩
theorem tell_of_body {name qual : Str} {params : Arguments} {body : List Stmt} {scope : Scope} {dV kV doc pm cdv ct oc : Value} {an od : Option Addr} {osl : Array (Option Value)} (binds : List (Str × Value))
    (ho : K.lookup f = some ⟨oc, od, .func (fnOf name qual params body scope dV kV doc pm an cdv ct), osl⟩) (hcd : codeIn K cdv qual = true)
    (hbind : ∀ s : Shared, K.In s.heap → BindsTo s (fnOf name qual params body scope dV kV doc pm an cdv ct) ⟨vs, []⟩ binds) (hloc : ∀ y ∈ binds, scope.names.lookup y.1 = some .local)
    (hco : scope.isCoroutine = false) (hgen : scope.isGenerator = false) (hk : scope.kind = .function) (hcell : ∀ x ∈ scope.names, x.2 ≠ .cell)
    (h : ∀ (dp un : Nat) (gd : Option (List Code)) (outer : List Env) (A₀ : Around) (base g : Heap) (L : Addr) (news : List (Addr × Obj)) (s : Shared), Below A₀ base outer g → K.In g → Top P0 Lo mean mg mb g → Fr g L s.heap (fun y => binds.reverse.lookup y) → News g L s.heap news →
      dp + d < recursionLimit → un + 20 * d + 10 < cLine →
      wpAny (model prog w) (ktrTop dp un gd qual scope L f cdv [] outer) (execs body (envX qual scope L f cdv [])) (Done g L news Res s) (fun _ _ => False) s) :
    Tell prog w K mean mg mb f (d + 1) vs Res := by
  intro dp un gd cn cs a ccd cl outer A₀ base h₀ L m news s Q E B F X N T hck hd hu hret
  refine wpAny_call ?_
  refine code_def (K := K) (env := envX cn cs L a ccd cl) (outer := outer) B F X N T rfl rfl hck ho hcd (by show dp < recursionLimit; omega) (hbind s (X.keeps F.keep)) hloc ?_ hco hgen hk hcell
  intro g L' h₁ FG F' N' B' X' T'
  have z := h (dp + 1) (un + 3) gd (envX cn cs L a ccd cl :: outer) _ base g L' news { s with heap := h₁, toks := s.toks + binds.length } B' X' T' F' N' (by omega) (by omega)
  refine wpAny_mono z (fun fl s' hl => ?_) fun _ _ y => y.elim
  obtain ⟨h', tk', m', rfl, F₂, N₂, hr⟩ := hl
  exact ⟨L', m', news, F₂, N₂, fun F₃ N₃ => hret _ h' tk' hr F₃ N₃⟩
end
end
-- part T2
local macro_rules | `(tactic| walk_at "mine enter") => `(tactic| (
  (case ho => k_is)
  (case hcd => k_is)
  (case hb => first | exact fun s X => BindsTo.of_eq rfl | exact fun s X => binds_K X rfl (by k_is) rfl rfl rfl)
  (case hl => exact locs rfl)
  (case hco => rfl)
  (case hg => rfl)
  (case hk => rfl)
  (case hc => decide)))
local macro_rules | `(tactic| walk_at "mine done") => `(tactic| ((try dsimp only); (try k_unfold); (try dsimp only); refine' done_of ?hF ?hN ?hs ?_; (case hF => k_asm); (case hN => k_asm); (case hs => kcj_all); (try dsimp only)))
local macro_rules | `(tactic| walk_at "mine bool") => `(tactic| first | exact congrArg Value.bool (decide_eq_true (by omega)).symm | exact congrArg Value.bool (decide_eq_false (by omega)).symm)
section
theorem top_off_T2 : True := by
  w_top off
  exact True.intro
theorem t_ranges (w : World) (mean : ExcName → Option Value) (mg mb : Str → Option Value) (code : Int) (t : Tok) :
    Tell PySem.Challenge.rw_nu0055_01.row.toRowW.prog w (hd.heap_39 w.params) mean mg mb 25 1 [.int code t, .ref 18] (fun r => r = .bool (decide (32 ≤ code ∧ code ≤ 55295 ∨ 57344 ≤ code ∧ code ≤ 65533 ∨ 65536 ≤ code ∧ code ≤ 1114111))) := by
  k_fill
  refine' tell_of_body [(Str.ofString "code", .int code t), (Str.ofString "ranges", .ref 18)] ?ho ?hcd ?hb ?hl ?hco ?hg ?hk ?hc ?_
  walk_at "mine enter"
  intro dp un gd outer A₀ base g L news s B X T F N hd hu
  have t18 := tup_in X (a := 18) (by k_is)
  have t15 := tup_in X (a := 15) (by k_is)
  have t16 := tup_in X (a := 16) (by k_is)
  have t17 := tup_in X (a := 17) (by k_is)
  show wpAny _ _ _ _ _ _
  k_fold
  k_steps
  refine For_unr g ?_ ?_ PassesOwn.never
  · k_steps
    all_goals walk_at "mine done"
    all_goals walk_at "mine bool"
  · exact fun _ => rfl
end
-- part T3
local macro_rules | `(tactic| walk_at "mine called") => `(tactic| (
  (case k1 => k_asm); (case k2 => k_asm); (case k3 => k_asm); (case k4 => k_asm); (case k5 => k_asm); (case k6 => exact rfl); (case k7 => omega); (case k8 => omega);
  intro r9 h9 tk9 R9 F9 N9; (first | subst R9 | (obtain ⟨t9, e9⟩ := R9; subst e9) | skip); (try dsimp only); (try k_sweep); (try k_fold)))
section
theorem top_off_T3 : True := by
  w_top off
  exact True.intro
def isChar (c : Nat) : Bool := decide (c = 9 ∨ c = 10 ∨ c = 13 ∨ 32 ≤ c ∧ c ≤ 55295 ∨ 57344 ≤ c ∧ c ≤ 65533 ∨ 65536 ≤ c ∧ c ≤ 1114111)
local macro_rules | `(tactic| walk_at "call ref") => `(tactic| (k_here; k_dflt (refine' tell_use (t_ranges _ _ _ _ _ _) ?k1 ?k2 ?k3 ?k4 ?k5 ?k6 ?k7 ?k8 ?_); walk_at "mine called"))
theorem t_is_char (w : World) (mean : ExcName → Option Value) (mg mb : Str → Option Value) (c : Nat) (t : Tok) :
    Tell PySem.Challenge.rw_nu0055_01.row.toRowW.prog w (hd.heap_39 w.params) mean mg mb 32 2 [.str ⟨#[c]⟩ t] (fun r => r = .bool (isChar c)) := by
  k_fill
  refine' tell_of_body [(Str.ofString "sign", .str ⟨#[c]⟩ t)] ?ho ?hcd ?hb ?hl ?hco ?hg ?hk ?hc ?_
  walk_at "mine enter"
  intro dp un gd outer A₀ base g L news s B X T F N hd hu
  show wpAny _ _ _ _ _ _
  k_fold
  k_steps
  all_goals walk_at "mine done"
  · rename_i h
    rw [PySem.StrLaws.found_one, show (PySem.Str.ofString " \t\n\x0d").cps.toList = [32, 9, 10, 13] from by decide +kernel]
    refine congrArg Value.bool ?_
    unfold isChar
    simp only [decide_eq_decide, List.mem_cons, List.not_mem_nil, or_false]
    omega
  · refine congrArg Value.bool ?_
    unfold isChar
    rw [decide_eq_decide]
    omega
end
-- part T4
section
theorem top_off_T4 : True := by
  w_top off
  exact True.intro
def T (l : List Nat) : PySem.Str := ⟨l.toArray⟩
def tesc (c : Nat) : List Nat := if c = 38 then [38,97,109,112,59] else if c = 60 then [38,108,116,59] else if c = 62 then [38,103,116,59] else if c = 13 then [38,35,49,51,59] else [c]
def vesc (c : Nat) : List Nat := if c = 38 then [38,97,109,112,59] else if c = 60 then [38,108,116,59] else if c = 34 then [38,113,117,111,116,59] else if c = 9 then [38,35,57,59] else if c = 10 then [38,35,49,48,59] else if c = 13 then [38,35,49,51,59] else [c]
theorem one_beq (c k : Nat) (x : PySem.Str) (h : x = ⟨#[k]⟩) : ((⟨#[c]⟩ : PySem.Str) == x) = decide (c = k) := by
  subst h
  by_cases q : c = k
  · subst q; simp
  · have : ((⟨#[c]⟩ : PySem.Str) == ⟨#[k]⟩) = false := by
      rw [beq_eq_false_iff_ne]
      intro h
      cases h
      exact q rfl
    rw [this]; simp [q]
theorem one_in (c : Nat) (x : PySem.Str) (l : List Nat) (h : x.cps.toList = l) : (PySem.Builtin.Str.occurrences x ⟨#[c]⟩ 0 x.length 1).isEmpty = !decide (c ∈ l) := by
  rw [← h, ← PySem.StrLaws.found_one, Bool.not_not]
theorem is_amp (c : Nat) : ((⟨#[c]⟩ : PySem.Str) == PySem.Str.ofString "&") = decide (c = 38) := one_beq _ _ _ (by decide +kernel)
theorem is_lt (c : Nat) : ((⟨#[c]⟩ : PySem.Str) == PySem.Str.ofString "<") = decide (c = 60) := one_beq _ _ _ (by decide +kernel)
theorem is_gt (c : Nat) : ((⟨#[c]⟩ : PySem.Str) == PySem.Str.ofString ">") = decide (c = 62) := one_beq _ _ _ (by decide +kernel)
theorem is_quot (c : Nat) : ((⟨#[c]⟩ : PySem.Str) == PySem.Str.ofString "\"") = decide (c = 34) := one_beq _ _ _ (by decide +kernel)
theorem is_cr (c : Nat) : ((⟨#[c]⟩ : PySem.Str) == PySem.Str.ofString "\r") = decide (c = 13) := one_beq _ _ _ (by decide +kernel)
theorem in_tnr (c : Nat) : (PySem.Builtin.Str.occurrences (PySem.Str.ofString "\t\n\r") ⟨#[c]⟩ 0 (PySem.Str.ofString "\t\n\r").length 1).isEmpty = !decide (c = 9 ∨ c = 10 ∨ c = 13) := by
  rw [one_in c _ [9, 10, 13] (by decide +kernel)]
  simp
theorem t_text_escape (w : World) (mean : ExcName → Option Value) (mg mb : Str → Option Value) (c : Nat) (t : Tok) :
    Tell PySem.Challenge.rw_nu0055_01.row.toRowW.prog w (hd.heap_39 w.params) mean mg mb 113 1 [.str ⟨#[c]⟩ t] (fun r => ∃ t', r = .str (T (tesc c)) t') := by
  k_fill
  refine' tell_of_body [(Str.ofString "sign", .str ⟨#[c]⟩ t)] ?ho ?hcd ?hb ?hl ?hco ?hg ?hk ?hc ?_
  walk_at "mine enter"
  intro dp un gd outer A₀ base g L news s B X T F N hd hu
  show wpAny _ _ _ _ _ _
  k_fold
  k_steps
  all_goals walk_at "mine done"
  all_goals simp only [is_amp, is_lt, is_gt, is_cr, decide_eq_true_eq, decide_eq_false_iff_not] at *
  all_goals refine ⟨_, congrArg (Value.str · _) ?_⟩
  all_goals simp only [tesc, *, if_true, if_false]
  all_goals first | rfl | decide +kernel
theorem t_value_escape (w : World) (mean : ExcName → Option Value) (mg mb : Str → Option Value) (c : Nat) (t : Tok) :
    Tell PySem.Challenge.rw_nu0055_01.row.toRowW.prog w (hd.heap_39 w.params) mean mg mb 120 1 [.str ⟨#[c]⟩ t] (fun r => ∃ t', r = .str (T (vesc c)) t') := by
  k_fill
  refine' tell_of_body [(Str.ofString "sign", .str ⟨#[c]⟩ t)] ?ho ?hcd ?hb ?hl ?hco ?hg ?hk ?hc ?_
  walk_at "mine enter"
  intro dp un gd outer A₀ base g L news s B X T F N hd hu
  show wpAny _ _ _ _ _ _
  k_fold
  k_steps
  all_goals try walk_at "mine done"
  all_goals simp only [is_amp, is_lt, is_gt, is_cr, is_quot, in_tnr, Bool.not_eq_true', Bool.not_eq_false', decide_eq_true_eq, decide_eq_false_iff_not] at *
  rotate_right
  · rename_i h
    rcases h with rfl | rfl | rfl
    all_goals k_steps
    all_goals walk_at "mine done"
    all_goals exact ⟨_, congrArg (Value.str · _) (by decide +kernel)⟩
  all_goals refine ⟨_, congrArg (Value.str · _) ?_⟩
  all_goals (try simp only [not_or] at *)
  all_goals simp only [vesc, *, if_true, if_false]
  all_goals first | rfl | decide +kernel
end
-- part T5
section
theorem top_off_T5 : True := by
  w_top off
  exact True.intro
/-- what `predefined` gives back: its sign, if the name is one of the five -/
def predef (l : List Nat) : Option (List Nat) := if l = [108,116] then some [60] else if l = [103,116] then some [62] else if l = [97,109,112] then some [38] else if l = [97,112,111,115] then some [39] else if l = [113,117,111,116] then some [34] else none
def OptStr (o : Option (List Nat)) (r : Value) : Prop := match o with
  | some l => ∃ t, r = .str (T l) t
  | none => r = .none
theorem T_beq (l k : List Nat) (x : PySem.Str) (h : x = T k) : (T l == x) = decide (l = k) := by
  subst h
  by_cases q : l = k
  · subst q; simp
  · have : (T l == T k) = false := by
      rw [beq_eq_false_iff_ne]
      intro h
      unfold T at h
      simp only [PySem.Str.mk.injEq] at h
      exact q (List.toArray_inj h)
    rw [this]; simp [q]
theorem e_lt (l : List Nat) : (T l == PySem.Str.ofString "lt") = decide (l = [108,116]) := T_beq _ _ _ (by decide +kernel)
theorem e_gt (l : List Nat) : (T l == PySem.Str.ofString "gt") = decide (l = [103,116]) := T_beq _ _ _ (by decide +kernel)
theorem e_amp (l : List Nat) : (T l == PySem.Str.ofString "amp") = decide (l = [97,109,112]) := T_beq _ _ _ (by decide +kernel)
theorem e_apos (l : List Nat) : (T l == PySem.Str.ofString "apos") = decide (l = [97,112,111,115]) := T_beq _ _ _ (by decide +kernel)
theorem e_quot (l : List Nat) : (T l == PySem.Str.ofString "quot") = decide (l = [113,117,111,116]) := T_beq _ _ _ (by decide +kernel)
theorem t_predefined (w : World) (mean : ExcName → Option Value) (mg mb : Str → Option Value) (l : List Nat) (t : Tok) :
    Tell PySem.Challenge.rw_nu0055_01.row.toRowW.prog w (hd.heap_39 w.params) mean mg mb 106 1 [.str (T l) t] (OptStr (predef l)) := by
  k_fill
  refine' tell_of_body [(Str.ofString "name", .str (T l) t)] ?ho ?hcd ?hb ?hl ?hco ?hg ?hk ?hc ?_
  walk_at "mine enter"
  intro dp un gd outer A₀ base g L news s B X T F N hd hu
  show wpAny _ _ _ _ _ _
  k_fold
  k_steps
  all_goals walk_at "mine done"
  all_goals simp only [e_lt, e_gt, e_amp, e_apos, e_quot, decide_eq_true_eq, decide_eq_false_iff_not] at *
  all_goals simp only [OptStr, predef, *, if_true, if_false]
  all_goals first | exact ⟨_, congrArg (Value.str · _) (by decide +kernel)⟩ | trace_state
end
-- part L1
section
section
variable {prog : Program} {w : World} {A : Around} {E : Value → Shared → Prop} {s : Shared} {env : Env} {g : Heap} {L : Addr} {body : List Stmt} {Q : Flow → Shared → Prop} {news : List (Addr × Obj)} {m₀ : Str → Option Value}
/-- the end of a loop's turn that goes on: the named state is c', all else of the frame but the stored names is as at the start -/
def TurnEnd {σ : Type} (g : Heap) (L : Addr) (news : List (Addr × Obj)) (ps : σ → List (Str × Value)) (stored : List Str) (m₀ : Str → Option Value) (s : Shared) (P : σ → Prop) (s₂ : Shared) : Prop :=
  ∃ (c : σ) (h' : Heap) (tk : Nat) (m' : Str → Option Value), s₂ = { s with heap := h', toks := tk } ∧ Fr g L h' m' ∧ News g L h' news ∧ (∀ p ∈ ps c, m' p.1 = some p.2) ∧ (∀ z, (∀ p ∈ ps c, z ≠ p.1) → stored.contains z = false → m' z = m₀ z) ∧ P c
def Turn {σ : Type} (g : Heap) (L : Addr) (news : List (Addr × Obj)) (ps : σ → List (Str × Value)) (stored : List Str) (m₀ : Str → Option Value) (s : Shared) (P : σ → Prop) (Q : Flow → Shared → Prop) (fl : Flow) (s₂ : Shared) : Prop :=
  match fl with
  | .ret v => Q (.ret v) s₂
  | .brk => Q .next s₂
  | _ => TurnEnd g L news ps stored m₀ s P s₂
theorem turn_end {σ : Type} {ps : σ → List (Str × Value)} {stored : List Str} {P : σ → Prop} {h' : Heap} {tk : Nat} {m' : Str → Option Value} {news' : List (Addr × Obj)} (c : σ)
    (F : Fr g L h' m') (N : News g L h' news') (hs : ∀ p ∈ news, p ∈ news') (hk : ∀ p ∈ ps c, m' p.1 = some p.2) (hr : ∀ z, (∀ p ∈ ps c, z ≠ p.1) → stored.contains z = false → m' z = m₀ z) (hp : P c) :
    TurnEnd g L news ps stored m₀ s P { s with heap := h', toks := tk } := ⟨c, h', tk, m', rfl, F, fun p hp => N p (hs p hp), hk, hr, hp⟩
theorem while_loop {σ : Type} {test : Expr} {pos : Pos} (ps : σ → List (Str × Value)) (stored : List Str) (P : σ → Prop) (μ : σ → Nat) (c₀ : σ)
    (F : Fr g L s.heap m₀) (N : News g L s.heap news) (hk : ∀ p ∈ ps c₀, m₀ p.1 = some p.2) (hp : P c₀)
    (turn : ∀ (c : σ) (u : Str → Option Value) h tk, P c → Fr g L h (kstB (fun z => if stored.contains z then u z else m₀ z) (ps c)) → News g L h news →
      wpAny (model prog w) A (isTrue test env (eval test env)) (fun b s₂ =>
        if b = true then wpAny (model prog w) A (execs body env) (Turn g L news ps stored m₀ s (fun c' => P c' ∧ μ c' < μ c) Q) E s₂ else Q .next s₂) E { s with heap := h, toks := tk })
    (hE : PassesOwn (model prog w) A env E) :
    wpAny (model prog w) A (exec (.While test body [] pos) env) Q E s := by
  refine ksw_while (fun _ => news) ps (fun _ => True) stored P μ c₀ F N trivial hk hp ?_ hE
  intro c u h tk _ hp' F' N'
  refine wpAny_mono (turn c u h tk hp' F' N') (fun b s₂ q => ?_) fun _ _ x => x
  cases b with
  | false => simpa using q
  | true =>
    simp only [if_true] at q ⊢
    refine wpAny_mono q (fun f s₃ r => ?_) fun _ _ x => x
    cases f with
    | ret v => exact r
    | brk => exact r
    | next =>
      obtain ⟨c', h', tk', m', rfl, F₂, N₂, hk₂, hr₂, hp₂, hm₂⟩ := r
      exact ⟨c', h', tk', m', news, rfl, F₂, N₂, fun _ q => q, trivial, hk₂, hr₂, hp₂, hm₂⟩
    | cont =>
      obtain ⟨c', h', tk', m', rfl, F₂, N₂, hk₂, hr₂, hp₂, hm₂⟩ := r
      exact ⟨c', h', tk', m', news, rfl, F₂, N₂, fun _ q => q, trivial, hk₂, hr₂, hp₂, hm₂⟩
theorem codes_T (l : List Nat) : KStt.codes (T l) = l.map fun (c : Nat) => (c : Int) := rfl
theorem for_text {σ : Type} {x : Str} {l : List Nat} {tx : Tok} (ps : σ → List (Str × Value)) (stored : List Str) (P : List Nat → List Nat → σ → Prop) (c₀ : σ)
    (hh : A.handled = none) (F : Fr g env.locals s.heap m₀) (N : News g env.locals s.heap news) (hk : ∀ p ∈ ps c₀, m₀ p.1 = some p.2) (hp : P [] l c₀) (hx : stored.contains x = true)
    (turn : ∀ (c : σ) (pre : List Nat) (n : Nat) (post : List Nat) t (u : Str → Option Value) h tk nn, (∀ p ∈ news, p ∈ nn) → l = pre ++ n :: post → P pre (n :: post) c →
      Fr g env.locals h (kstB (fun z => if stored.contains z then u z else m₀ z) ((x, .str ⟨#[n]⟩ t) :: ps c)) → News g env.locals h nn →
      wpAny (model prog w) A (execs body env) (Turn g env.locals nn ps stored m₀ s (fun c' => P (pre ++ [n]) post c') Q) E { s with heap := h, toks := tk })
    (done : ∀ (c : σ) (u : Str → Option Value) h tk, P l [] c → Fr g env.locals h (fun y => if y = x then u y else kstB (fun z => if stored.contains z then u z else m₀ z) (ps c) y) → News g env.locals h news → Q .next { s with heap := h, toks := tk }) :
    wpAny (model prog w) A (pyIter (.str (T l) tx)) (fun it s₂ => LoopAtV prog w A g env x body Q E it s₂) E s := by
  refine KStt.kst_text (fun _ => news) ps (fun _ => True) stored (fun pre c => ∃ post, l = pre.map Int.toNat ++ post ∧ P (pre.map Int.toNat) post c) c₀ hh F N trivial hk ⟨l, rfl, hp⟩ ?_ ?_
  · rintro c pre post n t u h tk own e _ _ ⟨post', e', hp'⟩ F' N'
    have hl : l = (l.map fun (c : Nat) => (c : Int)).map Int.toNat := by
      rw [List.map_map]
      exact ((List.map_congr_left (g := _root_.id) fun c _ => Int.toNat_natCast c).trans (List.map_id _)).symm
    rw [codes_T] at e
    have e2 : l = pre.map Int.toNat ++ n :: post.map Int.toNat := by
      rw [e, List.map_append, List.map_cons, Int.toNat_natCast] at hl
      exact hl
    have e3 : post' = n :: post.map Int.toNat := List.append_cancel_left (e'.symm.trans e2)
    subst e3
    refine wpAny_mono (turn c (pre.map Int.toNat) n (post.map Int.toNat) t u h tk (news ++ own) (fun p hp => List.mem_append_left _ hp) e2 hp' F' N') (fun f s₂ q => ?_) fun _ _ x => x
    have fin : TurnEnd g env.locals (news ++ own) ps stored m₀ s (fun c' => P (pre.map Int.toNat ++ [n]) (post.map Int.toNat) c') s₂ → InvEndN g env.locals (KstS (fun _ => news) ps (fun _ => True) x stored m₀ (fun pre c => ∃ post, l = pre.map Int.toNat ++ post ∧ P (pre.map Int.toNat) post c) (pre ++ [(n : Int)])) own (news.map (·.1)) { s with heap := h, toks := tk } s₂ := by
      rintro ⟨c', h', tk', m', rfl, F₂, N₂, hk₂, hr₂, hp₂⟩
      refine ⟨h', tk', m', news ++ own, news, rfl, F₂, N₂, fun p hp => List.mem_append_left _ hp, fun p hp => List.mem_append_right _ hp, rfl, c', rfl, trivial, hk₂, fun z _ h2 h3 => hr₂ z h2 h3, post.map Int.toNat, ?_, ?_⟩
      · rw [List.map_append, List.map_cons, List.map_nil, Int.toNat_natCast, List.append_assoc]
        exact e2
      · rw [List.map_append, List.map_cons, List.map_nil, Int.toNat_natCast]
        exact hp₂
    cases f with
    | ret v => exact q
    | brk => exact q
    | next => exact fin q
    | cont => exact fin q
  · rintro c u h tk _ ⟨post, e, hp'⟩ F' N'
    have hl : (l.map fun (c : Nat) => (c : Int)).map Int.toNat = l := by
      rw [List.map_map]
      exact (List.map_congr_left (g := _root_.id) fun c _ => Int.toNat_natCast c).trans (List.map_id _)
    rw [codes_T, hl] at e hp'
    have : post = [] := by
      have := congrArg List.length e
      simp at this
      exact this
    subst this
    refine done c u h tk hp' ?_ N'
    refine F'
end
/-- a place where the walk is to stand still -/
def Halt (P : Prop) : Prop := P
theorem halt {P : Prop} (h : Halt P) : P := h
theorem unhalt {P : Prop} (h : P) : Halt P := h
theorem T_len (l : List Nat) : (T l).length = l.length := by simp [T, PySem.Str.length]
end
-- part L2
section
/-- the place of a sign in a text of signs -/
def posOf (d : Nat) : List Nat → Nat → Option Nat
  | [], _ => none
  | x :: r, i => if x = d then some i else posOf d r (i + 1)
theorem posOf_none {d : Nat} : ∀ {l : List Nat} {i : Nat}, posOf d l i = none → ∀ j : Nat, l[j]? ≠ some d
  | [], _, _, j => by simp
  | x :: r, i, h, j => by
    unfold posOf at h
    by_cases q : x = d
    · rw [if_pos q] at h; cases h
    · rw [if_neg q] at h
      cases j with
      | zero => simpa using q
      | succ j => simpa using posOf_none h j
theorem posOf_some {d : Nat} : ∀ {l : List Nat} {i v : Nat}, posOf d l i = some v → i ≤ v ∧ l[v - i]? = some d ∧ ∀ j : Nat, j < v - i → l[j]? ≠ some d
  | [], _, _, h => by cases h
  | x :: r, i, v, h => by
    unfold posOf at h
    by_cases q : x = d
    · rw [if_pos q] at h
      cases h
      refine ⟨Nat.le_refl _, by simp [q], fun j hj => by omega⟩
    · rw [if_neg q] at h
      obtain ⟨h1, h2, h3⟩ := posOf_some h
      have e : v - i = (v - (i + 1)) + 1 := by omega
      refine ⟨by omega, by rw [e]; simpa using h2, fun j hj => ?_⟩
      cases j with
      | zero => simpa using q
      | succ j => simpa using h3 j (by omega)
theorem posOf_lt {d : Nat} {l : List Nat} {v : Nat} (h : posOf d l 0 = some v) : v < l.length := by
  obtain ⟨_, h2, _⟩ := posOf_some h
  exact (List.getElem?_eq_some_iff.mp h2).1
theorem find_T (l : List Nat) (d : Nat) : Txt.find (T l) ⟨#[d]⟩ = match posOf d l 0 with | some v => (v : Int) | none => -1 := by
  unfold Txt.find
  have at_iff : ∀ i, PySem.StrLaws.At (T l) ⟨#[d]⟩ (T l).length i ↔ l[i]? = some d := fun i => by
    refine (PySem.StrLaws.subAt_one _ _ _).trans ?_
    simp [T]
  rcases PySem.StrLaws.occ_head_from (T l) ⟨#[d]⟩ 0 1 (Nat.le_refl 1) with ⟨e, hn⟩ | ⟨i, r, e, _, ha, hm⟩
  · rw [e]
    cases q : posOf d l 0 with
    | none => rfl
    | some v =>
      have := (posOf_some q).2.1
      exact absurd ((at_iff v).mpr (by simpa using this)) (hn v (Nat.zero_le _))
  · rw [e]
    cases q : posOf d l 0 with
    | none => exact absurd ((at_iff i).mp ha) (posOf_none q i)
    | some v =>
      obtain ⟨_, h2, h3⟩ := posOf_some q
      have a1 := (at_iff i).mp ha
      have : ¬ v < i := fun hlt => hm v (Nat.zero_le _) hlt ((at_iff v).mpr (by simpa using h2))
      have : ¬ i < v := fun hlt => h3 i (by omega) a1
      show (i : Int) = (v : Int)
      omega
section
variable {prog : Program} {w : World} {A : Around} {E : Value → Shared → Prop} {s : Shared} {t u : Tok}
theorem len_T {l : List Nat} {Q : Value → Shared → Prop} (hfit : l.length < 2 ^ 24) (h : ∀ tk tk', Q (.int (l.length : Int) tk) { s with toks := tk' }) : wpAny (model prog w) A (call (.builtin "len") [.str (T l) t]) Q E s := by
  refine PySem.P.len_str ?_ ?_
  · rw [T_len]; omega
  · rw [T_len]; exact h _ _
theorem mul_sm {a b : Int} {Q : Value → Shared → Prop} (h1 : -(2 ^ 64) < a) (h2 : a < 2 ^ 64) (h : ∀ tk tk', Q (.int (a * b) tk) { s with toks := tk' }) : wpAny (model prog w) A (binaryOp .Mult (.int a t) (.int b u)) Q E s :=
  PySem.P.mul_int (h _ _) (PySem.IntMulOk.of_left (PySem.intBits_le_64 h1 h2))
end
section
variable {prog : Program} {w : World} {A : Around} {E : Value → Shared → Prop} {s : Shared} {t u : Tok}
theorem item_is {l : List Nat} {b c : Nat} (hb : l[b]? = some c) : Txt.item (T l) (b : Int) = ⟨#[c]⟩ := by
  have hlt : b < l.length := (List.getElem?_eq_some_iff.mp hb).1
  have e : PySem.seqIndex? (b : Int) (T l).length = some b := by
    rw [T_len]
    unfold PySem.seqIndex?
    have h1 : ¬ (b : Int) < 0 := by omega
    simp [h1]
    omega
  unfold Txt.item Txt.charAt
  rw [e]
  simp [T, hb]
theorem item_T {value slice : PySem.Expr} {l : List Nat} {b c : Nat} {Q : Value → Shared → Prop} (hb : l[b]? = some c) (hl : l.length < 2 ^ 24) (h : ∀ tk tk', Q (.str ⟨#[c]⟩ tk) { s with toks := tk' })
    (hs : subscripted slice false (.str (T l) t) (.int (b : Int) u) = operate [.str (T l) t, .int (b : Int) u] (getItem (.str (T l) t) (.int (b : Int) u)) := by with_unfolding_all rfl)
    (ht : ∀ r, letTemporaryGo value (.str (T l) t) r = pure () := by intro _; with_unfolding_all rfl) :
    wpAny (model prog w) A (subscriptTail value slice (.str (T l) t) (.int (b : Int) u)) Q E s := by
  have hlt : b < l.length := (List.getElem?_eq_some_iff.mp hb).1
  refine item_str (fitsSsize_of (N := 9223372036854775808) (by omega) (by omega) (Int.le_refl _)) (by rw [T_len]; omega) (by rw [T_len]; omega) (fun _ => ?_) hs ht
  rw [item_is hb]
  exact h _ _
end
section
open PySem.Builtin.Str
theorem ssi_none_hi (a : Option Int) (len : Nat) : strSliceIndices a none 1 len = strSliceIndices a (some (len : Int)) 1 len := by
  unfold strSliceIndices
  have h : ¬ ((len : Int) < 0) := by omega
  have e : max (0 : Int) (min (len : Int) (len : Int)) = len := by omega
  simp only [h, if_false, e, show ((1 : Int) > 0) = True from by simp, if_true]
theorem ssi_none_lo (b : Nat) (len : Nat) : strSliceIndices none (some (b : Int)) 1 len = strSliceIndices (some ((0 : Nat) : Int)) (some ((min b len : Nat) : Int)) 1 len := by
  unfold strSliceIndices
  have h : ¬ ((b : Int) < 0) := by omega
  have h0 : ¬ (((0 : Nat) : Int) < 0) := by omega
  have h' : ¬ (((min b len : Nat) : Int) < 0) := by omega
  have e : max (0 : Int) (min (b : Int) (len : Int)) = ((min b len : Nat) : Int) := by omega
  have e2 : max (0 : Int) (min ((min b len : Nat) : Int) (len : Int)) = ((min b len : Nat) : Int) := by omega
  have e3 : max (0 : Int) (min ((0 : Nat) : Int) (len : Int)) = 0 := by omega
  simp only [h, h0, h', if_false, e, e2, e3, show ((1 : Int) > 0) = True from by simp, if_true]
theorem slice_ab {l : List Nat} {a b : Nat} (hab : a ≤ b) (hb : b ≤ l.length) : Txt.slice (T l) (some (a : Int)) (some (b : Int)) = T ((l.drop a).take (b - a)) := by
  unfold Txt.slice
  have hp := PySem.StrLaws.sliced_plain (T l) hab (by rw [T_len]; exact hb)
  have e : (T l).cps.toList = l := rfl
  split
  · rename_i h
    have hl : (strSliceIndices (some (a : Int)) (some (b : Int)) 1 (T l).length).length = (T l).length := by simpa using h
    rw [PySem.StrLaws.strSliceIndices_plain hab (by rw [T_len]; exact hb), List.length_map, List.length_range, T_len] at hl
    have h1 : a = 0 := by omega
    have h2 : b = l.length := by omega
    subst h1 h2
    simp
  · rw [hp, e]
    rfl
theorem slice_from {l : List Nat} {a : Nat} (ha : a ≤ l.length) : Txt.slice (T l) (some (a : Int)) none = T (l.drop a) := by
  have h := slice_ab ha (Nat.le_refl l.length)
  have e : Txt.slice (T l) (some (a : Int)) none = Txt.slice (T l) (some (a : Int)) (some (l.length : Int)) := by
    unfold Txt.slice
    rw [ssi_none_hi, T_len]
  rw [e, h, List.take_of_length_le (by simp)]
theorem slice_to {l : List Nat} {b : Nat} : Txt.slice (T l) none (some (b : Int)) = T (l.take b) := by
  have h := slice_ab (l := l) (Nat.zero_le (min b l.length)) (Nat.min_le_right b l.length)
  have e : Txt.slice (T l) none (some (b : Int)) = Txt.slice (T l) (some ((0 : Nat) : Int)) (some ((min b l.length : Nat) : Int)) := by
    unfold Txt.slice
    rw [ssi_none_lo, T_len]
  rw [e, h, List.drop_zero, Nat.sub_zero]
  congr 1
  by_cases q : b ≤ l.length
  · rw [Nat.min_eq_left q]
  · rw [Nat.min_eq_right (by omega), List.take_of_length_le (Nat.le_refl _), List.take_of_length_le (by omega)]
end
end
-- part T6
local macro_rules | `(tactic| walk_at "call builtin:len") => `(tactic| (k_here; (with_reducible show wpAny _ _ (call (Value.builtin "len") [Value.str (T _) _]) _ _ _); (refine len_T (by omega) ?_); intro tk8 tk8'; (try k_fold)))
local macro_rules | `(tactic| walk_at "binaryOp Mult int int") => `(tactic| (k_here; (refine mul_sm (by omega) (by omega) ?_); intro tk8 tk8'; (try k_fold)))
local macro_rules | `(tactic| walk_at "mine tidy") => `(tactic| repeat (first | k_unfold | dsimp only [Turn] | dsimp only))
local macro_rules | `(tactic| walk_at "mine done") => `(tactic| (walk_at "mine tidy"; refine' done_of ?hF ?hN ?hs ?_; (case hF => k_asm); (case hN => k_asm); (case hs => first | assumption | kcj_all); (try dsimp only)))
local macro_rules | `(tactic| walk_at "mine same") => `(tactic| (intro z h2 h3; (try dsimp only [kstB] at h2 ⊢); (simp only [List.forall_mem_cons, List.not_mem_nil, false_implies, implies_true, and_true, ne_eq] at h2); (simp only [List.contains_cons, List.contains_nil, Bool.or_false, Bool.or_eq_false_iff, beq_eq_false_iff_ne, ne_eq] at h3); (simp [kstB, h2, h3])))
section
theorem top_off_T6 : True := by
  w_top off
  exact True.intro
def vodGo (sg : List Nat) : Nat → List Nat → Option Nat
  | n, [] => some n
  | n, d :: r => match posOf d sg 0 with
    | none => none
    | some v => vodGo sg (n * sg.length + v) r
def vod (l sg : List Nat) : Option Nat := if l = [] then none else vodGo sg 0 l
def OptInt (o : Option Nat) (r : Value) : Prop := match o with
  | some n => ∃ t, r = .int n t
  | none => r = .none
theorem is_empty (l : List Nat) : (T l == PySem.Str.ofString "") = decide (l = []) := T_beq _ _ _ (by decide +kernel)
theorem vod_step {n v k p : Nat} (hb : n < 16 ^ p) (hk : k ≤ 16) (hv : v < k) : n * k + v < 16 ^ (p + 1) := by
  have : n * k + v < (n + 1) * 16 := by
    have h1 : n * k ≤ n * 16 := Nat.mul_le_mul_left n hk
    omega
  calc n * k + v < (n + 1) * 16 := this
    _ ≤ 16 ^ p * 16 := Nat.mul_le_mul_right 16 hb
    _ = 16 ^ (p + 1) := (Nat.pow_succ ..).symm
local macro_rules | `(tactic| walk_at "exec For Name Name cons nil") => `(tactic| refine halt ?_)
local macro_rules | `(tactic| walk_at "pyIter str") => `(tactic| refine halt ?_)
theorem t_value_of_digits (w : World) (mean : ExcName → Option Value) (mg mb : Str → Option Value) (l sg : List Nat) (t t' : Tok) (hl : l.length ≤ 12) (hs : sg.length ≤ 16) :
    Tell PySem.Challenge.rw_nu0055_01.row.toRowW.prog w (hd.heap_39 w.params) mean mg mb 79 1 [.str (T l) t, .str (T sg) t'] (OptInt (vod l sg)) := by
  k_fill
  refine' tell_of_body [(Str.ofString "digits", .str (T l) t), (Str.ofString "signs", .str (T sg) t')] ?ho ?hcd ?hb ?hl ?hco ?hg ?hk ?hc ?_
  walk_at "mine enter"
  intro dp un gd outer A₀ base g L news s B X T F N hd hu
  show wpAny _ _ _ _ _ _
  k_fold
  k_steps
  · walk_at "mine done"
    simp only [is_empty, decide_eq_true_eq] at *
    simp only [vod, *, if_true]
    rfl
  refine unhalt (For_invV g rfl rfl ?_ (fun _ => rfl) PassesOwn.never)
  k_steps
  simp only [is_empty, decide_eq_false_iff_not] at *
  rename Fr _ _ _ _ => F1
  rename News _ _ _ _ => N1
  refine unhalt (for_text (fun (c : Nat × Tok) => [(Str.ofString "number", .int c.1 c.2)]) [Str.ofString "digit", Str.ofString "value"] (fun pre post c => vodGo sg 0 l = vodGo sg c.1 post ∧ c.1 < 16 ^ pre.length) (0, _) rfl F1 N1 (by kst_all) ⟨rfl, Nat.one_pos⟩ rfl ?_ ?_)
  · rintro ⟨n, tn⟩ pre d post td u h tk nn hnn hlp ⟨hv, hb⟩ F2 N2
    dsimp only at *
    have hpre : pre.length ≤ 11 := by
      have := congrArg List.length hlp
      rw [List.length_append, List.length_cons] at this
      omega
    have hn : n < 16 ^ 11 := Nat.lt_of_lt_of_le hb (Nat.pow_le_pow_right (by decide) hpre)
    have hn' : n < 17592186044416 := hn
    rw [vodGo] at hv
    have hf := find_T sg d
    cases q : posOf d sg 0 with
    | none =>
      rw [q] at hv hf
      dsimp only at hv hf
      show wpAny _ _ _ _ _ _
      k_fold
      k_steps
      walk_at "mine done"
      rw [vod, if_neg (by assumption), hv]
      rfl
    | some v =>
      rw [q] at hv hf
      dsimp only at hv hf
      have hf0 : 0 ≤ Txt.find (Mine.T sg) ⟨#[d]⟩ := by rw [hf]; exact Int.natCast_nonneg _
      show wpAny _ _ _ _ _ _
      k_fold
      k_steps
      · walk_at "mine tidy"
        refine' turn_end (n * sg.length + v, _) ?hF ?hN ?hs ?hk ?hr ⟨hv, ?_⟩
        case hF => k_asm
        case hN => k_asm
        case hs => exact fun _ h => h
        case hk =>
          intro p hp
          simp only [List.mem_cons, List.not_mem_nil, or_false] at hp
          subst hp
          show some (Value.int (↑n * ↑sg.length + Txt.find (Mine.T sg) ⟨#[d]⟩) _) = _
          rw [hf]
          rfl
        case hr => walk_at "mine same"
        show n * sg.length + v < 16 ^ (pre ++ [d]).length
        rw [List.length_append, List.length_singleton]
        exact vod_step hb hs (posOf_lt q)
  · rintro ⟨n, tn⟩ u h tk ⟨hv, hb⟩ F2 N2
    dsimp only at *
    k_steps
    walk_at "mine done"
    simp only [vod, *, if_false, hv, vodGo]
    exact ⟨_, rfl⟩
end
-- part T7
local macro_rules | `(tactic| walk_at "subscriptTail Name Name str int") => `(tactic| (k_here; (refine item_T (by assumption) (by omega) ?_); intro tk8 tk8'; (try k_fold)))
section
theorem top_off_T7 : True := by
  w_top off
  exact True.intro
local macro_rules | `(tactic| walk_at "mine pad 0") => `(tactic| skip)
def strip0 : List Nat → List Nat
  | [] => []
  | [a] => [a]
  | a :: b :: r => if a = 48 then strip0 (b :: r) else a :: b :: r
theorem strip0_short {l : List Nat} (h : l.length ≤ 1) : strip0 l = l := by
  match l, h with
  | [], _ => rfl
  | [a], _ => rfl
theorem strip0_len : ∀ l : List Nat, (strip0 l).length ≤ l.length
  | [] => Nat.le_refl _
  | [a] => Nat.le_refl _
  | a :: b :: r => by
    unfold strip0
    split
    · exact Nat.le_succ_of_le (strip0_len (b :: r))
    · exact Nat.le_refl _
theorem strip0_drop {l : List Nat} {b c : Nat} (hb : l[b]? = some c) (hlt : b + 1 < l.length) : strip0 (l.drop b) = if c = 48 then strip0 (l.drop (b + 1)) else l.drop b := by
  have h1 : b < l.length := by omega
  have e1 : l.drop b = c :: l.drop (b + 1) := by
    rw [List.drop_eq_getElem_cons h1]
    rw [List.getElem?_eq_getElem h1] at hb
    cases hb
    rfl
  have e2 : l.drop (b + 1) = l[b + 1] :: l.drop (b + 1 + 1) := List.drop_eq_getElem_cons hlt
  rw [e1, e2, strip0]
theorem is_0 (c : Nat) : ((⟨#[c]⟩ : PySem.Str) == PySem.Str.ofString "0") = decide (c = 48) := one_beq _ _ _ (by decide +kernel)
local macro_rules | `(tactic| walk_at "exec While BoolOp cons nil") => `(tactic| refine halt ?_)
theorem t_without_noughts (w : World) (mean : ExcName → Option Value) (mg mb : Str → Option Value) (l : List Nat) (t : Tok) (hl : l.length < 2 ^ 20) :
    Tell PySem.Challenge.rw_nu0055_01.row.toRowW.prog w (hd.heap_39 w.params) mean mg mb 86 1 [.str (T l) t] (fun r => ∃ t', r = .str (T (strip0 l)) t') := by
  k_fill
  refine' tell_of_body [(Str.ofString "digits", .str (T l) t)] ?ho ?hcd ?hb ?hl ?hco ?hg ?hk ?hc ?_
  walk_at "mine enter"
  intro dp un gd outer A₀ base g L news s B X T F N hd hu
  have hT := T_len l
  show wpAny _ _ _ _ _ _
  k_fold
  k_steps
  rename Fr _ _ _ _ => F1
  rename News _ _ _ _ => N1
  refine unhalt (while_loop (fun (c : Nat × Tok) => [(Str.ofString "begin", .int c.1 c.2)]) [] (fun c => strip0 (l.drop c.1) = strip0 l ∧ (c.1 = 0 ∨ c.1 < l.length)) (fun c => l.length - c.1) (0, _) F1 N1 (by kst_all) ⟨rfl, .inl rfl⟩ ?_ PassesOwn.never)
  rintro ⟨b, tb⟩ u h tk ⟨hv, hb⟩ F2 N2
  dsimp only at *
  by_cases hlt : b < l.length
  · have hc : l[b]? = some l[b] := List.getElem?_eq_getElem hlt
    generalize l[b] = c at hc
    have hsl := slice_from (Nat.le_of_lt hlt)
    show wpAny _ _ _ _ _ _
    k_fold
    k_steps
    all_goals simp only [is_0, decide_eq_true_eq, decide_eq_false_iff_not] at *
    · have hlt' : b + 1 < l.length := by omega
      have hd := strip0_drop hc hlt'
      rw [if_pos (by assumption)] at hd
      walk_at "mine tidy"
      refine' turn_end (b + 1, _) ?hF ?hN ?hs ?hk ?hr ⟨⟨hd.symm.trans hv, .inr hlt'⟩, ?_⟩
      case hF => k_asm
      case hN => k_asm
      case hs => exact fun _ h => h
      case hk =>
        intro p hp
        simp only [List.mem_cons, List.not_mem_nil, or_false] at hp
        subst hp
        rfl
      case hr => walk_at "mine same"
      show l.length - (b + 1) < l.length - b
      omega
    · have hlt' : b + 1 < l.length := by omega
      have hd := strip0_drop hc hlt'
      rw [if_neg (by assumption)] at hd
      walk_at "mine done"
      rw [hsl, ← hd, hv]
      exact ⟨_, rfl⟩
    · have hd := strip0_short (l := l.drop b) (by rw [List.length_drop]; omega)
      walk_at "mine done"
      rw [hsl, ← hd, hv]
      exact ⟨_, rfl⟩
  · have hl0 : l = [] := by
      rcases hb with rfl | hb
      · exact List.length_eq_zero_iff.mp (by omega)
      · exact absurd hb hlt
    have hb0 : b = 0 := by
      rcases hb with hb | hb
      · exact hb
      · exact absurd hb hlt
    subst hl0 hb0
    have hsl := slice_from (Nat.zero_le (List.length ([] : List Nat)))
    show wpAny _ _ _ _ _ _
    k_fold
    k_steps
    walk_at "mine done"
    rw [hsl]
    exact ⟨_, rfl⟩
end
-- part L3
section
section
variable {prog : Program} {w : World} {A : Around} {E : Value → Shared → Prop} {s : Shared} {h₀ : Heap} {L : Addr} {m : Str → Option Value} {env : Env}
/-- the source of a comprehension over the signs of a text -/
def SrcT (prog : Program) (w : World) (A : Around) (h₀ : Heap) (L : Addr) (m : Str → Option Value) (env : Env) (elt : PySem.Expr) (x : Str) (scope : Scope) (cl : List (Str × Addr)) (Q : Value → Shared → Prop) (xv : Value) (s₁ : Shared) : Prop :=
  ∃ (l : List Nat) (tx : Tok) (news : List (Addr × Obj)), xv = .str (T l) tx ∧ A.handled = none ∧ Fr h₀ L s₁.heap m ∧ News h₀ L s₁.heap news ∧ l.length ≤ sizeLine ∧
    ∀ s₂ : Shared, (∃ h, s₂ = { s₁ with heap := h }) → LCg.CompRest prog w A h₀ L m env elt x scope cl s₂ (fun _ => True) (SignAt (T l)) (LCg.FinE h₀ L m s₂ Q) l.length 0 [] news
theorem iter_st {ty : String} {x : Str} {t : Tok} {I : Addr} : ∀ i (h h' : Heap) (o : Obj) (nw : List (Addr × Obj)), h.IsStrIter I ty x t i → h.get? I = some o → h'.get? I = some o → (∀ b o, h₀.get? b = some o → h'.get? b = some o) → News h₀ L h' nw → True → h'.IsStrIter I ty x t i :=
  fun i h h' o nw st e e' _ _ _ => by
    obtain ⟨o', q, r⟩ := st
    rw [e] at q
    cases q
    exact ⟨o, e', r⟩
theorem comp_block {elt iter : PySem.Expr} {x : Str} {px : Pos} {scope : Scope} {cl : List (Str × Addr)} {pos : Pos} {Q : Value → Shared → Prop} {l : List Nat} {tx : Tok} {ty : String} {news : List (Addr × Obj)} {ob : Obj}
    (W : Walks prog w A s.heap.objs.size [s.heap.objs.size] [s.heap.objs.size] (T l).cps.size (SignAt (T l)) (fun i h => h.IsStrIter s.heap.objs.size ty (T l) tx i)) (st : (s.heap.push ob).IsStrIter s.heap.objs.size ty (T l) tx 0)
    (hcell : ∀ y ∈ scope.names, y.2 ≠ .cell) (hkind : scope.kind = .function) (hx : scope.names.lookup x = some .local)
    (F : Fr h₀ L s.heap m) (N : News h₀ L s.heap news) (hsz : l.length ≤ sizeLine)
    (R : LCg.CompRest prog w A h₀ L m env elt x scope cl { s with heap := s.heap.push ob } (fun _ => True) (SignAt (T l)) (LCg.FinE h₀ L m { s with heap := s.heap.push ob } Q) l.length 0 [] news) :
    wpAny (model prog w) A (newList []) (fun acc s₃ => wpAny (model prog w) A (newFunctionEnv scope env.globals cl [] env.qual none .none (some env)) (fun cenv s₄ =>
      codeAny (model prog w) A (.compStart (.ListComp elt [⟨.Name x px, iter, [], 0⟩] scope pos) 0 (.ref s.heap.objs.size) acc { cenv with scope := relabel scope env }) (compPost (model prog w) A E none Q acc cenv.locals) s₄) E s₃) E { s with heap := s.heap.push ob } := by
  have hl : (T l).cps.size = l.length := T_len l
  rw [hl] at W
  refine LCg.block_U W hsz (fun i h st => by obtain ⟨o, e, _⟩ := st; exact ⟨o, e⟩) iter_st hcell hkind hx st (fun b hb => ?_)
    (F.keeps fun _ _ e => Heap.get?_push_of_some _ e) (N.grown fun _ _ e => Heap.get?_push_of_some _ e) (Nat.ne_of_lt F.ns.lt) (next_is_new F) (fun p hp => Nat.ne_of_lt (Heap.lt_size (N p hp).1)) trivial R ?_
  · rw [List.mem_singleton.mp hb]
    show s.heap.objs.size < (s.heap.push ob).objs.size
    rw [Heap.size_push]
    exact Nat.lt_succ_self _
  · intro D C h tk m' ys news' F' N' o1 hn hC₀ hD₀ hCL hDL hCD offC fin
    refine ⟨m', hn, fun h'' hs'' => fin D h'' tk (F'.change hs'' hCL hC₀) (fun p hp => ?_) o1⟩
    refine ⟨hs''.extBut _ _ ?_ (N' p hp).1, (N' p hp).2⟩
    rcases List.mem_cons.mp hp with rfl | hp
    · exact Ne.symm hCD
    · exact offC p hp
theorem ListComp_S {elt iter : PySem.Expr} {x : Str} {px : Pos} {scope : Scope} {cl : List (Str × Addr)} {pos : Pos} {Q : Value → Shared → Prop} (_F₀ : Fr h₀ L s.heap m)
    (hclos : closureFor scope env = pure cl) (hcell : ∀ y ∈ scope.names, y.2 ≠ .cell) (hkind : scope.kind = .function)
    (hnames : ∀ y ∈ scope.names, y.2 = .local → scope.names.lookup y.1 = some .local) (hx : scope.names.lookup x = some .local)
    (h : wpAny (model prog w) A (eval iter env) (SrcT prog w A h₀ L m env elt x scope cl Q) E s)
    (hs : ∀ x, foldedSetIterable iter env x = pure x) :
    wpAny (model prog w) A (eval (.ListComp elt [⟨.Name x px, iter, [], 0⟩] scope pos) env) Q E s := by
  rw [eval_ListComp]
  refine wpAny_comprehension_free (use := none) rfl hs hclos hkind hnames (wpAny_mono h (fun xv s₁ h₁ => ?_) fun _ _ e => e)
  obtain ⟨l, tx, news, rfl, hh, F, N, hsz, R⟩ := h₁
  cases ha : (T l).cps.all (· < 128)
  · exact wpAny_pyIter_wide ha (comp_block (Walks.strWide hh _ (T l) tx) ⟨_, Heap.get?_push_size _ rfl, rfl, rfl⟩ hcell hkind hx F N hsz (R _ ⟨_, rfl⟩))
  · exact wpAny_pyIter_ascii ha (comp_block (Walks.strAscii hh _ (T l) tx) ⟨_, Heap.get?_push_size _ rfl, rfl, rfl⟩ hcell hkind hx F N hsz (R _ ⟨_, rfl⟩))
/-- the end of an element's run: the text l', all else as it was -/
def EltIs (h₀ : Heap) (L : Addr) (m : Str → Option Value) (nn : List (Addr × Obj)) (s : Shared) (l' : List Nat) (y : Value) (s₂ : Shared) : Prop :=
  ∃ h' tk' t', s₂ = { s with heap := h', toks := tk' } ∧ y = .str (T l') t' ∧ Fr h₀ L h' m ∧ News h₀ L h' nn
theorem elt_is {m' : Str → Option Value} {nn : List (Addr × Obj)} {l' : List Nat} {x : Str} {t' : Tok} {h' : Heap} {tk' : Nat} (F : Fr h₀ L h' m') (N : News h₀ L h' nn) (e : x = T l') : EltIs h₀ L m' nn s l' (.str x t') { s with heap := h', toks := tk' } := by
  subst e
  exact ⟨h', tk', t', rfl, rfl, F, N⟩
/-- a comprehension over a text whose element is a text, made from the sign alone -/
theorem comp_text {elt : PySem.Expr} {x : Str} {scope : Scope} {cl : List (Str × Addr)} {S : List (Addr × Obj) → Prop} {l : List Nat} {Fin : List Value → List (Addr × Obj) → Prop} {news : List (Addr × Obj)} (f : Nat → List Nat)
    (hS : S news)
    (turn : ∀ c t I oI C oC D m₂ ys h tk nn, c ∈ l → LCg.NsObj oC m₂ → m₂ x = some (.str ⟨#[c]⟩ t) → Fr h₀ L h m → nn = (I, oI) :: (C, oC) :: (D, LCg.lst ys) :: news → News h₀ L h nn → (C, oC) ∈ nn →
      wpAny (model prog w) A (eval elt (compEnvC scope cl C env)) (EltIs h₀ L m nn s (f c)) (fun _ _ => False) { s with heap := h, toks := tk })
    (fin : ∀ ys, StrsAre ys (l.map fun c => T (f c)) → Fin ys news) : LCg.CompRest prog w A h₀ L m env elt x scope cl s S (SignAt (T l)) Fin l.length 0 [] news := by
  have key : ∀ (j i : Nat) (ys : List Value), i + j = l.length → StrsAre ys ((l.take i).map fun c => T (f c)) → LCg.CompRest prog w A h₀ L m env elt x scope cl s S (SignAt (T l)) Fin j i ys news := by
    intro j
    induction j with
    | zero =>
      intro i ys hi hy
      have e : i = l.length := by omega
      subst e
      rw [List.take_length] at hy
      exact LCg.CompRest.zero (fin ys hy)
    | succ j ih =>
      intro i ys hi hy
      refine LCg.CompRest.succ ?_
      intro v I oI C oC D m₂ h tk E' hv hC hx F N off ne
      obtain ⟨c, t, hc, rfl⟩ := hv
      have hc' : l[i]? = some c := by simpa [T] using hc
      refine wpAny_mono (turn c t I oI C oC D m₂ ys h tk _ (List.mem_of_getElem? hc') hC hx F rfl N (.tail _ (.head _))) (fun y s₂ hq => ?_) fun _ _ e => e.elim
      obtain ⟨h', tk', t', rfl, rfl, F', N'⟩ := hq
      refine ⟨h', tk', news, rfl, F', N', off, hS, ?_⟩
      refine ih (i + 1) _ (by omega) ?_
      rw [List.take_add_one, hc']
      simpa using kct_snoc hy
  exact key l.length 0 [] (by omega) (by simp only [List.take_zero, List.map_nil]; exact .nil)
end
theorem s_nil : PySem.Str.ofString "" = T [] := by decide +kernel
theorem T_append (a b : List Nat) : T a ++ T b = T (a ++ b) := by
  refine PySem.Str.ext' ?_
  rw [PySem.Str.cps_append]
  simp [T]
theorem join_flat : ∀ ls : List (List Nat), PySem.Str.join (T []) (ls.map T) = T ls.flatten
  | [] => rfl
  | [a] => by simp [PySem.Str.join]
  | a :: b :: r => by
    have ih := join_flat (b :: r)
    show T a ++ T [] ++ PySem.Str.join (T []) ((b :: r).map T) = T (a :: b :: r).flatten
    rw [ih, T_append, T_append, List.append_nil]
    simp
theorem lens_T (ls : List (List Nat)) : ((ls.map T).map (·.length)) = ls.map List.length := by
  rw [List.map_map]
  exact List.map_congr_left fun a _ => T_len a
section
variable {prog : Program} {w : World} {A : Around} {E : Value → Shared → Prop} {s : Shared} {h₀ : Heap} {L : Addr}
theorem join_T {D : Addr} {ys : List Value} {ls : List (List Nat)} {t : Tok} {news : List (Addr × Obj)} {Q : Value → Shared → Prop} (N : News h₀ L s.heap news) (hm : (D, LCg.lst ys) ∈ news) (hys : StrsAre ys (ls.map T))
    (hw : (ls.map List.length).sum + ls.length * 64 ≤ 16777216) (h : ∀ t' k, Q (.str (T ls.flatten) t') { s with toks := k }) :
    wpAny (model prog w) A (call (.builtin "str.join") [.str (PySem.Str.ofString "") t, .ref D]) Q E s := by
  refine join_listC (ys := ls.map T) (News.isList N hm) (by simpa using hys) (by decide +kernel) (by rw [lens_T, List.length_map]; exact hw) fun t' k => ?_
  have e : Txt.join (PySem.Str.ofString "") (ls.map T) = T ls.flatten := by
    unfold Txt.join
    rw [PySem.StrLaws.glued_eq_join, s_nil, join_flat]
  rw [e]
  exact h t' k
end
theorem sum_le {f : Nat → List Nat} {k : Nat} (hf : ∀ c, (f c).length ≤ k) : ∀ l : List Nat, (l.map fun c => (f c).length).sum ≤ l.length * k
  | [] => by simp
  | a :: r => by
    have := sum_le hf r
    have := hf a
    simp only [List.map_cons, List.sum_cons, List.length_cons, Nat.succ_mul]
    omega
theorem flat_len {f : Nat → List Nat} {k : Nat} (hf : ∀ c, (f c).length ≤ k) (l : List Nat) : (l.flatMap f).length ≤ l.length * k := by
  rw [List.length_flatMap]
  exact sum_le hf l
section
variable {prog : Program} {w : World} {A : Around} {E : Value → Shared → Prop} {s : Shared} {t u : Tok}
theorem eq_by {x y : PySem.Str} {b : Bool} {Q : Value → Shared → Prop} (e : (x == y) = b) (h : Q (.bool b) s) : wpAny (model prog w) A (compareOp .Eq (.str x t) (.str y u)) Q E s := by
  subst e
  exact eq_str h
theorem ne_by {x y : PySem.Str} {b : Bool} {Q : Value → Shared → Prop} (e : (x != y) = b) (h : Q (.bool b) s) : wpAny (model prog w) A (compareOp .NotEq (.str x t) (.str y u)) Q E s := by
  subst e
  exact ne_str h
end
section
variable {prog : Program} {w : World} {A : Around} {E : Value → Shared → Prop} {s : Shared} {h₀ : Heap} {L : Addr} {m : Str → Option Value} {news : List (Addr × Obj)} {t : Tok} {x y : PySem.Str} {value slice : PySem.Expr} {Q : Value → Shared → Prop}
theorem slice_by_ns {j : Int} {uj : Tok} (e : Txt.slice x none (some j) = y) (hF : Fr h₀ L s.heap m) (hN : News h₀ L s.heap news) (h : ∀ h' t' k, Fr h₀ L h' m → News h₀ L h' news → Q (.str y t') { s with heap := h', toks := k })
    (hsz : x.length ≤ sizeLine)
    (hs : subscripted slice false (.str x t) (.ref s.heap.objs.size) = operate [.ref s.heap.objs.size, .str x t] (getItem (.str x t) (.ref s.heap.objs.size)) := by with_unfolding_all rfl)
    (ht : ∀ r, letTemporaryGo value (.str x t) r = pure () := by intro _; with_unfolding_all rfl) :
    wpAny (model prog w) A (subscriptTail value slice (.str x t) (.ref s.heap.objs.size)) Q E { s with heap := s.heap.push { cls := .type "slice", data := .fields #[.none, .int j uj, .none] } } := by
  subst e
  exact slice_strN_ns hF hN h hs ht hsz
theorem slice_by_sn {i : Int} {ui : Tok} (e : Txt.slice x (some i) none = y) (hF : Fr h₀ L s.heap m) (hN : News h₀ L s.heap news) (h : ∀ h' t' k, Fr h₀ L h' m → News h₀ L h' news → Q (.str y t') { s with heap := h', toks := k })
    (hsz : x.length ≤ sizeLine)
    (hs : subscripted slice false (.str x t) (.ref s.heap.objs.size) = operate [.ref s.heap.objs.size, .str x t] (getItem (.str x t) (.ref s.heap.objs.size)) := by with_unfolding_all rfl)
    (ht : ∀ r, letTemporaryGo value (.str x t) r = pure () := by intro _; with_unfolding_all rfl) :
    wpAny (model prog w) A (subscriptTail value slice (.str x t) (.ref s.heap.objs.size)) Q E { s with heap := s.heap.push { cls := .type "slice", data := .fields #[.int i ui, .none, .none] } } := by
  subst e
  exact slice_strN_sn hF hN h hs ht hsz
theorem slice_by_ss {i j : Int} {ui uj : Tok} (e : Txt.slice x (some i) (some j) = y) (hF : Fr h₀ L s.heap m) (hN : News h₀ L s.heap news) (h : ∀ h' t' k, Fr h₀ L h' m → News h₀ L h' news → Q (.str y t') { s with heap := h', toks := k })
    (hsz : x.length ≤ sizeLine)
    (hs : subscripted slice false (.str x t) (.ref s.heap.objs.size) = operate [.ref s.heap.objs.size, .str x t] (getItem (.str x t) (.ref s.heap.objs.size)) := by with_unfolding_all rfl)
    (ht : ∀ r, letTemporaryGo value (.str x t) r = pure () := by intro _; with_unfolding_all rfl) :
    wpAny (model prog w) A (subscriptTail value slice (.str x t) (.ref s.heap.objs.size)) Q E { s with heap := s.heap.push { cls := .type "slice", data := .fields #[.int i ui, .int j uj, .none] } } := by
  subst e
  exact slice_strN_ss hF hN h hs ht hsz
theorem add_T {a b : List Nat} {t u : Tok} (hsz : a.length + b.length ≤ 2 ^ 20) (h : ∀ tk tk', Q (.str (T (a ++ b)) tk) { s with toks := tk' }) : wpAny (model prog w) A (binaryOp .Add (.str (T a) t) (.str (T b) u)) Q E s := by
  refine add_str (fun t' tk => ?_) (by rw [T_len, T_len, sizeLine_eq]; omega)
  rw [T_append]
  exact h _ _
end
end
-- part T8
local macro_rules | `(tactic| walk_at "compareOp Eq str str") => `(tactic| (k_here; refine eq_by (by assumption) ?_))
section
theorem top_off_T8 : True := by
  w_top off
  exact True.intro
theorem tesc_len (c : Nat) : (tesc c).length ≤ 6 := by
  unfold tesc
  repeat' split
  all_goals simp
theorem vesc_len (c : Nat) : (vesc c).length ≤ 6 := by
  unfold vesc
  repeat' split
  all_goals simp
local macro_rules | `(tactic| walk_at "eval ListComp") => `(tactic| refine halt ?_)
local macro_rules | `(tactic| walk_at "call ref") => `(tactic| (k_here; k_dflt (refine' tell_use (t_text_escape _ _ _ _ _ _) ?k1 ?k2 ?k3 ?k4 ?k5 ?k6 ?k7 ?k8 ?_); walk_at "mine called"))
theorem t_escaped_text (w : World) (mean : ExcName → Option Value) (mg mb : Str → Option Value) (l : List Nat) (t : Tok) (hl : l.length ≤ 1000) :
    Tell PySem.Challenge.rw_nu0055_01.row.toRowW.prog w (hd.heap_39 w.params) mean mg mb 125 2 [.str (T l) t] (fun r => ∃ t', r = .str (T (l.flatMap tesc)) t') := by
  k_fill
  refine' tell_of_body [(Str.ofString "text", .str (T l) t)] ?ho ?hcd ?hb ?hl ?hco ?hg ?hk ?hc ?_
  walk_at "mine enter"
  intro dp un gd outer A₀ base g L news s B X T F N hd hu
  show wpAny _ _ _ _ _ _
  k_fold
  k_steps
  rename Fr _ _ _ _ => F1
  rename News _ _ _ _ => N1
  refine unhalt (ListComp_S (cl := []) F1 rfl (by decide) rfl (by decide) rfl ?_ (fun _ => rfl))
  k_steps
  refine ⟨l, _, _, rfl, rfl, F1, N1, by rw [sizeLine_eq]; omega, ?_⟩
  rintro s₂ ⟨h, rfl⟩
  refine comp_text tesc trivial ?_ ?_
  · intro c t' I oI C oC D m₂ ys h tk nn hc hC hx F2 hnn N2 hmem
    subst hnn
    k_steps
    walk_at "mine tidy"
    exact elt_is (by k_asm) (by k_asm) rfl
  · intro ys hys D h tk F3 N3 off
    dsimp only
    k_steps
    have hf := sum_le tesc_len l
    have hys' : StrsAre ys ((l.map tesc).map Mine.T) := by rw [List.map_map]; exact hys
    refine' join_T ?hn ?hm ?hy ?_ ?_
    case hn => exact N3
    case hm => exact .head _
    case hy => exact hys'
    · rw [List.map_map, List.length_map]
      show (l.map fun c => (tesc c).length).sum + _ ≤ _
      omega
    · intro t' k
      walk_at "mine done"
      rw [← List.flatMap_def]
      exact ⟨_, rfl⟩
local macro_rules | `(tactic| walk_at "call ref") => `(tactic| (k_here; k_dflt (refine' tell_use (t_value_escape _ _ _ _ _ _) ?k1 ?k2 ?k3 ?k4 ?k5 ?k6 ?k7 ?k8 ?_); walk_at "mine called"))
theorem t_escaped_value (w : World) (mean : ExcName → Option Value) (mg mb : Str → Option Value) (l : List Nat) (t : Tok) (hl : l.length ≤ 1000) :
    Tell PySem.Challenge.rw_nu0055_01.row.toRowW.prog w (hd.heap_39 w.params) mean mg mb 130 2 [.str (T l) t] (fun r => ∃ t', r = .str (T (l.flatMap vesc)) t') := by
  k_fill
  refine' tell_of_body [(Str.ofString "text", .str (T l) t)] ?ho ?hcd ?hb ?hl ?hco ?hg ?hk ?hc ?_
  walk_at "mine enter"
  intro dp un gd outer A₀ base g L news s B X T F N hd hu
  show wpAny _ _ _ _ _ _
  k_fold
  k_steps
  rename Fr _ _ _ _ => F1
  rename News _ _ _ _ => N1
  refine unhalt (ListComp_S (cl := []) F1 rfl (by decide) rfl (by decide) rfl ?_ (fun _ => rfl))
  k_steps
  refine ⟨l, _, _, rfl, rfl, F1, N1, by rw [sizeLine_eq]; omega, ?_⟩
  rintro s₂ ⟨h, rfl⟩
  refine comp_text vesc trivial ?_ ?_
  · intro c t' I oI C oC D m₂ ys h tk nn hc hC hx F2 hnn N2 hmem
    subst hnn
    k_steps
    walk_at "mine tidy"
    exact elt_is (by k_asm) (by k_asm) rfl
  · intro ys hys D h tk F3 N3 off
    dsimp only
    k_steps
    have hf := sum_le vesc_len l
    have hys' : StrsAre ys ((l.map vesc).map Mine.T) := by rw [List.map_map]; exact hys
    refine' join_T ?hn ?hm ?hy ?_ ?_
    case hn => exact N3
    case hm => exact .head _
    case hy => exact hys'
    · rw [List.map_map, List.length_map]
      show (l.map fun c => (vesc c).length).sum + _ ≤ _
      omega
    · intro t' k
      walk_at "mine done"
      rw [← List.flatMap_def]
      exact ⟨_, rfl⟩
end
-- part T9
section
theorem top_off_T9 : True := by
  w_top off
  exact True.intro
def lowA (c : Nat) : Nat := if 65 ≤ c ∧ c ≤ 70 then c + 32 else c
def DEC : List Nat := [48,49,50,51,52,53,54,55,56,57]
def HEX : List Nat := [48,49,50,51,52,53,54,55,56,57,97,98,99,100,101,102]
def codeDec (l : List Nat) : Option Nat := if (strip0 l).length > 12 then none else vod (strip0 l) DEC
def codeHex (l : List Nat) : Option Nat := if (strip0 l).length > 12 then none else vod ((strip0 l).map lowA) HEX
def codeOf (l : List Nat) : Option Nat := match l with
  | 120 :: r => codeHex r
  | l => codeDec l
theorem e_x (l : List Nat) : (T l == PySem.Str.ofString "x") = decide (l = [120]) := T_beq _ _ _ (by decide +kernel)
theorem lt_A (c : Nat) : ((⟨#[c]⟩ : PySem.Str).cps.toList < (PySem.Str.ofString "A").cps.toList) ↔ c < 65 := by
  rw [show (PySem.Str.ofString "A").cps.toList = [65] from by decide +kernel]
  simp [List.cons_lt_cons_iff]
theorem lt_F (c : Nat) : ((PySem.Str.ofString "F").cps.toList < (⟨#[c]⟩ : PySem.Str).cps.toList) ↔ 70 < c := by
  rw [show (PySem.Str.ofString "F").cps.toList = [70] from by decide +kernel]
  simp [List.cons_lt_cons_iff]
local macro_rules | `(tactic| walk_at "eval ListComp") => `(tactic| refine halt ?_)
local macro_rules | `(tactic| walk_at "call ref") => `(tactic| (k_here; k_dflt (first | refine' tell_use (t_without_noughts _ _ _ _ _ _ (by assumption)) ?k1 ?k2 ?k3 ?k4 ?k5 ?k6 ?k7 ?k8 ?_ | refine' tell_use (t_value_of_digits _ _ _ _ _ _ _ _ (by omega) (by decide)) ?k1 ?k2 ?k3 ?k4 ?k5 ?k6 ?k7 ?k8 ?_); walk_at "mine called"))
theorem t_code_of (w : World) (mean : ExcName → Option Value) (mg mb : Str → Option Value) (l : List Nat) (t : Tok) (hl : l.length ≤ 1000) :
    Tell PySem.Challenge.rw_nu0055_01.row.toRowW.prog w (hd.heap_39 w.params) mean mg mb 91 2 [.str (T l) t] (OptInt (codeOf l)) := by
  k_fill
  refine' tell_of_body [(Str.ofString "told", .str (T l) t)] ?ho ?hcd ?hb ?hl ?hco ?hg ?hk ?hc ?_
  walk_at "mine enter"
  intro dp un gd outer A₀ base g L news s B X TT F N hd hu
  have hT := T_len l
  have hT0 : l.length < 2 ^ 20 := by omega
  by_cases hx : l.take 1 = [120]
  · obtain ⟨r, rfl⟩ : ∃ r, l = 120 :: r := by
      match l, hx with
      | a :: r, h => exact ⟨r, by simpa using h⟩
    have hs1 : Txt.slice (T (120 :: r)) none (some 1) = T [120] := slice_to (b := 1)
    have hs2 : Txt.slice (T (120 :: r)) (some 1) none = T r := slice_from (a := 1) (by simp)
    have hr9 : r.length ≤ 999 := by simp at hl; omega
    have hr : r.length < 2 ^ 20 := by omega
    have hr2 := strip0_len r
    have hcmp : (Txt.slice (T (120 :: r)) none (some 1) == PySem.Str.ofString "x") = true := by rw [hs1, e_x]; exact decide_eq_true rfl
    show wpAny _ _ _ _ _ _
    k_fold
    k_steps
    rw [hs2]
    k_steps
    rename Fr _ _ _ _ => F1
    rename News _ _ _ _ => N1
    refine unhalt (ListComp_S (cl := []) F1 rfl (by decide) rfl (by decide) rfl ?_ (fun _ => rfl))
    k_steps
    refine ⟨strip0 r, _, _, rfl, rfl, F1, N1, by rw [sizeLine_eq]; omega, ?_⟩
    rintro s₂ ⟨h, rfl⟩
    dsimp only
    refine comp_text (fun c => [lowA c]) trivial ?_ ?_
    · intro c t' I oI C oC D m₂ ys h tk nn hc hC hx F2 hnn N2 hmem
      subst hnn
      k_steps
      · walk_at "mine tidy"
        rename_i hcA
        have hcA := (lt_A c).mp hcA
        refine elt_is (by k_asm) (by k_asm) ?_
        rw [lowA, if_neg (by omega)]
        rfl
      · walk_at "mine tidy"
        rename_i hcA hcF
        have hcF := (lt_F c).mp hcF
        refine elt_is (by k_asm) (by k_asm) ?_
        rw [lowA, if_neg (by omega)]
        rfl
      · rename_i hcA hcF
        have hcA : ¬ c < 65 := fun q => hcA ((lt_A c).mpr q)
        have hcF : ¬ 70 < c := fun q => hcF ((lt_F c).mpr q)
        k_steps
        walk_at "mine tidy"
        refine elt_is (by k_asm) (by k_asm) ?_
        rw [lowA, if_pos (by omega)]
        have e : ((c : Int) + 32).toNat = c + 32 := by omega
        rw [e]
        rfl
    · intro ys hys D h tk F3 N3 off
      have hys' : StrsAre ys (((strip0 r).map fun c => [lowA c]).map T) := by rw [List.map_map]; exact hys
      have hfl : ((strip0 r).map fun c => [lowA c]).flatten = (strip0 r).map lowA := by
        generalize strip0 r = q
        induction q with
        | nil => rfl
        | cons a q ih => simp only [List.map_cons, List.flatten_cons, ih]; rfl
      dsimp only
      k_steps
      refine' join_T ?hn ?hm ?hy ?_ ?_
      case hn => exact N3
      case hm => exact .head _
      case hy => exact hys'
      · rw [List.map_map, List.length_map]
        have : (List.map (List.length ∘ fun c => [lowA c]) (strip0 r)).sum = (strip0 r).length := by
          generalize strip0 r = q
          induction q with
          | nil => rfl
          | cons a q ih => simp only [List.map_cons, List.sum_cons, List.length_cons, ih, Function.comp]; simp; omega
        rw [this]
        omega
      · intro t' k
        rw [hfl]
        have hml : ((strip0 r).map lowA).length = (strip0 r).length := List.length_map ..
        dsimp only
        show wpAny _ _ _ _ _ _
        k_fold
        k_steps
        · walk_at "mine done"
          rw [codeOf, codeHex, if_pos (by omega)]
          rfl
        · walk_at "mine done"
          rw [codeOf, codeHex, if_neg (by omega)]
          assumption
  · have hs1 : Txt.slice (T l) none (some 1) = T (l.take 1) := slice_to (b := 1)
    have hc : codeOf l = codeDec l := by
      match l, hx with
      | [], _ => rfl
      | a :: r, h =>
        have : a ≠ 120 := by simpa using h
        unfold codeOf
        split
        · rename_i e; cases e; exact absurd rfl this
        · rfl
    have hr2 := strip0_len l
    have hcmp : (Txt.slice (T l) none (some 1) == PySem.Str.ofString "x") = false := by rw [hs1, e_x]; exact decide_eq_false hx
    rw [hc]
    show wpAny _ _ _ _ _ _
    k_fold
    k_steps
    · walk_at "mine done"
      rw [codeDec, if_pos (by omega)]
      rfl
    · walk_at "mine done"
      rw [codeDec, if_neg (by omega)]
      assumption
end
-- part T10
section
theorem top_off_T10 : True := by
  w_top off
  exact True.intro
/-- the sign that a reference tells, if it tells one -/
def charOf (l : List Nat) : Option Nat := match codeOf l with
  | some n => if n ≤ 1114111 ∧ isChar n = true then some n else none
  | none => none
theorem charOf_some {l : List Nat} {n : Nat} (h : charOf l = some n) : codeOf l = some n ∧ n ≤ 1114111 ∧ isChar n = true := by
  unfold charOf at h
  split at h
  · rename_i k e
    split at h
    · rename_i q
      cases h
      exact ⟨e, q⟩
    · cases h
  · cases h
theorem tell_mono {prog : Program} {w : World} {K : Frag} {mean : ExcName → Option Value} {mg mb : Str → Option Value} {f : Addr} {d : Nat} {vs : List Value} {Res Res' : Value → Prop} (h : Tell prog w K mean mg mb f d vs Res) (k : ∀ r, Res r → Res' r) : Tell prog w K mean mg mb f d vs Res' :=
  fun dp un gd cn cs a ccd cl outer A₀ base h₀ L m news s Q E B F X N T hk hd hu hret => h dp un gd cn cs a ccd cl outer A₀ base h₀ L m news s Q E B F X N T hk hd hu fun r h' tk' hr => hret r h' tk' (k r hr)
theorem t_code_some (w : World) (mean : ExcName → Option Value) (mg mb : Str → Option Value) (l : List Nat) (t : Tok) (n : Nat) (hl : l.length ≤ 1000) (hc : codeOf l = some n) :
    Tell PySem.Challenge.rw_nu0055_01.row.toRowW.prog w (hd.heap_39 w.params) mean mg mb 91 2 [.str (T l) t] (fun r => ∃ t', r = .int n t') :=
  tell_mono (t_code_of w mean mg mb l t hl) fun r h => by rw [hc] at h; exact h
theorem t_code_none (w : World) (mean : ExcName → Option Value) (mg mb : Str → Option Value) (l : List Nat) (t : Tok) (hl : l.length ≤ 1000) (hc : codeOf l = none) :
    Tell PySem.Challenge.rw_nu0055_01.row.toRowW.prog w (hd.heap_39 w.params) mean mg mb 91 2 [.str (T l) t] (fun r => r = .none) :=
  tell_mono (t_code_of w mean mg mb l t hl) fun r h => by rw [hc] at h; exact h
theorem t_is_char_b (w : World) (mean : ExcName → Option Value) (mg mb : Str → Option Value) (c : Nat) (b : Bool) (t : Tok) (hb : isChar c = b) :
    Tell PySem.Challenge.rw_nu0055_01.row.toRowW.prog w (hd.heap_39 w.params) mean mg mb 32 2 [.str ⟨#[c]⟩ t] (fun r => r = .bool b) :=
  tell_mono (t_is_char w mean mg mb c t) fun r h => by rw [hb] at h; exact h
local macro_rules | `(tactic| walk_at "call ref") => `(tactic| (k_here; k_dflt (first | refine' tell_use (t_code_some _ _ _ _ _ _ _ (by assumption) (by assumption)) ?k1 ?k2 ?k3 ?k4 ?k5 ?k6 ?k7 ?k8 ?_ | refine' tell_use (t_is_char_b _ _ _ _ _ _ _ (by assumption)) ?k1 ?k2 ?k3 ?k4 ?k5 ?k6 ?k7 ?k8 ?_); walk_at "mine called"))
theorem t_char_of2 (w : World) (mean : ExcName → Option Value) (mg mb : Str → Option Value) (l : List Nat) (t : Tok) (p : Int) (tp : Tok) (n : Nat) (hl : l.length ≤ 1000) (hn : charOf l = some n) :
    Tell PySem.Challenge.rw_nu0055_01.row.toRowW.prog w (hd.heap_39 w.params) mean mg mb 99 3 [.str (T l) t, .int p tp] (fun r => ∃ t', r = .str (T [n]) t') := by
  k_fill
  obtain ⟨hc, hn1, hn2⟩ := charOf_some hn
  refine' tell_of_body [(Str.ofString "told", .str (T l) t), (Str.ofString "place", .int p tp)] ?ho ?hcd ?hb ?hl ?hco ?hg ?hk ?hc ?_
  walk_at "mine enter"
  intro dp un gd outer A₀ base g L news s B X TT F N hd hu
  have hn3 : (n : Int) ≤ 1114111 := by omega
  show wpAny _ _ _ _ _ _
  k_fold
  k_steps
  walk_at "mine done"
  exact ⟨_, rfl⟩
theorem t_char_of1 (w : World) (mean : ExcName → Option Value) (mg mb : Str → Option Value) (l : List Nat) (t : Tok) (n : Nat) (hl : l.length ≤ 1000) (hn : charOf l = some n) :
    Tell PySem.Challenge.rw_nu0055_01.row.toRowW.prog w (hd.heap_39 w.params) mean mg mb 99 3 [.str (T l) t] (fun r => ∃ t', r = .str (T [n]) t') := by
  k_fill
  obtain ⟨hc, hn1, hn2⟩ := charOf_some hn
  refine' tell_of_body [(Str.ofString "told", .str (T l) t), (Str.ofString "place", .int 0 307)] ?ho ?hcd ?hb ?hl ?hco ?hg ?hk ?hc ?_
  walk_at "mine enter"
  intro dp un gd outer A₀ base g L news s B X TT F N hd hu
  have hn3 : (n : Int) ≤ 1114111 := by omega
  show wpAny _ _ _ _ _ _
  k_fold
  k_steps
  walk_at "mine done"
  exact ⟨_, rfl⟩
end
-- part T11
local macro_rules | `(tactic| walk_at "compareOp NotEq str str") => `(tactic| (k_here; refine ne_by (by assumption) ?_))
local macro_rules | `(tactic| walk_at "mine size") => `(tactic| ((try rw [T_len]); rw [sizeLine_eq]; omega))
local macro_rules | `(tactic| walk_at "subscriptTail Name Slice str ref") => `(tactic| (k_here; (rename Fr _ _ _ _ => F'); (rename News _ _ _ _ => N'); (first
  | (refine slice_by_ns (s := ⟨_, _, _, _, _⟩) (by assumption) F' N' ?_ (by walk_at "mine size"))
  | (refine slice_by_sn (s := ⟨_, _, _, _, _⟩) (by assumption) F' N' ?_ (by walk_at "mine size"))
  | (refine slice_by_ss (s := ⟨_, _, _, _, _⟩) (by assumption) F' N' ?_ (by walk_at "mine size"))); intro h8 t8 k8 F8 N8; (try k_sweep); (try k_fold)))
local macro_rules | `(tactic| walk_at "binaryOp Add str str") => `(tactic| (k_here; (refine add_T (by (try simp only [List.length_append, List.length_cons, List.length_nil]); omega) ?_); intro tk8 tk8'; (try k_fold)))
section
theorem top_off_T11 : True := by
  w_top off
  exact True.intro
/-- an escape that can be put back -/
def Good (c : Nat) (e : List Nat) : Prop := (e = [c] ∧ c ≠ 60 ∧ c ≠ 38) ∨ ∃ nm, e = 38 :: (nm ++ [59]) ∧ 59 ∉ nm ∧ nm.length ≤ 5 ∧ ((nm.take 1 ≠ [35] ∧ predef nm = some [c]) ∨ ∃ d, nm = 35 :: d ∧ charOf d = some c)
theorem good_len {c : Nat} {e : List Nat} (h : Good c e) : 1 ≤ e.length ∧ e.length ≤ 7 := by
  rcases h with ⟨rfl, _⟩ | ⟨nm, rfl, _, h, _⟩
  · exact ⟨Nat.le_refl 1, by simp⟩
  · simp; omega
theorem ne_of_eq_s {x y : PySem.Str} {b : Bool} (h : (x == y) = b) : (x != y) = !b := by rw [bne, h]
theorem e_hash (l : List Nat) : (T l == PySem.Str.ofString "#") = decide (l = [35]) := T_beq _ _ _ (by decide +kernel)
theorem s_semi : PySem.Str.ofString ";" = ⟨#[59]⟩ := by decide +kernel
/-- where the next semicolon stands -/
theorem find_semi {a nm r : List Nat} (hn : 59 ∉ nm) : Txt.find3 (T (a ++ (38 :: (nm ++ [59])) ++ r)) (PySem.Str.ofString ";") (a.length : Int) = ((a.length + nm.length + 1 : Nat) : Int) := by
  rw [s_semi]
  have hw : a ++ (38 :: (nm ++ [59])) ++ r = a ++ ((38 :: nm) ++ (59 :: r)) := by simp
  rw [hw]
  generalize hq : a ++ ((38 :: nm) ++ (59 :: r)) = wr
  have hlen : wr.length = a.length + nm.length + 2 + r.length := by rw [← hq]; simp; omega
  have hfi : PySem.fromIndex (T wr).length (a.length : Int) = a.length := by
    unfold PySem.fromIndex
    have : ¬ ((a.length : Int) < 0) := by omega
    rw [if_neg this]
    omega
  have h59 : wr[a.length + nm.length + 1]? = some 59 := by
    rw [← hq, List.getElem?_append_right (by omega), List.getElem?_append_right (by simp; omega)]
    have : a.length + nm.length + 1 - a.length - (38 :: nm).length = 0 := by simp; omega
    rw [this]
    rfl
  have hno : ∀ v, a.length ≤ v → v < a.length + nm.length + 1 → wr[v]? ≠ some 59 := fun v h1 h2 e => by
    rw [← hq, List.getElem?_append_right h1, List.getElem?_append_left (by simp; omega)] at e
    have := List.mem_of_getElem? e
    rcases List.mem_cons.mp this with h | h
    · cases h
    · exact hn h
  have get : ∀ v c, v < wr.length → ((T wr).cps.getD v 0 = c ↔ wr[v]? = some c) := fun v c hv => by
    have : (T wr).cps.getD v 0 = wr[v] := by simp [T, Array.getD, hv]
    rw [this, List.getElem?_eq_getElem hv]
    simp
  rcases PySem.StrLaws.find3_spec (T wr) 59 (a.length : Int) with ⟨_, hn'⟩ | ⟨k, hk, h1, h2, h3, h4⟩
  · rw [hfi, T_len] at hn'
    exact absurd ((get _ 59 (by omega)).mpr h59) (hn' (a.length + nm.length + 1) (by omega) (by omega))
  · rw [hfi] at h1 h4
    rw [T_len] at h2
    rw [hk]
    have a1 := (get k 59 h2).mp h3
    have : ¬ k < a.length + nm.length + 1 := fun hlt => hno k h1 hlt a1
    have : ¬ a.length + nm.length + 1 < k := fun hlt => h4 _ (by omega) hlt ((get _ 59 (by omega)).mpr h59)
    have : k = a.length + nm.length + 1 := by omega
    rw [this]
theorem flat_len_mem {e : Nat → List Nat} {k : Nat} : ∀ {l : List Nat}, (∀ c ∈ l, (e c).length ≤ k) → (l.flatMap e).length ≤ l.length * k
  | [], _ => by simp
  | a :: r, h => by
    have h1 := flat_len_mem (l := r) fun c hc => h c (.tail _ hc)
    have h2 := h a (.head _)
    rw [List.flatMap_cons, List.length_append, List.length_cons, Nat.succ_mul]
    omega
theorem t_predef_some (w : World) (mean : ExcName → Option Value) (mg mb : Str → Option Value) (l k : List Nat) (t : Tok) (hp : predef l = some k) :
    Tell PySem.Challenge.rw_nu0055_01.row.toRowW.prog w (hd.heap_39 w.params) mean mg mb 106 1 [.str (T l) t] (fun r => ∃ t', r = .str (T k) t') :=
  tell_mono (t_predefined w mean mg mb l t) fun r h => by rw [hp] at h; exact h
local macro_rules | `(tactic| walk_at "exec While Compare cons nil") => `(tactic| refine halt ?_)
local macro_rules | `(tactic| walk_at "call ref") => `(tactic| (k_here; k_dflt (first | refine' tell_use (t_predef_some _ _ _ _ _ _ _ (by assumption)) ?k1 ?k2 ?k3 ?k4 ?k5 ?k6 ?k7 ?k8 ?_ | refine' tell_use (t_char_of1 _ _ _ _ _ _ _ (by assumption) (by assumption)) ?k1 ?k2 ?k3 ?k4 ?k5 ?k6 ?k7 ?k8 ?_); walk_at "mine called"))
theorem t_put_back (w : World) (mean : ExcName → Option Value) (mg mb : Str → Option Value) (l : List Nat) (e : Nat → List Nat) (t : Tok) (hl : l.length ≤ 100) (he : ∀ c ∈ l, Good c (e c)) :
    Tell PySem.Challenge.rw_nu0055_01.row.toRowW.prog w (hd.heap_39 w.params) mean mg mb 158 4 [.str (T (l.flatMap e)) t] (fun r => ∃ t', r = .str (T l) t') := by
  k_fill
  refine' tell_of_body [(Str.ofString "written", .str (T (l.flatMap e)) t)] ?ho ?hcd ?hb ?hl ?hco ?hg ?hk ?hc ?_
  walk_at "mine enter"
  intro dp un gd outer A₀ base g L news s B X TT F N hd hu
  show wpAny _ _ _ _ _ _
  k_fold
  k_steps
  rename Fr _ _ _ _ => F1
  rename News _ _ _ _ => N1
  refine unhalt (while_loop (fun (c : (List Nat × List Nat) × Tok × Tok) => [(Str.ofString "found", .str (T c.1.1) c.2.1), (Str.ofString "at", .int (c.1.1.flatMap e).length c.2.2)]) [Str.ofString "end", Str.ofString "told", Str.ofString "sign"] (fun c => l = c.1.1 ++ c.1.2) (fun c => c.1.2.length) (([], l), s.toks, s.toks + 1) F1 N1 ?_ rfl ?_ PassesOwn.never)
  · intro p hp
    simp only [List.mem_cons, List.not_mem_nil, or_false] at hp
    rcases hp with rfl | rfl
    · rw [← s_nil]; rfl
    · rfl
  have hW : (l.flatMap e).length ≤ 700 := Nat.le_trans (flat_len_mem (k := 7) fun c hc => (good_len (he c hc)).2) (by omega)
  rintro ⟨⟨pre, post⟩, tf, ta⟩ u h tk hlp F2 N2
  dsimp only at *
  cases post with
  | nil =>
    rw [List.append_nil] at hlp
    subst hlp
    show wpAny _ _ _ _ _ _
    k_fold
    k_steps
    walk_at "mine done"
    exact ⟨_, rfl⟩
  | cons c post =>
    have hce : Good c (e c) := he c (by rw [hlp]; simp)
    have hcl := good_len hce
    have hspl : l.flatMap e = pre.flatMap e ++ e c ++ post.flatMap e := by rw [hlp, List.flatMap_append, List.flatMap_cons, List.append_assoc]
    have hsnoc : (pre ++ [c]).flatMap e = pre.flatMap e ++ e c := by rw [List.flatMap_append]; simp
    have hpl : pre.length ≤ 100 := by
      have := congrArg List.length hlp
      rw [List.length_append] at this
      omega
    have hAl : (pre.flatMap e).length + 7 ≤ (l.flatMap e).length + 7 := by
      rw [hspl, List.length_append, List.length_append]; omega
    have hlt : (pre.flatMap e).length < (l.flatMap e).length := by
      rw [hspl, List.length_append, List.length_append]; omega
    rcases hce with ⟨hec, h60, h38⟩ | ⟨nm, hec, hnm, hnl, hkind⟩
    · have hit : (l.flatMap e)[(pre.flatMap e).length]? = some c := by
        rw [hspl, hec, List.getElem?_append_left (by simp), List.getElem?_append_right (Nat.le_refl _), Nat.sub_self]
        rfl
      have q1 : ((⟨#[c]⟩ : PySem.Str) == PySem.Str.ofString "<") = false := by rw [is_lt]; exact decide_eq_false h60
      have q2 : ((⟨#[c]⟩ : PySem.Str) != PySem.Str.ofString "&") = true := by rw [bne, is_amp, decide_eq_false h38]; rfl
      show wpAny _ _ _ _ _ _
      k_fold
      k_steps
      walk_at "mine tidy"
      refine' turn_end ((pre ++ [c], post), _, _) ?hF ?hN ?hs ?hk ?hr ⟨?_, ?_⟩
      case hF => k_asm
      case hN => k_asm
      case hs => kcj_all
      case hk =>
        intro p hp
        simp only [List.mem_cons, List.not_mem_nil, or_false] at hp
        rcases hp with rfl | rfl
        · rfl
        · show some (Value.int (((pre.flatMap e).length : Int) + 1) _) = _
          have hz : ((pre.flatMap e).length : Int) + 1 = (((pre ++ [c]).flatMap e).length : Int) := by rw [hsnoc, hec]; simp only [List.length_append, List.length_cons, List.length_nil]; omega
          exact congrArg (fun i : Int => some (Value.int i _)) hz
      case hr => walk_at "mine same"
      · rw [hlp]; simp
      · show post.length < (c :: post).length
        simp
    · have hit : (l.flatMap e)[(pre.flatMap e).length]? = some 38 := by
        rw [hspl, hec, List.getElem?_append_left (by simp), List.getElem?_append_right (Nat.le_refl _), Nat.sub_self]
        rfl
      have q1 : ((⟨#[38]⟩ : PySem.Str) == PySem.Str.ofString "<") = false := by rw [is_lt]; rfl
      have q2 : ((⟨#[38]⟩ : PySem.Str) != PySem.Str.ofString "&") = false := by rw [bne, is_amp]; rfl
      have q3 : Txt.find3 (T (l.flatMap e)) (PySem.Str.ofString ";") ((pre.flatMap e).length : Int) = (((pre.flatMap e).length + nm.length + 1 : Nat) : Int) := by
        rw [hspl, hec]; exact find_semi hnm
      have q4 : Txt.slice (T (l.flatMap e)) (some (((pre.flatMap e).length : Int) + 1)) (some (Txt.find3 (T (l.flatMap e)) (PySem.Str.ofString ";") ((pre.flatMap e).length : Int))) = T nm := by
        rw [q3]
        have h1 := slice_ab (l := l.flatMap e) (a := (pre.flatMap e).length + 1) (b := (pre.flatMap e).length + nm.length + 1) (by omega) (by rw [hspl, hec]; simp; omega)
        refine h1.trans (congrArg T ?_)
        have h2 : l.flatMap e = (pre.flatMap e ++ [38]) ++ (nm ++ ([59] ++ post.flatMap e)) := by rw [hspl, hec]; simp
        have h3 : (pre.flatMap e).length + 1 = (pre.flatMap e ++ [38]).length := by simp
        rw [h2, h3, List.drop_left]
        have h4 : (pre.flatMap e).length + nm.length + 1 - (pre.flatMap e ++ [38]).length = nm.length := by rw [List.length_append, List.length_singleton]; omega
        rw [h4, List.take_left]
      have q5 : Txt.slice (T nm) none (some 1) = T (nm.take 1) := slice_to (b := 1)
      rcases hkind with ⟨hh, hp⟩ | ⟨d, hd', hch⟩
      · have q6 : (T (nm.take 1) == PySem.Str.ofString "#") = false := by rw [e_hash]; exact decide_eq_false hh
        show wpAny _ _ _ _ _ _
        k_fold
        k_steps
        walk_at "mine tidy"
        refine' turn_end ((pre ++ [c], post), _, _) ?hF ?hN ?hs ?hk ?hr ⟨?_, ?_⟩
        case hF => k_asm
        case hN => k_asm
        case hs => kcj_all
        case hk =>
          intro p hp
          simp only [List.mem_cons, List.not_mem_nil, or_false] at hp
          rcases hp with rfl | rfl
          · rfl
          · show some (Value.int (Txt.find3 (T (l.flatMap e)) (PySem.Str.ofString ";") ((pre.flatMap e).length : Int) + 1) _) = _
            rw [q3]
            have hz : (((pre.flatMap e).length + nm.length + 1 : Nat) : Int) + 1 = (((pre ++ [c]).flatMap e).length : Int) := by rw [hsnoc, hec]; simp only [List.length_append, List.length_cons, List.length_nil]; omega
            exact congrArg (fun i : Int => some (Value.int i _)) hz
        case hr => walk_at "mine same"
        · rw [hlp]; simp
        · show post.length < (c :: post).length
          simp
      · have q6 : (T (nm.take 1) == PySem.Str.ofString "#") = true := by rw [e_hash, hd']; simp
        have q7 : Txt.slice (T nm) (some 1) none = T d := by rw [hd']; exact slice_from (a := 1) (by simp)
        have hdl : d.length ≤ 1000 := by rw [hd'] at hnl; simp at hnl; omega
        show wpAny _ _ _ _ _ _
        k_fold
        k_steps
        walk_at "mine tidy"
        refine' turn_end ((pre ++ [c], post), _, _) ?hF ?hN ?hs ?hk ?hr ⟨?_, ?_⟩
        case hF => k_asm
        case hN => k_asm
        case hs => kcj_all
        case hk =>
          intro p hp
          simp only [List.mem_cons, List.not_mem_nil, or_false] at hp
          rcases hp with rfl | rfl
          · rfl
          · show some (Value.int (Txt.find3 (T (l.flatMap e)) (PySem.Str.ofString ";") ((pre.flatMap e).length : Int) + 1) _) = _
            rw [q3]
            have hz : (((pre.flatMap e).length + nm.length + 1 : Nat) : Int) + 1 = (((pre ++ [c]).flatMap e).length : Int) := by rw [hsnoc, hec]; simp only [List.length_append, List.length_cons, List.length_nil]; omega
            exact congrArg (fun i : Int => some (Value.int i _)) hz
        case hr => walk_at "mine same"
        · rw [hlp]; simp
        · show post.length < (c :: post).length
          simp
end
-- part L4
section
/-- the law's source of draws: a list of two ints, the second below the modulus -/
def Src (o : Obj) : Prop := ∃ (p q : Int) (t u : Tok) (n : Nat), o = listOf #[.int p t, .int q u] n ∧ 0 ≤ p ∧ 0 ≤ q ∧ q < 2147483647
/-- what a call gives back that draws from the source at a -/
def TellM (prog : Program) (w : World) (K : Frag) (mean : ExcName → Option Value) (mg mb : Str → Option Value) (f : Addr) (d : Nat) (a : Addr) (need : List (Addr × Obj)) (vs : List Value) (Res : Value → Prop) : Prop :=
  ∀ (dp un : Nat) (gd : Option (List Code)) (cn : Str) (cs : Scope) (ac : Addr) (ccd : Value) (cl : List (Str × Addr)) (outer : List Env) (A₀ : Around) (base h₀ : Heap) (L : Addr) (m : Str → Option Value) (news : List (Addr × Obj)) (upd : Obj → List (Addr × Obj)) (o : Obj) (s : Shared)
    (Q E : Value → Shared → Prop),
    Below A₀ base outer h₀ → Fr h₀ L s.heap m → K.In h₀ → News h₀ L s.heap news → Top P0 Lo mean mg mb h₀ → cs.kind = .function → dp + d < recursionLimit → un + 20 * d < cLine → UpdF a o news upd → Src o → (∀ p ∈ need, p ∈ news) → (∀ p ∈ need, p.1 ≠ a) →
    (∀ r h' tk' o', Src o' → Res r → Fr h₀ L h' m → News h₀ L h' (upd o') → Q r { s with heap := h', toks := tk' }) →
    wpAny (model prog w) (ktrTop dp un gd cn cs L ac ccd cl outer) (call (.ref f) vs) Q E s
def DoneM (g : Heap) (L a : Addr) (rest : List (Addr × Obj)) (Res : Value → Prop) (s : Shared) (fl : Flow) (s' : Shared) : Prop :=
  ∃ h' tk' m' o', s' = { s with heap := h', toks := tk' } ∧ Fr g L h' m' ∧ News g L h' ((a, o') :: rest) ∧ Src o' ∧ Res (match fl with | .ret v => v | _ => .none)
section
variable {prog : Program} {w : World} {K : Frag} {mean : ExcName → Option Value} {mg mb : Str → Option Value} {f a : Addr} {d : Nat} {need : List (Addr × Obj)} {vs : List Value} {Res : Value → Prop}
theorem tellM_use {dp un : Nat} {gd : Option (List Code)} {cn : Str} {cs : Scope} {ac : Addr} {ccd : Value} {cl : List (Str × Addr)} {outer : List Env} {A₀ : Around} {base h₀ : Heap} {L : Addr} {m : Str → Option Value} {news : List (Addr × Obj)} {upd : Obj → List (Addr × Obj)} {o : Obj} {s : Shared}
    {Q E : Value → Shared → Prop} (C : TellM prog w K mean mg mb f d a need vs Res) (B : Below A₀ base outer h₀) (F : Fr h₀ L s.heap m) (X : K.In h₀) (N : News h₀ L s.heap news) (T : Top P0 Lo mean mg mb h₀) (hk : cs.kind = .function)
    (hd : dp + d < recursionLimit) (hu : un + 20 * d < cLine) (U : UpdF a o news upd) (S : Src o) (hn1 : ∀ p ∈ need, p ∈ news) (hn2 : ∀ p ∈ need, p.1 ≠ a)
    (ret : ∀ r h' tk' o', Src o' → Res r → Fr h₀ L h' m → News h₀ L h' (upd o') → Q r { s with heap := h', toks := tk' }) :
    wpAny (model prog w) (ktrTop dp un gd cn cs L ac ccd cl outer) (call (.ref f) vs) Q E s := C _ _ _ _ _ _ _ _ _ _ _ _ _ _ _ _ _ _ _ _ B F X N T hk hd hu U S hn1 hn2 ret
theorem doneM_of {g : Heap} {L : Addr} {rest news' : List (Addr × Obj)} {o' : Obj} {s : Shared} {h' : Heap} {tk' : Nat} {m' : Str → Option Value} {fl : Flow} (F : Fr g L h' m') (N : News g L h' news') (hs : ∀ p ∈ (a, o') :: rest, p ∈ news') (S : Src o') (hr : Res (match fl with | .ret v => v | _ => .none)) :
    DoneM g L a rest Res s fl { s with heap := h', toks := tk' } := ⟨h', tk', m', o', rfl, F, fun p hp => N p (hs p hp), S, hr⟩
theorem src_of {p q : Int} {t u : Tok} {n : Nat} (hp : 0 ≤ p) (hq : 0 ≤ q) (hq2 : q < 2147483647) : Src (listOf #[.int p t, .int q u] n) := ⟨p, q, t, u, n, rfl, hp, hq, hq2⟩
theorem tellM_of_body {name qual : Str} {params : Arguments} {body : List Stmt} {scope : Scope} {dV kV doc pm cdv ct oc : Value} {an od : Option Addr} {osl : Array (Option Value)} (binds : List (Str × Value))
    (ho : K.lookup f = some ⟨oc, od, .func (fnOf name qual params body scope dV kV doc pm an cdv ct), osl⟩) (hcd : codeIn K cdv qual = true)
    (hbind : ∀ s : Shared, K.In s.heap → BindsTo s (fnOf name qual params body scope dV kV doc pm an cdv ct) ⟨vs, []⟩ binds) (hloc : ∀ y ∈ binds, scope.names.lookup y.1 = some .local)
    (hco : scope.isCoroutine = false) (hgen : scope.isGenerator = false) (hk : scope.kind = .function) (hcell : ∀ x ∈ scope.names, x.2 ≠ .cell)
    (h : ∀ (dp un : Nat) (gd : Option (List Code)) (outer : List Env) (A₀ : Around) (base g : Heap) (L : Addr) (rest : List (Addr × Obj)) (o : Obj) (s : Shared), Below A₀ base outer g → K.In g → Top P0 Lo mean mg mb g → Fr g L s.heap (fun y => binds.reverse.lookup y) → News g L s.heap ((a, o) :: rest) → (∀ p ∈ rest, p.1 ≠ a) → (∀ p ∈ need, p ∈ rest) → Src o →
      dp + d < recursionLimit → un + 20 * d + 10 < cLine →
      wpAny (model prog w) (ktrTop dp un gd qual scope L f cdv [] outer) (execs body (envX qual scope L f cdv [])) (DoneM g L a rest Res s) (fun _ _ => False) s) :
    TellM prog w K mean mg mb f (d + 1) a need vs Res := by
  intro dp un gd cn cs ac ccd cl outer A₀ base h₀ L m news upd o s Q E B F X N T hck hd hu U S hn1 hn2 hret
  obtain ⟨pre, post, e1, e2, n1, n2⟩ := U.split
  have N0 : News h₀ L s.heap ((a, o) :: (pre ++ post)) := fun p hp => N p (by
    rw [e1]
    rcases List.mem_cons.mp hp with rfl | hp
    · simp
    · rcases List.mem_append.mp hp with h | h
      · exact List.mem_append_left _ h
      · exact List.mem_append_right _ (.tail _ h))
  refine wpAny_call ?_
  refine code_def (K := K) (env := envX cn cs L ac ccd cl) (outer := outer) B F X N0 T rfl rfl hck ho hcd (by show dp < recursionLimit; omega) (hbind s (X.keeps F.keep)) hloc ?_ hco hgen hk hcell
  intro g L' h₁ FG F' N' B' X' T'
  have z := h (dp + 1) (un + 3) gd (envX cn cs L ac ccd cl :: outer) _ base g L' (pre ++ post) o { s with heap := h₁, toks := s.toks + binds.length } B' X' T' F' N' (fun p hp => (List.mem_append.mp hp).elim (n1 p) (n2 p)) (fun p hp => by
    have h1 := hn1 p hp
    rw [e1] at h1
    rcases List.mem_append.mp h1 with h | h
    · exact List.mem_append_left _ h
    · rcases List.mem_cons.mp h with rfl | h
      · exact absurd rfl (hn2 _ hp)
      · exact List.mem_append_right _ h) S (by omega) (by omega)
  refine wpAny_mono z (fun fl s' hl => ?_) fun _ _ y => y.elim
  obtain ⟨h', tk', m', o', rfl, F₂, N₂, S', hr⟩ := hl
  refine ⟨L', m', (a, o') :: (pre ++ post), F₂, N₂, fun F₃ N₃ => hret _ h' tk' o' S' hr F₃ fun p hp => N₃ p ?_⟩
  rw [e2] at hp
  rcases List.mem_append.mp hp with h | h
  · exact .tail _ (List.mem_append_left _ h)
  · rcases List.mem_cons.mp h with rfl | h
    · exact .head _
    · exact .tail _ (List.mem_append_right _ h)
end
section
variable {prog : Program} {w : World} {A : Around} {E : Value → Shared → Prop} {s : Shared} {h₀ : Heap} {L : Addr} {t u : Tok} {a b : Int} {Q : Value → Shared → Prop}
theorem div_sm (hb : 0 < b) (hb2 : b < 1073741824) (h : ∀ tk tk', Q (.int (a.fdiv b) tk) { s with toks := tk' }) : wpAny (model prog w) A (binaryOp .FloorDiv (.int a t) (.int b u)) Q E s :=
  floordiv_int (by omega) (h _ _) (.inl (PyProof.noPylong_small (by omega)))
theorem mod_sm (hb : 0 < b) (h : ∀ tk tk', Q (.int (a.fmod b) tk) { s with toks := tk' }) : wpAny (model prog w) A (binaryOp .Mod (.int a t) (.int b u)) Q E s :=
  mod_int' (by omega) (h _ _)
theorem src_item {value slice : PySem.Expr} {x : Addr} {v : Value} {its : Array Value} {n : Nat} {i : Int} {news : List (Addr × Obj)} (N : News h₀ L s.heap news) (hm : (x, listOf its n) ∈ news) (h0 : 0 ≤ i) (h1 : i < 2 ^ 63) (hx : its[i.toNat]? = some v) (h : Q v s)
    (hs : subscripted slice false (.ref x) (.int i u) = operate [.ref x, .int i u] (getItem (.ref x) (.int i u)) := by with_unfolding_all rfl) :
    wpAny (model prog w) A (subscriptTail value slice (.ref x) (.int i u)) Q E s := by
  have hl : s.heap.IsList x its := ⟨_, (N _ hm).1, rfl, n, rfl⟩
  exact tail_any hl.typeIs PySem.F.slot_list_getitem.lookup (wpAny_getItem_list hl h0 h1 hx h) hs
theorem src_item0 {value slice : PySem.Expr} {x : Addr} {v y : Value} {n : Nat} {news : List (Addr × Obj)} (N : News h₀ L s.heap news) (hm : (x, listOf #[v, y] n) ∈ news) (h : Q v s)
    (hs : subscripted slice false (.ref x) (.int 0 u) = operate [.ref x, .int 0 u] (getItem (.ref x) (.int 0 u)) := by with_unfolding_all rfl) :
    wpAny (model prog w) A (subscriptTail value slice (.ref x) (.int 0 u)) Q E s := src_item N hm (by decide) (by decide) rfl h hs
theorem src_item1 {value slice : PySem.Expr} {x : Addr} {v y : Value} {n : Nat} {news : List (Addr × Obj)} (N : News h₀ L s.heap news) (hm : (x, listOf #[v, y] n) ∈ news) (h : Q y s)
    (hs : subscripted slice false (.ref x) (.int 1 u) = operate [.ref x, .int 1 u] (getItem (.ref x) (.int 1 u)) := by with_unfolding_all rfl) :
    wpAny (model prog w) A (subscriptTail value slice (.ref x) (.int 1 u)) Q E s := src_item N hm (by decide) (by decide) rfl h hs
theorem src_set0 {x : Addr} {m : Str → Option Value} {v y v' : Value} {n : Nat} {news news' : List (Addr × Obj)} {Q : Unit → Shared → Prop} (F : Fr h₀ L s.heap m) (N : News h₀ L s.heap news) (U : Upd x (listOf #[v, y] n) (listOf #[v', y] n) news news')
    (h : ∀ h', Fr h₀ L h' m → News h₀ L h' news' → Q () { s with heap := h' }) : wpAny (model prog w) A (setItem (.ref x) (.int 0 u) v') Q E s :=
  ki_set (its := #[v, y]) (q := [v', y]) F N (by decide) (by decide) rfl U h
theorem src_set1 {x : Addr} {m : Str → Option Value} {v y v' : Value} {n : Nat} {news news' : List (Addr × Obj)} {Q : Unit → Shared → Prop} (F : Fr h₀ L s.heap m) (N : News h₀ L s.heap news) (U : Upd x (listOf #[v, y] n) (listOf #[v, v'] n) news news')
    (h : ∀ h', Fr h₀ L h' m → News h₀ L h' news' → Q () { s with heap := h' }) : wpAny (model prog w) A (setItem (.ref x) (.int 1 u) v') Q E s :=
  ki_set (its := #[v, y]) (q := [v, v']) F N (by decide) (by decide) rfl U h
theorem list_item {value slice : PySem.Expr} {x : Addr} {its : Array Value} {n k : Nat} {news : List (Addr × Obj)} (N : News h₀ L s.heap news) (hm : (x, listOf its n) ∈ news) (hk : (k : Int) < (its.size : Int)) (hsz : its.size < 2 ^ 24) (h : ∀ v, its[k]? = some v → Q v s)
    (hs : subscripted slice false (.ref x) (.int (k : Int) u) = operate [.ref x, .int (k : Int) u] (getItem (.ref x) (.int (k : Int) u)) := by with_unfolding_all rfl) :
    wpAny (model prog w) A (subscriptTail value slice (.ref x) (.int (k : Int) u)) Q E s := by
  have hk' : k < its.size := by omega
  have hx : its[k]? = some its[k] := Array.getElem?_eq_getElem hk'
  exact src_item N hm (by omega) (by omega) (by rw [Int.toNat_natCast]; exact hx) (h _ hx) hs
end
section
variable {prog : Program} {w : World} {A : Around} {E : Value → Shared → Prop} {s : Shared} {t u : Tok} {Q : Value → Shared → Prop}
theorem mod_nn {a b : Nat} (hb : 0 < b) (h : ∀ tk tk', Q (.int ((a % b : Nat) : Int) tk) { s with toks := tk' }) : wpAny (model prog w) A (binaryOp .Mod (.int (a : Int) t) (.int (b : Int) u)) Q E s := by
  refine mod_sm (by omega) fun tk tk' => ?_
  have e : (a : Int).fmod (b : Int) = ((a % b : Nat) : Int) := by
    rw [Int.fmod_eq_emod_of_nonneg _ (by omega)]
    rfl
  rw [e]
  exact h tk tk'
theorem div_nn {a b : Nat} (hb : 0 < b) (hb2 : b < 1073741824) (h : ∀ tk tk', Q (.int ((a / b : Nat) : Int) tk) { s with toks := tk' }) : wpAny (model prog w) A (binaryOp .FloorDiv (.int (a : Int) t) (.int (b : Int) u)) Q E s := by
  refine div_sm (by omega) (by omega) fun tk tk' => ?_
  have e : (a : Int).fdiv (b : Int) = ((a / b : Nat) : Int) := by
    rw [Int.fdiv_eq_ediv_of_nonneg _ (by omega)]
    rfl
  rw [e]
  exact h tk tk'
end
end
-- part T12
local macro_rules | `(tactic| k_all) => `(tactic| assumption)
local macro_rules | `(tactic| walk_at "binaryOp FloorDiv int int") => `(tactic| (k_here; (refine div_sm (by omega) (by omega) ?_); intro tk8 tk8'; (try k_fold)))
local macro_rules | `(tactic| walk_at "binaryOp Mod int int") => `(tactic| (k_here; (refine mod_sm (by omega) ?_); intro tk8 tk8'; (try k_fold)))
local macro_rules | `(tactic| walk_at "subscriptTail Name Constant ref int") => `(tactic| (k_here; first | ((with_reducible show wpAny _ _ (subscriptTail _ _ (Value.ref _) (Value.int 0 _)) _ _ _); k_dflt (refine' src_item0 ?N ?m ?_ ?s; (case N => k_asm); (case m => k_mem); (case s => with_unfolding_all rfl); k_whole)) | ((with_reducible show wpAny _ _ (subscriptTail _ _ (Value.ref _) (Value.int 1 _)) _ _ _); k_dflt (refine' src_item1 ?N ?m ?_ ?s; (case N => k_asm); (case m => k_mem); (case s => with_unfolding_all rfl); k_whole))))
local macro_rules | `(tactic| walk_at "setItem ref int") => `(tactic| (k_here; (first
  | ((with_reducible show wpAny _ _ (PySem.setItem (Value.ref _) (Value.int 0 _) _) _ _ _); k_dflt (refine' src_set0 ?F ?N ?U ?_; (case F => k_asm); (case N => k_asm); (case U => k_upd); k_whole))
  | ((with_reducible show wpAny _ _ (PySem.setItem (Value.ref _) (Value.int 1 _) _) _ _ _); k_dflt (refine' src_set1 ?F ?N ?U ?_; (case F => k_asm); (case N => k_asm); (case U => k_upd); k_whole))); intro h8 F8 N8; (try k_sweep); (try k_fold)))
section
theorem top_off_T12 : True := by
  w_top off
  exact True.intro
local macro_rules | `(tactic| walk_at "mine calledM") => `(tactic| (
  (case k1 => k_asm); (case k2 => k_asm); (case k3 => k_asm); (case k4 => k_asm); (case k5 => k_asm); (case k6 => exact rfl); (case k7 => omega); (case k8 => omega); (case k9 => k_updF); (case k10 => first | assumption | exact src_of (by assumption) (by assumption) (by assumption)); (case k11 => kcj_all); (case k12 => k_all);
  intro r9 h9 tk9 o9 S9 R9 F9 N9; (try dsimp only at N9); (try k_sweep); (try k_fold)))
theorem fmod_nat (a : Int) {b : Int} (hb : 0 < b) : ∃ k : Nat, a.fmod b = k ∧ (k : Int) < b := by
  have h1 := Int.fmod_nonneg_of_pos a hb
  have h2 := Int.fmod_lt_of_pos a hb
  exact ⟨(a.fmod b).toNat, by omega, by omega⟩
theorem fdiv_nonneg {a b : Int} (ha : 0 ≤ a) (hb : 0 < b) : 0 ≤ a.fdiv b := Int.fdiv_nonneg ha (by omega)
theorem t_take (w : World) (mean : ExcName → Option Value) (mg mb : Str → Option Value) (a : Addr) (top : Int) (t : Tok) (h0 : 0 < top) (h1 : top < 1000000000) :
    TellM PySem.Challenge.rw_nu0055_01.row.toRowW.prog w (hd.heap_39 w.params) mean mg mb 144 1 a [] [.ref a, .int top t] (fun r => ∃ (k : Nat) (t' : Tok), (k : Int) < top ∧ r = .int k t') := by
  k_fill
  refine' tellM_of_body [(Str.ofString "source", .ref a), (Str.ofString "top", .int top t)] ?ho ?hcd ?hb ?hl ?hco ?hg ?hk ?hc ?_
  walk_at "mine enter"
  intro dp un gd outer A₀ base g L rest o s B X TT F N hrest hneed hsrc hd hu
  obtain ⟨p, q, tp, tq, n, rfl, hp, hq, hq2⟩ := hsrc
  show wpAny _ _ _ _ _ _
  k_fold
  k_steps
  · walk_at "mine tidy"
    obtain ⟨k, hk1, hk2⟩ := fmod_nat p h0
    rw [hk1]
    exact doneM_of (by k_asm) (by k_asm) (fun p hp => hp) (src_of (fdiv_nonneg hp h0) hq hq2) ⟨k, _, hk2, rfl⟩
  · walk_at "mine tidy"
    have hz := Int.fmod_nonneg_of_pos (q * 39373 + 7) (b := 2147483647) (by decide)
    have hz2 := Int.fmod_lt_of_pos (q * 39373 + 7) (b := 2147483647) (by decide)
    obtain ⟨k, hk1, hk2⟩ := fmod_nat ((((q * 39373 + 7).fmod 2147483647 * (q * 39373 + 7).fmod 2147483647).fmod 2147483629).fdiv 32) h0
    rw [hk1]
    exact doneM_of (by k_asm) (by k_asm) (fun p hp => hp) (src_of hp hz hz2) ⟨k, _, hk2, rfl⟩
end
-- part T13
local macro_rules | `(tactic| walk_at "mine calledM") => `(tactic| (
  (case k1 => k_asm); (case k2 => k_asm); (case k3 => k_asm); (case k4 => k_asm); (case k5 => k_asm); (case k6 => exact rfl); (case k7 => omega); (case k8 => omega); (case k9 => k_updF); (case k10 => first | assumption | exact src_of (by assumption) (by assumption) (by assumption)); (case k11 => kcj_all); (case k12 => k_all)))
section
theorem top_off_T13 : True := by
  w_top off
  exact True.intro
local macro_rules | `(tactic| walk_at "subscriptTail Name Call ref int") => `(tactic| (k_here; k_dflt (refine' list_item ?N ?m ?k ?z ?_ ?s; (case N => k_asm); (case m => k_mem); (case k => omega); (case z => omega); (case s => with_unfolding_all rfl)); intro v8 hv8; (try k_fold)))
local macro_rules | `(tactic| walk_at "call ref") => `(tactic| (k_here; k_dflt (refine' tellM_use (t_take _ _ _ _ _ _ _ (by omega) (by omega)) ?k1 ?k2 ?k3 ?k4 ?k5 ?k6 ?k7 ?k8 ?k9 ?k10 ?k11 ?k12 ?_); walk_at "mine calledM"; intro r9 h9 tk9 o9 S9 R9 F9 N9; obtain ⟨k9, t9, hk9, e9⟩ := R9; subst e9; (try dsimp only at N9); (try dsimp only); (try k_sweep); (try k_fold)))
theorem t_one (w : World) (mean : ExcName → Option Value) (mg mb : Str → Option Value) (a b : Addr) (its : Array Value) (n : Nat) (h0 : 0 < its.size) (h1 : its.size < 1000000) (hab : b ≠ a) :
    TellM PySem.Challenge.rw_nu0055_01.row.toRowW.prog w (hd.heap_39 w.params) mean mg mb 151 2 a [(b, listOf its n)] [.ref a, .ref b] (fun r => ∃ k : Nat, its[k]? = some r) := by
  k_fill
  refine' tellM_of_body [(Str.ofString "source", .ref a), (Str.ofString "things", .ref b)] ?ho ?hcd ?hb ?hl ?hco ?hg ?hk ?hc ?_
  walk_at "mine enter"
  intro dp un gd outer A₀ base g L rest o s B X TT F N hrest hneed hsrc hd hu
  have N : News g L s.heap ((a, o) :: (b, listOf its n) :: rest) := fun p hp => by
    rcases List.mem_cons.mp hp with rfl | hp
    · exact N _ (.head _)
    · rcases List.mem_cons.mp hp with rfl | hp
      · exact N _ (.tail _ (hneed _ (.head _)))
      · exact N _ (.tail _ hp)
  show wpAny _ _ _ _ _ _
  k_fold
  k_steps
  exact doneM_of (by k_asm) (by k_asm) (by kcj_all) (by assumption) ⟨_, by assumption⟩
end
-- part T14
section
theorem top_off_T14 : True := by
  w_top off
  exact True.intro
/-- is it the sign of a document, as the law tells it -/
def lawSign (c : Int) : Bool := decide (c = 9 ∨ c = 10 ∨ c = 13 ∨ 32 ≤ c ∧ c < 55296 ∨ 57344 ≤ c ∧ c < 65534 ∨ 65536 ≤ c ∧ c < 1114112)
theorem t_is_sign (w : World) (mean : ExcName → Option Value) (mg mb : Str → Option Value) (c : Int) (t : Tok) :
    Tell PySem.Challenge.rw_nu0055_01.row.toRowW.prog w (hd.heap_39 w.params) mean mg mb 165 1 [.int c t] (fun r => r = .bool (lawSign c)) := by
  k_fill
  refine' tell_of_body [(Str.ofString "code", .int c t)] ?ho ?hcd ?hb ?hl ?hco ?hg ?hk ?hc ?_
  walk_at "mine enter"
  intro dp un gd outer A₀ base g L news s B X TT F N hd hu
  show wpAny _ _ _ _ _ _
  k_fold
  k_steps
  all_goals walk_at "mine done"
  all_goals refine congrArg Value.bool ?_
  · rw [lawSign, Bool.eq_iff_iff, decide_eq_true_iff]
    simp only [List.any_cons, List.any_nil, Bool.or_false, Bool.or_eq_true, beq_iff_eq]
    omega
  all_goals rw [lawSign, decide_eq_decide]
  all_goals omega
end
-- part T15
section
theorem top_off_T15 : True := by
  w_top off
  exact True.intro
/-- the digits of a number -/
def dig (d : Nat) : Nat := if d < 10 then 48 + d else 87 + d
def digs (b : Nat) (n : Nat) : List Nat := if h : n < b ∨ b < 2 then [dig (n % b)] else digs b (n / b) ++ [dig (n % b)]
termination_by n
decreasing_by
  have h1 : b ≤ n := by omega
  exact Nat.div_lt_self (by omega) (by omega)
theorem digs_lt {b n : Nat} (h : n < b) : digs b n = [dig (n % b)] := by rw [digs, dif_pos (.inl h)]
theorem digs_ge {b n : Nat} (hb : 2 ≤ b) (h : b ≤ n) : digs b n = digs b (n / b) ++ [dig (n % b)] := by rw [digs, dif_neg (by omega)]
theorem dig_at : ∀ d, d < 16 → ([48,49,50,51,52,53,54,55,56,57,97,98,99,100,101,102] : List Nat)[d]? = some (dig d) := by decide
theorem s_hex : PySem.Str.ofString "0123456789abcdef" = T [48,49,50,51,52,53,54,55,56,57,97,98,99,100,101,102] := by decide +kernel
theorem charAt_hex : ∀ d : Nat, d < 16 → (Txt.charAt (Str.ofString "0123456789abcdef") (d : Int)).getD 0 = dig d := by decide +kernel
theorem digs_len {b : Nat} (hb : 2 ≤ b) : ∀ (j n : Nat), n < 2 ^ j → (digs b n).length ≤ j + 1
  | 0, n, h => by
    have : n = 0 := by simpa using h
    subst this
    rw [digs_lt (by omega)]
    simp
  | j + 1, n, h => by
    by_cases q : n < b
    · rw [digs_lt q]; simp
    · rw [digs_ge hb (by omega), List.length_append, List.length_singleton]
      have h1 : n / b ≤ n / 2 := Nat.div_le_div_left hb (by decide)
      have h2 : n / 2 < 2 ^ j := by rw [Nat.pow_succ] at h; omega
      have := digs_len hb j (n / b) (by omega)
      omega
/-- between the turns: what is still to be told, and what is told -/
def DigInv (b n k : Nat) (ds : List Nat) : Prop := (ds = [] ∧ k = n) ∨ (ds ≠ [] ∧ ((k = 0 ∧ ds = digs b n) ∨ (0 < k ∧ digs b k ++ ds = digs b n)))
theorem digInv_full {b n k : Nat} {ds : List Nat} (h : DigInv b n k ds) (go : 0 < k ∨ ds = []) : digs b k ++ ds = digs b n := by
  rcases h with ⟨rfl, rfl⟩ | ⟨h1, ⟨rfl, _⟩ | ⟨_, h3⟩⟩
  · simp
  · rcases go with h | h
    · omega
    · exact absurd h h1
  · exact h3
theorem digInv_step {b n k : Nat} {ds : List Nat} (hb : 2 ≤ b) (h : DigInv b n k ds) (go : 0 < k ∨ ds = []) : DigInv b n (k / b) (dig (k % b) :: ds) := by
  have e := digInv_full h go
  refine .inr ⟨by simp, ?_⟩
  by_cases q : k < b
  · left
    refine ⟨Nat.div_eq_of_lt q, ?_⟩
    rw [← e, digs_lt q]
    rfl
  · right
    refine ⟨Nat.div_pos (by omega) (by omega), ?_⟩
    have e2 := digs_ge hb (n := k) (by omega)
    rw [← e, e2]
    simp
theorem digInv_end {b n k : Nat} {ds : List Nat} (h : DigInv b n k ds) (hk : k = 0) (hd : ds ≠ []) : ds = digs b n := by
  rcases h with ⟨rfl, rfl⟩ | ⟨h1, ⟨_, h2⟩ | ⟨h3, _⟩⟩
  · exact absurd rfl hd
  · exact h2
  · omega
theorem digInv_len {b n k : Nat} {ds : List Nat} (hb : 2 ≤ b) (hn : n < 2 ^ 41) (h : DigInv b n k ds) : ds.length ≤ 42 := by
  have hl := digs_len hb 41 n hn
  rcases h with ⟨rfl, _⟩ | ⟨_, ⟨_, h2⟩ | ⟨_, h2⟩⟩
  · simp
  · rw [h2]; exact hl
  · rw [← h2, List.length_append] at hl; omega
local macro_rules | `(tactic| walk_at "exec While BoolOp cons nil") => `(tactic| refine halt ?_)
local macro_rules | `(tactic| walk_at "binaryOp Mod int int") => `(tactic| (k_here; (with_reducible show wpAny _ _ (binaryOp _ (Value.int (Nat.cast _) _) (Value.int (Nat.cast _) _)) _ _ _); (refine mod_nn (by omega) ?_); intro tk8 tk8'; (try k_fold)))
local macro_rules | `(tactic| walk_at "binaryOp FloorDiv int int") => `(tactic| (k_here; (with_reducible show wpAny _ _ (binaryOp _ (Value.int (Nat.cast _) _) (Value.int (Nat.cast _) _)) _ _ _); (refine div_nn (by omega) (by omega) ?_); intro tk8 tk8'; (try k_fold)))
theorem t_digits (w : World) (mean : ExcName → Option Value) (mg mb : Str → Option Value) (n b : Nat) (t u : Tok) (hn : n < 2 ^ 41) (hb : 2 ≤ b) (hb2 : b ≤ 16) :
    Tell PySem.Challenge.rw_nu0055_01.row.toRowW.prog w (hd.heap_39 w.params) mean mg mb 179 1 [.int n t, .int b u] (fun r => ∃ t', r = .str (T (digs b n)) t') := by
  k_fill
  refine' tell_of_body [(Str.ofString "number", .int n t), (Str.ofString "base", .int b u)] ?ho ?hcd ?hb ?hl ?hco ?hg ?hk ?hc ?_
  walk_at "mine enter"
  intro dp un gd outer A₀ base g L news s B X TT F N hd hu
  show wpAny _ _ _ _ _ _
  k_fold
  k_steps
  rename Fr _ _ _ _ => F1
  rename News _ _ _ _ => N1
  refine unhalt (while_loop (fun (c : (Nat × List Nat) × Tok × Tok) => [(Str.ofString "number", .int c.1.1 c.2.1), (Str.ofString "digits", .str (T c.1.2) c.2.2)]) [] (fun c => DigInv b n c.1.1 c.1.2) (fun c => c.1.1 + (if c.1.2 = [] then 1 else 0)) ((n, []), t, s.toks) F1 N1 ?_ (.inl ⟨rfl, rfl⟩) ?_ PassesOwn.never)
  · intro p hp
    simp only [List.mem_cons, List.not_mem_nil, or_false] at hp
    rcases hp with rfl | rfl
    · rfl
    · rw [← s_nil]; rfl
  rintro ⟨⟨k, ds⟩, tk', td⟩ u' h tk hinv F2 N2
  dsimp only at *
  have hlen := digInv_len hb hn hinv
  have hmod : k % b < b := Nat.mod_lt _ (by omega)
  show wpAny _ _ _ _ _ _
  k_fold
  k_steps
  · have hk0 : 0 < k := by omega
    walk_at "mine tidy"
    refine' turn_end ((k / b, dig (k % b) :: ds), _, _) ?hF ?hN ?hs ?hk ?hr ⟨?_, ?_⟩
    case hF => k_asm
    case hN => k_asm
    case hs => exact fun _ h => h
    case hk =>
      intro p hp
      simp only [List.mem_cons, List.not_mem_nil, or_false] at hp
      rcases hp with rfl | rfl
      · rfl
      · show some (Value.str (T ([(Txt.charAt (Str.ofString "0123456789abcdef") ((k % b : Nat) : Int)).getD 0] ++ ds)) _) = some (Value.str (T (dig (k % b) :: ds)) _)
        rw [charAt_hex _ (by omega)]
        rfl
    case hr => walk_at "mine same"
    · exact digInv_step hb hinv (.inl hk0)
    · have := Nat.div_lt_self hk0 (k := b) (by omega)
      show k / b + (if dig (k % b) :: ds = [] then 1 else 0) < _
      rw [if_neg (by simp)]
      omega
  · have hds : ds = [] := by
      rename (_ == _) = true => hq
      rw [is_empty] at hq
      exact of_decide_eq_true hq
    have hk0 : k = 0 := by omega
    walk_at "mine tidy"
    refine' turn_end ((k / b, dig (k % b) :: ds), _, _) ?hF ?hN ?hs ?hk ?hr ⟨?_, ?_⟩
    case hF => k_asm
    case hN => k_asm
    case hs => exact fun _ h => h
    case hk =>
      intro p hp
      simp only [List.mem_cons, List.not_mem_nil, or_false] at hp
      rcases hp with rfl | rfl
      · rfl
      · show some (Value.str (T ([(Txt.charAt (Str.ofString "0123456789abcdef") ((k % b : Nat) : Int)).getD 0] ++ ds)) _) = some (Value.str (T (dig (k % b) :: ds)) _)
        rw [charAt_hex _ (by omega)]
        rfl
    case hr => walk_at "mine same"
    · exact digInv_step hb hinv (.inr hds)
    · show k / b + (if dig (k % b) :: ds = [] then 1 else 0) < k + (if ds = [] then 1 else 0)
      rw [if_neg (by simp), if_pos hds, hk0, Nat.zero_div]
      omega
  · have hds : ds ≠ [] := by
      rename (_ == _) = false => hq
      rw [is_empty] at hq
      exact of_decide_eq_false hq
    walk_at "mine done"
    rw [digInv_end hinv (by omega) hds]
    exact ⟨_, rfl⟩
end
-- part E1
section
/-! an own exception class that has an __init__ of its own, above other own classes -/
section
variable {prog : Program} {w : World} {A : Around} {R : Result → Shared → Prop} {h : Heap} {g : Array GenState} {d : Drawn} {t : Nat} {os : OsState}
variable {nm q : Str} {C N : Addr} {bs bm : List Value} {hdct : Bool} {sn : List Str} {sub : List Value} {ab : Bool} {col : Option Bool} {dd : Option Addr} {k0 k1 k2 k3 k5 : Option Value}
/-- the new object of an exception class, as its __new__ leaves it -/
abbrev excNew (C t : Addr) : Obj := { cls := .ref C, data := .fields #[.ref t, .none, .none, .none, .bool false, .none] }
abbrev tupNew (vs : List Value) : Obj := { cls := .type "tuple", data := .seq vs.toArray }
theorem own_new {rest : List Value} (hC : h.get? C = some (excClassObj nm q C N bs bm hdct sn sub ab col dd k0 k1 k2 k3 k5 "Exception.__new__"))
    (h1 : bm.contains (.type "Exception") = true) (h2 : bm.contains (.type "AttributeError") = false) (h3 : bm.contains (.type "NameError") = false)
    (hq : R (.ok (.ret (.ref (h.objs.size + 1)))) ⟨(h.push (tupNew rest)).push (excNew C h.objs.size), g, d, t, os⟩) (hrest : rest.length ≤ sizeLine) :
    codeAny (model prog w) A (.builtin "Exception.__new__" ⟨.ref C :: rest, []⟩) R ⟨h, g, d, t, os⟩ := by
  have F := PySem.F.excBase_Exception
  have e0 := F.ends
  have e1 : (Value.ref C :: bm).contains (.type "Exception") = true := by rw [List.contains_cons, h1, Bool.or_true]
  have e2 : (Value.ref C :: bm).contains (.type "AttributeError") = false := by rw [List.contains_cons, h2]; rfl
  have e3 : (Value.ref C :: bm).contains (.type "NameError") = false := by rw [List.contains_cons, h3]; rfl
  refine codeAny_builtinAt F.entry ?_
  unfold Builtin.«BaseException.__new__»
  refine PySem.wpAt_bind ?_
  show PySem.wpAt _ _ _ (stack >>= _) _ _ _
  refine PySem.wpAt_bind (PySem.wpAt_stack fun p below => PySem.wpAt_of_wpAny ?_)
  wp_walk
  refine PySem.wpAt_of_wpAny ?_
  rw [F.owner]
  repeat (first | with_reducible refine wpAny_madeHere_exc F.canon hC ?_ | with_reducible refine wpAny_loadPart_at hC ?_ | (with_reducible refine wpAny_isSubtype_exc hC ?_; first | rw [e1] | rw [e2] | rw [e3]) | wp_step)
  show R _ _
  rw [Heap.size_push]
  exact hq
theorem own_check_new {M : Model} {E : Value → Shared → Prop} {rest : List Value} {Q : Unit → Shared → Prop} (hC : h.get? C = some (excClassObj nm q C N bs bm hdct sn sub ab col dd k0 k1 k2 k3 k5 "Exception.__new__"))
    (h1 : bm.contains (.type "Exception") = true) (hq : Q () ⟨h, g, d, t, os⟩) : wpAny M A (checkBuiltinCall "Exception.__new__" ⟨.ref C :: rest, []⟩) Q E ⟨h, g, d, t, os⟩ := by
  have F := PySem.F.excBase_Exception
  have e1 : (Value.ref C :: bm).contains (.type "Exception") = true := by rw [List.contains_cons, h1, Bool.or_true]
  have e0 := F.noStar
  simp only [checkBuiltinCall, F.newKind, F.newSplit, F.newRow]
  repeat (first | refine wpAny_loadPart_at hC ?_ | (refine wpAny_isSubtype_exc hC ?_; rw [e1]) | refine wpAny_staticBase_exc hC ?_ | refine wpAny_madeBy_exc hC ?_ | simp only [bne_self_eq_false, Bool.false_eq_true, if_false] | wp_step)
  exact hq
theorem own_make {rest : List Value} {fI : Addr} (hC : h.get? C = some (excClassObj nm q C N bs bm hdct sn sub ab col dd k0 k1 k2 k3 k5 "Exception.__new__"))
    (h1 : bm.contains (.type "Exception") = true) (h2 : bm.contains (.type "AttributeError") = false) (h3 : bm.contains (.type "NameError") = false)
    (hi : Looks (model prog w) h (typeLookup (.ref C) "__init__") (some (.ref fI))) (hb : ∀ self, Looks (model prog w) h (bindSpecial (.ref fI) self) (.ref fI, [self])) (hrest : rest.length ≤ sizeLine)
    (hq : codeAny (model prog w) (A.under (.builtin "type.__call__" ⟨.ref C :: rest, []⟩)) (.call (.ref fI) ⟨.ref (h.objs.size + 1) :: rest, []⟩) (InitBack (h.objs.size + 1) R) ⟨(h.push (tupNew rest)).push (excNew C h.objs.size), g, d, t, os⟩) :
    codeAny (model prog w) A (.call (.ref C) ⟨rest, []⟩) R ⟨h, g, d, t, os⟩ := by
  have F := PySem.F.excBase_Exception
  have f1 := tc_lookup
  have f2 := tc_bind (.ref C)
  have hT : (⟨h, g, d, t, os⟩ : Shared).TypeIs (.ref C) "type" := ⟨_, hC, rfl⟩
  have e4 : (Value.ref C :: bm).contains (.ref C) = true := by simp
  refine codeAny_of_tree ?_
  show wpAny _ _ (callAny (.ref C) _) _ _ _
  repeat (any_goals (first | assumption | with_reducible refine wpAny_loadPart_at hC ?_ | wp_step))
  refine ⟨rfl, ?_⟩
  refine codeAny_call_builtin_at (Code.quiet_builtin _ (by decide +kernel)) entry_typeCall (wpAny_check_type_call_sub hC ?_)
  repeat (first | with_reducible refine wpAny_loadPart_at hC ?_ | with_reducible refine wpAny_madeBy_exc hC ?_ | wp_step)
  refine codeAny_call_builtin_code (Code.quiet_builtin _ F.quiet) (own_check_new hC h1 ?_)
  refine own_new (rest := rest) hC h1 h2 h3 ?_ hrest
  show wpAny _ _ _ _ _ _
  have k : ∀ b o, h.get? b = some o → ((h.push (tupNew rest)).push (excNew C h.objs.size)).get? b = some o := fun b o e => Heap.get?_push_of_some _ (Heap.get?_push_of_some _ e)
  have hC' := k _ _ hC
  have hx : ((h.push (tupNew rest)).push (excNew C h.objs.size)).get? (h.objs.size + 1) = some (excNew C h.objs.size) := by heap_get
  have i1 := hi.keeps k
  have b1 := (hb (.ref (h.objs.size + 1))).keeps k
  unfold isInstance
  repeat (first | (with_reducible refine wpAny_loadPart_at hx ?_; dsimp only [excNew]) | (with_reducible refine wpAny_isSubtype_exc hC' ?_; rw [e4]) | wp_step)
  refine i1.at ?_
  refine wpAny_holding (wpAny_bind ?_)
  refine b1.at ?_
  refine wpAny_bind (wpAny_call (codeAny_mono hq fun r s' z => ?_))
  rcases r with e | (v | _ | _ | _) <;> first | exact z | exact z.elim | skip
  obtain ⟨rfl, z⟩ := z
  wp_walk
  exact z
end
end
-- part E2
section
section
variable {prog : Program} {w : World} {A : Around} {E : Value → Shared → Prop} {s : Shared} {K : Frag} {x C L : Addr} {h₀ : Heap} {m : Str → Option Value} {news news' : List (Addr × Obj)} {ox : Obj} {od : Option Obj} {name : Str} {v : Value}
theorem bexc_check {M : Model} {self nameV : Value} {Q : Unit → Shared → Prop} (hi : Looks M s.heap (isInstance self (.type "BaseException")) true) (q : Q () s) :
    wpAny M A (checkBuiltinCall "BaseException.__getattribute__" ⟨[self, nameV], []⟩) Q E s :=
  @check_slot M A E s "BaseException.__getattribute__" "BaseException" "__getattribute__" self [nameV] [] Q (by decide +kernel) (by decide +kernel) hi (PySem.F.args_bexc_ga self nameV) q
theorem exc_get {expr : Bool} {Q : Value → Shared → Prop} (X : K.In s.heap) (I : InstAt s.heap x ox C od) (hga : findIn K (.ref C) "__getattribute__" = some (some (.builtin "BaseException.__getattribute__")))
    (hgh : findIn K (.ref C) "__getattr__" = some none) (hB : mroIn K C (.type "BaseException") = some true) (hf : findObj K C od name = some (.value v)) (hh : handedIn v = true)
    (h : Q v { s with toks := s.toks + 1 }) : wpAny (model prog w) A (getAttr (.ref x) name expr) Q E s := by
  obtain ⟨hp, g, d, t, os⟩ := s
  have L0 := I.type (M := model prog w)
  have L1 := looks_findIn (M := model prog w) X hga
  have L2 := looks_findIn (M := model prog w) X hgh
  have L3 := looks_find (M := model prog w) X I hf
  have L4 : Looks (model prog w) hp (isInstance (.ref x) (.type "BaseException")) true := L0.andThen (looks_mroIn X hB)
  have FB := PySem.F.attrBase_Exception
  have L5 := FB.ga.bind (.ref x)
  have hx0 : (expr && onTheHeap (Value.builtin "BaseException.__getattribute__")) = false := by cases expr <;> rfl
  have hx1 : (Value.builtin "BaseException.__getattribute__" == Value.builtin "object.__getattribute__") = false := by decide +kernel
  unfold getAttr getAttrBy
  refine wpAny_bind (wpAny_mkText (wpAny_holding (wpAny_bind (L0.at (wpAny_bind (L1.at ?_))))))
  dsimp only
  rw [hx1, Bool.and_false, if_neg (by decide)]
  unfold getAttrByItsOwn hookBefore
  rw [if_pos (by rfl)]
  refine wpAny_bind (L2.at ?_)
  refine wpAny_bind (wpAny_attempt (wpAny_holding ?_))
  unfold callGetattribute
  rw [hx0, if_neg (by decide)]
  unfold boundAndCalled
  rw [L5]
  refine wpAny_bind (wpAny_pure ?_)
  refine wpAny_call (codeAny_call_builtin FB.ga.plain PySem.F.entry_bexc_ga (bexc_check L4 ?_))
  unfold Builtin.«object.__getattribute__»
  refine wpAny_bind (wpAny_pure (a := (Value.ref x, [Value.str name t])) (wpAny_bind (wpAny_pure (a := name) (wpAny_bind (L0.at (wpAny_bind (L3.at ?_)))))))
  refine wpAny_pure ?_
  show wpAny _ _ (handedOut v) _ _ _
  rw [handedOut_of hh]
  exact wpAny_pure h
theorem osa_exc {R : Result → Shared → Prop} {cd : ClassData} {tk : Tok} (X : K.In s.heap) (I : InstAt s.heap x ox C od) (hc : clsIn K C = some cd) (hr : ∀ self, refuseLoop self "__setattr__" cd.mro = pure ()) (ho : mroIn K C (.type "object") = some true) (ht : findIn K (.ref C) name = some none)
    (h : wpAny (model prog w) A.in1 (Builtin.ObjectAttr.storeInOwnDict (.ref x) (.ref C) (.str name tk) name v false)
      (fun fin s' => match fin with | .done f => R (.ok f) s' | .again c' => c'.quiet = true ∧ codeAny (model prog w) A c' R s') (fun e s' => R (.error e) s') s) :
    codeAny (model prog w) A (.call (.builtin "object.__setattr__") ⟨[.ref x, .str name tk, v], []⟩) R s := by
  have SF := PySem.F.store_object
  have sub : Looks (model prog w) s.heap (isInstance (.ref x) (.type "object")) true := I.type.andThen (looks_mroIn X ho)
  refine codeAny_call_builtin SF.slot.plain SF.entry (@check_slot (model prog w) _ _ s "object.__setattr__" "object" "__setattr__" (.ref x) [.str name tk, v] [] _ SF.kind SF.split sub (SF.args (.ref x) (.str name tk) v) ?_)
  have hm : Looks (model prog w) s.heap (mroOf (.ref C)) cd.mro := (looks_clsIn X hc).andThen .now
  rw [osa_eq, refuse_eq]
  refine wpAny_bind (wpAny_bind (I.type.here (wpAny_bind (hm.here ?_))))
  rw [hr]
  refine wpAny_pure (wpAny_bind (I.type.here (wpAny_bind ((looks_findIn X ht).here ?_))))
  exact wpAny_bind (wpAny_pure h)
theorem exc_set {Q : Unit → Shared → Prop} {cd : ClassData} {dx : Addr} {od od' : Obj} {es : List DictEntry} {n : Nat} (F : Fr h₀ L s.heap m) (X₀ : K.In h₀) (N : News h₀ L s.heap news) (hxm : (x, ox) ∈ news) (hdm : (dx, od) ∈ news) (hcl : ox.cls = .ref C) (hno : notCls ox = true) (hd : ox.dict = some dx)
    (hs : findIn K (.ref C) "__setattr__" = some (some (.builtin "object.__setattr__")))
    (hc : clsIn K C = some cd) (hr : ∀ self, refuseLoop self "__setattr__" cd.mro = pure ()) (ho : mroIn K C (.type "object") = some true) (ht : findIn K (.ref C) name = some none) (hh : cd.hasDict = true)
    (hl : (lookIn name od).isSome = true) (U : Upd dx od od' news news') (e : Obj.putName name (PyData.keyHash w.params name) (.str name (s.toks + 1)) v od = od') (e' : od'.data = .dict es.toArray n) (hz : es.length ≤ 1000)
    (h : ∀ h', Fr h₀ L h' m → News h₀ L h' news' → Q () { s with heap := h', toks := s.toks + 2 }) : wpAny (model prog w) A (setAttr (.ref x) name v) Q E s := by
  have X := X₀.keeps F.keep
  have I : InstAt s.heap x ox C (some od) := ⟨(N _ hxm).1, hcl, hno, by rw [hd]; exact (N _ hdm).1⟩
  clear hcl hno
  refine set_plain X I hs (osa_exc (s := { s with toks := s.toks + 1 }) X I hc hr ho ht ?_)
  obtain ⟨pre, post, rfl, rfl, h1, h2⟩ := U.split
  obtain ⟨U1, U2⟩ := news_upd (f := Obj.putName name (PyData.keyHash w.params name) (.str name (s.toks + 1)) v) F N h1 h2 e (by obtain ⟨_, _, dd, _⟩ := od'; cases e'; rfl)
  have D := (N (dx, od) (by simp)).1
  have D' := (U2 (dx, od') (by simp)).1
  obtain ⟨hx, hcl, hn, -⟩ := I
  obtain ⟨oc, odi, oda, osl⟩ := ox
  dsimp only at hcl hd
  subst hcl hd
  refine wpAny_bind (wpAny_pure (wpAny_bind (wpAny_bind (wpAny_loadPart hx (wpAny_bind (looks_clsIn X hc _ _ _ _ (fun _ _ e => e) ?_))))))
  rw [hh]
  refine wpAny_pure (a := some dx) (wpAny_bind (wpAny_pure (wpAny_bind ?_)))
  unfold nsSet
  refine wpAny_bind (wpAny_bind (wpAny_askSetting (wpAny_pure (wpAny_bind (wpAny_mkText (wpAny_bind (wpAny_loadPart D ?_)))))))
  unfold lookIn at hl
  split at hl
  · rename_i es₀ n₀ q
    rw [q]
    dsimp only
    have c : (!es₀.any (·.key.isStr name) && es₀.any (·.refKey)) = false := by
      rw [← Array.any_toList, ← Array.any_toList]
      split at hl
      · rename_i en he
        rw [List.any_eq_true.mpr ⟨en, List.mem_of_find?_eq_some he, List.find?_some he⟩]; rfl
      · split at hl
        · cases hl
        · rename_i z; rw [Bool.not_eq_true] at z; rw [z, Bool.and_false]
    rw [aRefKeyMayBeTheName_at, c]
    refine wpAny_updatePart D ?_
    refine wpAny_bind (wpAny_lookBehind D' (by rw [e']; exact pastItsLine_dict (by rw [List.size_toArray, sizeLine_eq]; omega)) ?_)
    exact wpAny_pure (h _ U1 U2)
  · cases hl
/-- the first attribute of a new exception: its dict is made -/
theorem exc_set0 {Q : Unit → Shared → Prop} {cd : ClassData} {upd : Obj → List (Addr × Obj)} (F : Fr h₀ L s.heap m) (X₀ : K.In h₀) (N : News h₀ L s.heap news) (hxm : (x, ox) ∈ news) (hcl : ox.cls = .ref C) (hno : notCls ox = true) (hd : ox.dict = none)
    (hs : findIn K (.ref C) "__setattr__" = some (some (.builtin "object.__setattr__")))
    (hc : clsIn K C = some cd) (hr : ∀ self, refuseLoop self "__setattr__" cd.mro = pure ()) (ho : mroIn K C (.type "object") = some true) (ht : findIn K (.ref C) name = some none) (hh : cd.hasDict = true)
    (U : UpdF x ox news upd)
    (h : ∀ h' D, (∀ p ∈ news, p.1 < D) → Fr h₀ L h' m → News h₀ L h' ((D, dictOf [⟨PyData.keyHash w.params name, .str name (s.toks + 1), v⟩] 1) :: upd { ox with dict := some D }) → Q () { s with heap := h', toks := s.toks + 2 }) : wpAny (model prog w) A (setAttr (.ref x) name v) Q E s := by
  have X := X₀.keeps F.keep
  have hx := (N _ hxm).1
  have I : InstAt s.heap x ox C none := ⟨hx, hcl, hno, by rw [hd]; trivial⟩
  refine set_plain X I hs (osa_exc (s := { s with toks := s.toks + 1 }) X I hc hr ho ht ?_)
  obtain ⟨pre, post, rfl, eu, h1, h2⟩ := U.split
  have hD : ∀ p ∈ pre ++ (x, ox) :: post, p.1 < s.heap.objs.size := fun p hp => Heap.lt_size (N p hp).1
  have Fp := F.push (emptyDict)
  have Np := N.push F emptyDict
  obtain ⟨oc, odi, oda, osl⟩ := ox
  dsimp only at hcl hd
  subst hcl hd
  have hxp : (s.heap.push emptyDict).get? x = some ⟨.ref C, none, oda, osl⟩ := Heap.get?_push_of_some _ hx
  refine wpAny_bind (wpAny_pure (wpAny_bind (wpAny_bind (wpAny_loadPart hx (wpAny_bind (looks_clsIn X hc _ _ _ _ (fun _ _ e => e) ?_))))))
  rw [hh]
  rw [if_neg (by decide)]
  have hfree : (⟨.ref C, some s.heap.objs.size, oda, osl⟩ : Obj).isFreed = false := by
    have hfr := (Heap.get?_some_iff.mp hx).2
    cases oda <;> first | rfl | exact hfr
  have hxD : x ≠ s.heap.objs.size := Nat.ne_of_lt (Heap.lt_size hx)
  have Np' : News h₀ L (s.heap.push emptyDict) (((s.heap.objs.size, emptyDict) :: pre) ++ (x, ⟨.ref C, none, oda, osl⟩) :: post) := Np
  have g1 : ∀ p ∈ ((s.heap.objs.size, emptyDict) :: pre), p.1 ≠ x := fun p hp => by
    rcases List.mem_cons.mp hp with rfl | hp
    · exact hxD.symm
    · exact h1 p hp
  obtain ⟨F2, N2⟩ := news_upd (f := fun o => { o with dict := some s.heap.objs.size }) Fp Np' g1 h2 (o' := ⟨.ref C, some s.heap.objs.size, oda, osl⟩) rfl hfree
  have N2' : News h₀ L ((s.heap.push emptyDict).update x fun o => { o with dict := some s.heap.objs.size }) ([] ++ (s.heap.objs.size, emptyDict) :: (pre ++ (x, ⟨.ref C, some s.heap.objs.size, oda, osl⟩) :: post)) := N2
  have g2 : ∀ p ∈ pre ++ (x, (⟨.ref C, some s.heap.objs.size, oda, osl⟩ : Obj)) :: post, p.1 ≠ s.heap.objs.size := fun p hp => by
    rcases List.mem_append.mp hp with q | q
    · exact Nat.ne_of_lt (hD p (List.mem_append_left _ q))
    · rcases List.mem_cons.mp q with rfl | q
      · exact hxD
      · exact Nat.ne_of_lt (hD p (List.mem_append_right _ (.tail _ q)))
  obtain ⟨F3, N3⟩ := news_upd (f := Obj.putName name (PyData.keyHash w.params name) (.str name (s.toks + 1)) v) F2 N2' (fun p hp => nomatch hp) g2 (o' := dictOf [⟨PyData.keyHash w.params name, .str name (s.toks + 1), v⟩] 1) rfl rfl
  have fin := h _ _ hD F3 (by rw [eu]; exact N3)
  have D' := (N3 (s.heap.objs.size, dictOf [⟨PyData.keyHash w.params name, .str name (s.toks + 1), v⟩] 1) (by simp)).1
  have D2 := (N2' (s.heap.objs.size, emptyDict) (by simp)).1
  have step : wpAny (model prog w) A.in1 (do
      let d ← alloc { cls := .type "dict", data := .dict #[] }
      update x fun o => { cls := o.cls, dict := some d, data := o.data, slots := o.slots }
      dictMade (.ref C) x d) (fun a s' => wpAny (model prog w) A.in1
        (match a with
        | some d => Builtin.ObjectAttr.storeInDict d (Value.str name s.toks) name v
        | none => Builtin.ObjectAttr.noDictFor (Value.ref x) (Value.ref C) name false)
        (fun fin s' => match fin with
          | .done f => (match (Except.ok f : Result) with | .ok (.ret _) => Q () s' | .ok _ => False | .error e => E e s')
          | .again c' => c'.quiet = true ∧ codeAny (model prog w) A c' (fun r s' => match r with | .ok (.ret _) => Q () s' | .ok _ => False | .error e => E e s') s')
        (fun e s' => match (Except.error e : Result) with | .ok (.ret _) => Q () s' | .ok _ => False | .error e => E e s') s')
      (fun e s' => match (Except.error e : Result) with | .ok (.ret _) => Q () s' | .ok _ => False | .error e => E e s') { s with toks := s.toks + 1 } := by
    refine wpAny_bind (wpAny_alloc (wpAny_bind (wpAny_update hxp (wpAny_pure ?_))))
    show wpAny _ _ (Builtin.ObjectAttr.storeInDict s.heap.objs.size (.str name s.toks) name v) _ _ _
    unfold Builtin.ObjectAttr.storeInDict Builtin.ObjectAttr.newKeyGuard
    refine wpAny_bind (wpAny_pure (wpAny_bind ?_))
    unfold nsSet
    refine wpAny_bind (wpAny_bind (wpAny_askSetting (wpAny_pure (wpAny_bind (wpAny_mkText (wpAny_bind (wpAny_loadPart D2 ?_)))))))
    dsimp only
    rw [aRefKeyMayBeTheName_at, if_neg (by simp)]
    refine wpAny_updatePart D2 ?_
    refine wpAny_bind (wpAny_lookBehind D' (pastItsLine_dict (by rw [sizeLine_eq]; show 1 ≤ _; omega)) ?_)
    exact wpAny_pure fin
  cases oda <;> first | exact step | cases hno
end
end
-- part E3
section
section
variable {prog : Program} {w : World} {A : Around} {E : Value → Shared → Prop} {s : Shared} {K : Frag} {x C L : Addr} {h₀ : Heap} {m : Str → Option Value} {news news' : List (Addr × Obj)} {ox : Obj} {od : Option Obj} {name : Str} {v : Value}
section
variable {nm q : Str} {N : Addr} {bs bm : List Value} {hdct : Bool} {sn : List Str} {sub : List Value} {ab : Bool} {col : Option Bool} {dd : Option Addr} {k0 k1 k2 k3 k5 : Option Value} {newId : String} {h : Heap} {g : Array GenState} {d : Drawn} {t : Nat} {os : OsState}
theorem exc_check_init {M : Model} {e : Addr} {oe : Obj} {rest : List Value} {Q : Unit → Shared → Prop}
    (hC : h.get? C = some (excClassObj nm q C N bs bm hdct sn sub ab col dd k0 k1 k2 k3 k5 newId)) (h1 : bm.contains (.type "Exception") = true) (he : h.get? e = some oe) (hcls : oe.cls = .ref C) (hq : Q () ⟨h, g, d, t, os⟩) :
    wpAny M A (checkBuiltinCall "Exception.__init__" ⟨.ref e :: rest, []⟩) Q E ⟨h, g, d, t, os⟩ := by
  have F := PySem.F.excBase_Exception
  have e1 : (Value.ref C :: bm).contains (.type "Exception") = true := by rw [List.contains_cons, h1, Bool.or_true]
  have e0 := F.noStar
  simp only [checkBuiltinCall, F.initKind, F.initSplit, F.initRow]
  repeat (first | (with_reducible refine wpAny_loadPart_at he ?_; rw [hcls]) | with_reducible refine wpAny_loadPart_at hC ?_ | (with_reducible refine wpAny_isSubtype_exc hC ?_; rw [e1]) | wp_step)
  refine wpAny_onRaise ?_
  rw [show ∀ (a b : String) (n : Nat), Bind.check ⟨.positional, "*", "Exception", .self, [⟨"args", .varPos, false⟩]⟩ a b n (List.map (fun x => x.fst) ({ pos := Value.ref e :: rest } : Args).kw) = pure () from
    fun a b n => check_star_args _ _ _ _ _ _]
  exact wpAny_pure hq
theorem exc_init {t : Addr} {Q : Value → Shared → Prop} {upd : Obj → List (Addr × Obj)} (F : Fr h₀ L s.heap m) (X₀ : K.In h₀) (N₀ : News h₀ L s.heap news) (hxm : (x, excNew C t) ∈ news) (hC₀ : K.lookup C = some (excClassObj nm q C N bs bm hdct sn sub ab col dd k0 k1 k2 k3 k5 newId)) (hE : bm.contains (.type "Exception") = true) (U : UpdF x (excNew C t) news upd)
    (h : ∀ h' t2, (∀ p ∈ news, p.1 < t2) → Fr h₀ L h' m → News h₀ L h' ((t2, tupNew [v]) :: upd (excNew C t2)) → Q .none { s with heap := h' }) :
    wpAny (model prog w) A (call (.builtin "Exception.__init__") [.ref x, v]) Q E s := by
  have X := X₀.keeps F.keep
  have hx := (N₀ _ hxm).1
  have hC := X _ _ hC₀
  have FB := PySem.F.excBase_Exception
  obtain ⟨pre, post, rfl, eu, h1, h2⟩ := U.split
  have hD : ∀ p ∈ pre ++ (x, excNew C t) :: post, p.1 < s.heap.objs.size := fun p hp => Heap.lt_size (N₀ p hp).1
  have Fp := F.push (tupNew [v])
  have Np := N₀.push F (tupNew [v])
  have hxp : (s.heap.push (tupNew [v])).get? x = some (excNew C t) := Heap.get?_push_of_some _ hx
  have hxD : x ≠ s.heap.objs.size := Nat.ne_of_lt (Heap.lt_size hx)
  have Np' : News h₀ L (s.heap.push (tupNew [v])) (((s.heap.objs.size, tupNew [v]) :: pre) ++ (x, excNew C t) :: post) := Np
  have g1 : ∀ p ∈ ((s.heap.objs.size, tupNew [v]) :: pre), p.1 ≠ x := fun p hp => by
    rcases List.mem_cons.mp hp with rfl | hp
    · exact hxD.symm
    · exact h1 p hp
  obtain ⟨F2, N2⟩ := news_upd (f := Obj.mapFields (·.setIfInBounds 0 (Value.ref s.heap.objs.size))) Fp Np' g1 h2 (o' := excNew C s.heap.objs.size) rfl rfl
  have fin := h _ _ hD F2 (by rw [eu]; exact N2)
  refine wpAny_call (codeAny_call_builtin FB.init.plain FB.initEntry ?_)
  obtain ⟨hp, g, d, tk, os⟩ := s
  refine exc_check_init (rest := [v]) hC hE hx rfl ?_
  unfold Builtin.«BaseException.__init__»
  wp_walk
  exact fin
end
end
end
-- part E4
section
theorem top_off_E4 : True := by
  w_top off
  exact True.intro
local macro_rules | `(tactic| walk_at "mine pad 0") => `(tactic| skip)
/-- what a call of a def gives back that leaves new things in the ledger -/
def TellG (prog : Program) (w : World) (K : Frag) (mean : ExcName → Option Value) (mg mb : Str → Option Value) (f : Addr) (d : Nat) (vs : List Value) (news : List (Addr × Obj)) (Post : Value → List (Addr × Obj) → Prop) : Prop :=
  ∀ (dp un : Nat) (gd : Option (List Code)) (cn : Str) (cs : Scope) (a : Addr) (ccd : Value) (cl : List (Str × Addr)) (outer : List Env) (A₀ : Around) (base h₀ : Heap) (L : Addr) (m : Str → Option Value) (s : Shared)
    (R : Result → Shared → Prop),
    Below A₀ base outer h₀ → Fr h₀ L s.heap m → K.In h₀ → News h₀ L s.heap news → Top P0 Lo mean mg mb h₀ → cs.kind = .function → dp + d < recursionLimit → un + 20 * d < cLine →
    (∀ r h' tk' news', Post r news' → Fr h₀ L h' m → News h₀ L h' news' → R (.ok (.ret r)) { s with heap := h', toks := tk' }) →
    codeAny (model prog w) (ktrTop dp un gd cn cs L a ccd cl outer) (.call (.ref f) ⟨vs, []⟩) R s
def DoneG (g : Heap) (L : Addr) (Post : Value → List (Addr × Obj) → Prop) (s : Shared) (fl : Flow) (s' : Shared) : Prop :=
  ∃ h' tk' m' news', s' = { s with heap := h', toks := tk' } ∧ Fr g L h' m' ∧ News g L h' news' ∧ Post (match fl with | .ret v => v | _ => .none) news'
section
variable {prog : Program} {w : World} {K : Frag} {mean : ExcName → Option Value} {mg mb : Str → Option Value} {f : Addr} {d : Nat} {vs : List Value} {news : List (Addr × Obj)} {Post : Value → List (Addr × Obj) → Prop}
theorem tellG_use {dp un : Nat} {gd : Option (List Code)} {cn : Str} {cs : Scope} {a : Addr} {ccd : Value} {cl : List (Str × Addr)} {outer : List Env} {A₀ : Around} {base h₀ : Heap} {L : Addr} {m : Str → Option Value} {s : Shared}
    {Q E : Value → Shared → Prop} (C : TellG prog w K mean mg mb f d vs news Post) (B : Below A₀ base outer h₀) (F : Fr h₀ L s.heap m) (X : K.In h₀) (N : News h₀ L s.heap news) (T : Top P0 Lo mean mg mb h₀) (hk : cs.kind = .function)
    (hd : dp + d < recursionLimit) (hu : un + 20 * d < cLine)
    (ret : ∀ r h' tk' news', Post r news' → Fr h₀ L h' m → News h₀ L h' news' → Q r { s with heap := h', toks := tk' }) :
    wpAny (model prog w) (ktrTop dp un gd cn cs L a ccd cl outer) (call (.ref f) vs) Q E s :=
  wpAny_call (C _ _ _ _ _ _ _ _ _ _ _ _ _ _ _ _ B F X N T hk hd hu ret)
theorem doneG_of {g : Heap} {L : Addr} {news' : List (Addr × Obj)} {s : Shared} {h' : Heap} {tk' : Nat} {m' : Str → Option Value} {fl : Flow} (F : Fr g L h' m') (N : News g L h' news') (hr : Post (match fl with | .ret v => v | _ => .none) news') :
    DoneG g L Post s fl { s with heap := h', toks := tk' } := ⟨h', tk', m', news', rfl, F, N, hr⟩
theorem tellG_of_body {name qual : Str} {params : Arguments} {body : List Stmt} {scope : Scope} {dV kV doc pm cdv ct oc : Value} {an od : Option Addr} {osl : Array (Option Value)} (binds : List (Str × Value))
    (ho : K.lookup f = some ⟨oc, od, .func (fnOf name qual params body scope dV kV doc pm an cdv ct), osl⟩) (hcd : codeIn K cdv qual = true)
    (hbind : ∀ s : Shared, K.In s.heap → BindsTo s (fnOf name qual params body scope dV kV doc pm an cdv ct) ⟨vs, []⟩ binds) (hloc : ∀ y ∈ binds, scope.names.lookup y.1 = some .local)
    (hco : scope.isCoroutine = false) (hgen : scope.isGenerator = false) (hk : scope.kind = .function) (hcell : ∀ x ∈ scope.names, x.2 ≠ .cell)
    (h : ∀ (dp un : Nat) (gd : Option (List Code)) (outer : List Env) (A₀ : Around) (base g : Heap) (L : Addr) (s : Shared), Below A₀ base outer g → K.In g → Top P0 Lo mean mg mb g → Fr g L s.heap (fun y => binds.reverse.lookup y) → News g L s.heap news →
      dp + d < recursionLimit → un + 20 * d + 10 < cLine →
      wpAny (model prog w) (ktrTop dp un gd qual scope L f cdv [] outer) (execs body (envX qual scope L f cdv [])) (DoneG g L Post s) (fun _ _ => False) s) :
    TellG prog w K mean mg mb f (d + 1) vs news Post := by
  intro dp un gd cn cs a ccd cl outer A₀ base h₀ L m s R B F X N T hck hd hu hret
  refine code_def (K := K) (env := envX cn cs L a ccd cl) (outer := outer) B F X N T rfl rfl hck ho hcd (by show dp < recursionLimit; omega) (hbind s (X.keeps F.keep)) hloc ?_ hco hgen hk hcell
  intro g L' h₁ FG F' N' B' X' T'
  have z := h (dp + 1) (un + 3) gd (envX cn cs L a ccd cl :: outer) _ base g L' { s with heap := h₁, toks := s.toks + binds.length } B' X' T' F' N' (by omega) (by omega)
  refine wpAny_mono z (fun fl s' hl => ?_) fun _ _ y => y.elim
  obtain ⟨h', tk', m', news', rfl, F₂, N₂, hr⟩ := hl
  exact ⟨L', m', news', F₂, N₂, fun F₃ N₃ => hret _ h' tk' news' hr F₃ N₃⟩
end
/-- the exception with its dict -/
abbrev excD (C t D : Addr) : Obj := { cls := .ref C, dict := some D, data := .fields #[.ref t, .none, .none, .none, .bool false, .none] }
abbrev entry (w : World) (n : Str) (tk : Tok) (v : Value) : DictEntry := ⟨PyData.keyHash w.params n, .str n tk, v⟩
theorem meta_Exception : typeOf (.type "Exception") = pure (.type "type") := by kernel_rfl
theorem refuse_own (self : Value) (l : List Addr) : refuseLoop self "__setattr__" (l.map Value.ref ++ [.type "Exception", .type "BaseException", .type "object"]) = pure () := by
  induction l with
  | nil => exact PySem.F.store_Exception.passes self
  | cons a l ih => rw [List.map_cons, List.cons_append, refuseLoop_ref]; exact ih
local macro_rules | `(tactic| walk_at "getMethod type:Exception") => `(tactic| (k_here; refine' method_type ?F ?X ?m (by decide +kernel) ?e ?h ?_; (case F => k_asm); (case X => k_asm); (case m => exact meta_Exception); (case e => k_dflt k_is); (case h => k_handed)))
local macro_rules | `(tactic| walk_at "call builtin:Exception.__init__") => `(tactic| (k_here; k_dflt (refine' exc_init ?F ?X ?N ?x ?C ?E ?U ?_; (case F => k_asm); (case X => k_asm); (case N => k_asm); (case x => k_mem); (case C => k_is); (case E => rfl); (case U => k_updF); k_whole); intro h8 t8 l8 F8 N8; (try k_lt l8); (try k_sweep); (try k_fold)))
local macro_rules | `(tactic| walk_at "setAttr ref") => `(tactic| (k_here; k_dflt (refine' exc_set0 ?F ?X ?N ?x ?cl ?no ?d ?s ?c ?r ?o ?t ?h ?U ?_; (case F => k_asm); (case X => k_asm); (case N => k_asm); (case x => k_mem); (case cl => rfl); (case no => rfl); (case d => rfl); (case s => k_is); (case c => k_is); (case r => exact fun self => refuse_own self [70, 49]); (case o => k_is); (case t => k_is); (case h => rfl); (case U => k_updF); k_whole); intro h8 D8 l8 F8 N8; (try k_lt l8); (try k_sweep); (try k_fold)))
theorem put2 (w : World) (tk : Tok) (v : Value) (hsh : Int) (key v2 : Value) : Obj.putName (Str.ofString "place") hsh key v2 (dictOf [entry w (Str.ofString "message") tk v] 1) = dictOf [entry w (Str.ofString "message") tk v, ⟨hsh, key, v2⟩] 2 := rfl
theorem ne3 {D t2 e : Addr} {o1 o2 : Obj} {rest : List (Addr × Obj)} (h : AllLt D rest) (h1 : @LT.lt Nat _ t2 D) (h2 : @LT.lt Nat _ e D) : ∀ p ∈ (t2, o1) :: (e, o2) :: rest, p.1 ≠ D := by
  intro p hp
  rcases List.mem_cons.mp hp with rfl | hp
  · exact Nat.ne_of_lt h1
  · rcases List.mem_cons.mp hp with rfl | hp
    · exact Nat.ne_of_lt h2
    · exact Nat.ne_of_lt (tb_ltOf h p hp)
theorem t_init0 (w : World) (mean : ExcName → Option Value) (mg mb : Str → Option Value) (e t : Addr) (v : Value) (rest : List (Addr × Obj)) (hne : ∀ p ∈ rest, p.1 ≠ e) :
    TellG PySem.Challenge.rw_nu0055_01.row.toRowW.prog w (hd.heap_39 w.params) mean mg mb 46 1 [.ref e, v] ((e, excNew 70 t) :: rest)
      (fun r news' => r = .none ∧ ∃ t2 D tk, (AllLt t2 rest ∧ AllLt D rest) ∧ (e < t2 ∧ e < D) ∧ t2 < D ∧ news' = (D, dictOf [entry w (Str.ofString "message") tk v] 1) :: (t2, tupNew [v]) :: (e, excD 70 t2 D) :: rest) := by
  k_fill
  refine' tellG_of_body [(Str.ofString "self", .ref e), (Str.ofString "message", v)] ?ho ?hcd ?hb ?hl ?hco ?hg ?hk ?hc ?_
  walk_at "mine enter"
  intro dp un gd outer A₀ base g L s B X TT F N hd hu
  show wpAny _ _ _ _ _ _
  k_fold
  k_steps
  rename _ ∧ AllLt _ _ => hA
  rename _ ∧ _ ∧ AllLt _ _ => hB
  exact doneG_of (by k_asm) (by k_asm) ⟨rfl, _, _, _, ⟨hA.2, hB.2.2⟩, ⟨hA.1, hB.2.1⟩, hB.1, rfl⟩
local macro_rules | `(tactic| walk_at "setAttr ref") => `(tactic| (k_here; (with_reducible show wpAny _ _ (setAttr (Value.ref _) (Str.ofString "place") _) _ _ _); k_dflt (refine' exc_set ?F ?X ?N ?x ?dm ?cl ?no ?d ?s ?c ?r ?o ?t ?h ?l ?U ?e ?e2 ?z ?_; (case F => k_asm); (case X => k_asm); (case N => k_asm); (case x => k_mem); (case dm => k_mem); (case cl => rfl); (case no => rfl); (case d => rfl); (case s => k_is); (case c => k_is); (case r => exact fun self => refuse_own self [70, 49]); (case o => k_is); (case t => k_is); (case h => rfl); (case l => rfl); (case e => exact put2 _ _ _ _ _ _); (case U => exact Upd.head (ne3 (by assumption) (by assumption) (by assumption))); (case e2 => rfl); (case z => exact Nat.le_of_ble_eq_true rfl); k_whole); intro h8 F8 N8; (try k_sweep); (try k_fold)))
local macro_rules | `(tactic| walk_at "call ref") => `(tactic| (k_here; k_dflt (refine' tellG_use (t_init0 _ _ _ _ _ _ _ _ (by assumption)) ?k1 ?k2 ?k3 ?k4 ?k5 ?k6 ?k7 ?k8 ?_; (case k1 => k_asm); (case k2 => k_asm); (case k3 => k_asm); (case k4 => k_asm); (case k5 => k_asm); (case k6 => exact rfl); (case k7 => omega); (case k8 => omega); intro r9 h9 tk9 n9 P9 F9 N9; obtain ⟨e9, t9, D9, k9, ⟨l9, m9⟩, ⟨le9, me9⟩, lt9, e8⟩ := P9; subst e9; subst e8; (try dsimp only); (try k_sweep); (try k_fold))))
theorem t_init1 (w : World) (mean : ExcName → Option Value) (mg mb : Str → Option Value) (e t : Addr) (v v2 : Value) (rest : List (Addr × Obj)) (hne : ∀ p ∈ rest, p.1 ≠ e) :
    TellG PySem.Challenge.rw_nu0055_01.row.toRowW.prog w (hd.heap_39 w.params) mean mg mb 67 2 [.ref e, v, v2] ((e, excNew 70 t) :: rest)
      (fun r news' => r = .none ∧ ∃ t2 D tk tk2, (AllLt t2 rest ∧ AllLt D rest) ∧ (e < t2 ∧ e < D) ∧ t2 < D ∧ news' = (D, dictOf [entry w (Str.ofString "message") tk v, entry w (Str.ofString "place") tk2 v2] 2) :: (t2, tupNew [v]) :: (e, excD 70 t2 D) :: rest) := by
  k_fill
  refine' tellG_of_body [(Str.ofString "self", .ref e), (Str.ofString "message", v), (Str.ofString "place", v2)] ?ho ?hcd ?hb ?hl ?hco ?hg ?hk ?hc ?_
  walk_at "mine enter"
  intro dp un gd outer A₀ base g L s B X TT F N hd hu
  show wpAny _ _ _ _ _ _
  k_fold
  k_steps
  exact doneG_of (by k_asm) (by k_asm) ⟨rfl, _, _, _, _, ⟨by assumption, by assumption⟩, ⟨by assumption, by assumption⟩, by assumption, rfl⟩
end
-- part E5
section
/-! the flight of an exception that carries a dict: what the stations leave -/
theorem mapFields_of {o : Obj} {vs : Array Value} (hd : o.data = .fields vs) (f : Array Value → Array Value) : Obj.mapFields f o = { o with data := .fields (f vs) } := by
  obtain ⟨c, d, dt, sl⟩ := o
  dsimp only at hd
  subst hd
  rfl
def Trace (B : Heap) (e C D : Addr) (fl : Value) (h : Heap) : Prop :=
  ∃ oe vs T oT ts, h.get? e = some oe ∧ (oe.cls = .ref C ∧ oe.dict = some D ∧ oe.data = .fields vs) ∧ vs[1]? = some (.ref T) ∧ B.get? T = none ∧ T ≠ e ∧ h.get? T = some oT ∧ oT.data = .fields ts ∧ ts[3]? = some fl
structure Fly (B : Heap) (l : List Env) (e C D : Addr) (fl : Value) (h : Heap) : Prop where
  stays : B.StaysIn h
  out : B.get? e = none
  frames : h.FunFrames B l
  trace : Trace B e C D fl h
section
variable {M : Model} {A : Around} {E : Value → Shared → Prop} {s : Shared} {B : Heap} {env : Env} {outer l : List Env} {L e C D : Addr} {Q : Unit → Shared → Prop}
theorem fly_entry {oe : Obj} {vs : Array Value} {head : Value} {b : Bool} (hfr : A.frames = some (env :: outer)) (hf : env.frame = some L) (hl : s.heap.FunFrames B (env :: outer)) (hB : B.StaysIn s.heap) (ho : B.get? e = none)
    (he : s.heap.get? e = some oe) (hc : oe.cls = .ref C) (hd : oe.dict = some D) (hv : oe.data = .fields vs) (hsz : 1 < vs.size)
    (h : ∀ h', Fly B (env :: outer) e C D (rawInt L) h' → s.heap.UpToSlots h' → Q () { s with heap := h' }) :
    wpAny M A (do let a ← frameOf env; let pl ← entryPlaceOf L b; let t ← EntryCells.newEntry head a .none (rawInt L) .none pl; setField (.ref e) 1 t) Q E s := by
  have ne : e ∉ (env :: outer).filterMap (·.frame) := fun hm => by
    obtain ⟨_, o, q, nf⟩ := hl.mem hm
    exact nf vs ((Option.some.inj (he.symm.trans q)) ▸ hv)
  refine wpAny_bind (wpAny_frameOf_fun hfr hl hf fun h₁ S => wpAny_bind (wpAny_entryPlaceOf fun pl hpl => ?_))
  unfold EntryCells.newEntry newFields
  refine wpAny_bind (wpAny_newObj_type ?_ (hpl.sizeOk5 _ _ _ _ _))
  generalize htb : ({ cls := .type "traceback", dict := none, data := .fields ([head, .ref L, .none, rawInt L, .none] ++ (if pl.isEmpty then List.replicate 6 Value.none else pl)).toArray } : Obj) = tb
  have hts : tb.data = .fields ([head, .ref L, .none, rawInt L, .none] ++ (if pl.isEmpty then List.replicate 6 Value.none else pl)).toArray := by rw [← htb]
  have htf : tb.isFreed = false := by rw [← htb]; rfl
  have he₁ : h₁.get? e = some oe := (S.2.1 e ne).trans he
  have kB : B.StaysIn h₁ := fun x o q => (S.2.1 x fun hm => by rw [(hl.mem hm).1] at q; cases q).trans (hB x o q)
  have he₂ : (h₁.push tb).get? e = some oe := Heap.get?_push_of_some tb he₁
  have hTe : h₁.objs.size ≠ e := Nat.ne_of_gt (Heap.lt_size he₁)
  refine wpAny_setField he₂ hv hsz (h _ ?_ ?_)
  · have other : ∀ x o, x ≠ e → h₁.get? x = some o → ((h₁.push tb).update e (Obj.mapFields (·.setIfInBounds 1 (.ref h₁.objs.size)))).get? x = some o := fun x o nx q =>
      (Heap.get?_update_other _ _ (Ne.symm nx)).trans (Heap.get?_push_of_some tb q)
    refine ⟨fun x o q => other x o (fun z => by rw [z, ho] at q; cases q) (kB x o q), ho, hl.of_keeps fun x o q nf => ?_, ?_⟩
    · obtain ⟨sl, q'⟩ := S.2.2 x o q
      exact ⟨_, other x _ (fun z => nf vs (by rw [z, he] at q; exact (Option.some.inj q) ▸ hv)) q', rfl⟩
    · refine ⟨_, _, h₁.objs.size, tb, _, Heap.get?_update_self _ he₂ (by rw [mapFields_of hv]; rfl), ⟨by rw [mapFields_of hv]; exact hc, by rw [mapFields_of hv]; exact hd, by rw [mapFields_of hv]⟩, by simp [hsz], kB.fresh, hTe, ?_, hts, ?_⟩
      · exact (Heap.get?_update_other _ _ (Ne.symm hTe)).trans (Heap.get?_push_size h₁ htf)
      · simp
  · intro x o q nf
    obtain ⟨sl, q'⟩ := S.2.2 x o q
    exact ⟨sl, (Heap.get?_update_other _ _ (Ne.symm (fun z => nf vs (by rw [z, he] at q; exact (Option.some.inj q) ▸ hv)))).trans (Heap.get?_push_of_some tb q')⟩
theorem fly_flight {fl : Value} (F : Fly B l e C D fl s.heap) (h : ∀ h', Fly B l e C D .none h' → s.heap.UpToSlots h' → Q () { s with heap := h' }) : wpAny M A (setFlight (.ref e) none) Q E s := by
  obtain ⟨f1, f2, f3, oe, vs, T, oT, ts, he, ⟨hc, hd, hv⟩, h1, hT0, hTe, hT, hts, h3⟩ := F
  have hsz : 3 < ts.size := (Array.getElem?_eq_some_iff.mp h3).1
  have other : ∀ x, x ≠ T → (s.heap.update T (Obj.mapFields (·.setIfInBounds 3 Value.none))).get? x = s.heap.get? x := fun x nx => Heap.get?_update_other _ _ (Ne.symm nx)
  have nr : ∀ x o, s.heap.get? x = some o → (∀ vs, o.data ≠ .fields vs) → x ≠ T := fun x o q nf z => by
    rw [z, hT] at q
    exact nf ts ((Option.some.inj q) ▸ hts)
  unfold setFlight
  refine wpAny_bind (wpAny_field he hv h1 ?_)
  rw [if_pos (show (Value.ref T != Value.none) = true from by simp)]
  refine wpAny_setField hT hts hsz (h _ ⟨fun x o q => (other x fun z => by rw [z, hT0] at q; cases q).trans (f1 x o q), f2, f3.of_keeps fun x o q nf => ⟨o, (other x (nr x o q nf)).trans q, rfl⟩, ?_⟩ fun x o q nf => ⟨o.slots, (other x (nr x o q nf)).trans q⟩)
  refine ⟨oe, vs, T, _, _, (other e (Ne.symm hTe)).trans he, ⟨hc, hd, hv⟩, h1, hT0, hTe, Heap.get?_update_self _ hT (by rw [mapFields_of hts]; rfl), by rw [mapFields_of hts], by simp [hsz]⟩
/-- a new exception leaves the frame in which it was raised -/
theorem fly_first {oe : Obj} {vs : Array Value} (hfr : A.frames = some (env :: outer)) (hf : env.frame = some L) (hl : s.heap.FunFrames B (env :: outer)) (hB : B.StaysIn s.heap) (ho : B.get? e = none)
    (he : s.heap.get? e = some oe) (hc : oe.cls = .ref C) (hd : oe.dict = some D) (hv : oe.data = .fields vs) (h1 : vs[1]? = some .none)
    (h : ∀ h', Fly B outer e C D .none h' → s.heap.UpToSlots h' → Q () { s with heap := h' }) : wpAny M A (leaving env (.ref e)) Q E s := by
  unfold leaving noteFrame
  simp only [hf]
  refine wpAny_bind (wpAny_bind (wpAny_field he hv h1 ?_))
  rw [if_neg (by decide)]
  refine fly_entry hfr hf hl hB ho he hc hd hv (Array.getElem?_eq_some_iff.mp h1).1 fun h₁ F₁ u₁ => ?_
  refine fly_flight (s := { s with heap := h₁ }) F₁ fun h₂ F₂ u₂ => h h₂ ⟨F₂.stays, F₂.out, F₂.frames.2.2, F₂.trace⟩ (u₁.trans u₂)
/-- it comes into the next frame -/
theorem fly_note (hfr : A.frames = some (env :: outer)) (hf : env.frame = some L) (F : Fly B (env :: outer) e C D .none s.heap)
    (h : ∀ h', Fly B (env :: outer) e C D (rawInt L) h' → s.heap.UpToSlots h' → Q () { s with heap := h' }) : wpAny M A (noteFrame (.ref e) env) Q E s := by
  obtain ⟨f1, f2, f3, oe, vs, T, oT, ts, he, ⟨hc, hd, hv⟩, h1, hT0, hTe, hT, hts, h3⟩ := F
  have hsz : 3 < ts.size := (Array.getElem?_eq_some_iff.mp h3).1
  have other : ∀ x, x ≠ T → (s.heap.update T (Obj.mapFields (·.setIfInBounds 3 Value.none))).get? x = s.heap.get? x := fun x nx => Heap.get?_update_other _ _ (Ne.symm nx)
  have nr : ∀ x o, s.heap.get? x = some o → (∀ vs, o.data ≠ .fields vs) → x ≠ T := fun x o q nf z => by
    rw [z, hT] at q
    exact nf ts ((Option.some.inj q) ▸ hts)
  unfold noteFrame
  simp only [hf]
  refine wpAny_bind (wpAny_field he hv h1 ?_)
  rw [if_pos (show (Value.ref T != Value.none) = true from by simp)]
  refine wpAny_bind (wpAny_field hT hts h3 ?_)
  rw [if_neg (show ¬ ((Value.none == rawInt L) = true) from by simp [rawInt])]
  refine wpAny_bind (wpAny_setField hT hts hsz ?_)
  refine fly_entry (s := { s with heap := s.heap.update T (Obj.mapFields (·.setIfInBounds 3 Value.none)) }) hfr hf (f3.of_keeps fun x o q nf => ⟨o, (other x (nr x o q nf)).trans q, rfl⟩) (fun x o q => (other x fun z => by rw [z, hT0] at q; cases q).trans (f1 x o q)) f2
    ((other e (Ne.symm hTe)).trans he) hc hd hv (Array.getElem?_eq_some_iff.mp h1).1 fun h₁ F₁ u₁ => h h₁ F₁ ?_
  exact Heap.UpToSlots.trans (fun x o q nf => ⟨o.slots, (other x (nr x o q nf)).trans q⟩) u₁
end
end
-- part E6
section
def Thrown (base h₀ : Heap) (l : List Env) (L : Addr) (m : Str → Option Value) (news : List (Addr × Obj)) (w : World) (v2 : Value) (e : Addr) (h' : Heap) : Prop :=
  ∃ (B : Heap) (D : Addr) (tk tk2 : Tok) (v : Value), base.StaysIn B ∧ (∀ b o, h₀.get? b = some o → b ∉ l.filterMap (·.frame) → B.get? b = some o) ∧ (∀ q ∈ news, B.get? q.1 = some q.2) ∧
    B.get? D = some (dictOf [entry w (Str.ofString "message") tk v, entry w (Str.ofString "place") tk2 v2] 2) ∧ h₀.get? e = none ∧ h₀.get? D = none ∧ e ≠ L ∧ D ≠ L ∧ Fly B l e 70 D .none h' ∧ h'.Ns L m ∧ h₀.UpToSlots h'
/-- a call that raises the own exception, with v2 as its place -/
def TellX (prog : Program) (w : World) (K : Frag) (mean : ExcName → Option Value) (mg mb : Str → Option Value) (f : Addr) (d : Nat) (vs : List Value) (v2 : Value) : Prop :=
  ∀ (dp un : Nat) (gd : Option (List Code)) (cn : Str) (cs : Scope) (a : Addr) (ccd : Value) (cl : List (Str × Addr)) (outer : List Env) (A₀ : Around) (base h₀ : Heap) (L : Addr) (m : Str → Option Value) (news : List (Addr × Obj)) (s : Shared)
    (Q E : Value → Shared → Prop),
    Below A₀ base outer h₀ → Fr h₀ L s.heap m → K.In h₀ → News h₀ L s.heap news → Top P0 Lo mean mg mb h₀ → cs.kind = .function → dp + d < recursionLimit → un + 20 * d < cLine →
    (∀ e h' tk', Thrown base h₀ (envX cn cs L a ccd cl :: outer) L m news w v2 e h' → E (.ref e) { s with heap := h', toks := tk' }) →
    wpAny (model prog w) (ktrTop dp un gd cn cs L a ccd cl outer) (call (.ref f) vs) Q E s
def RaisedNow (g : Heap) (L : Addr) (news : List (Addr × Obj)) (w : World) (v2 : Value) (s : Shared) (x : Value) (s' : Shared) : Prop :=
  ∃ (e t2 D : Addr) (tk tk2 : Tok) (v : Value) (news' : List (Addr × Obj)) (h' : Heap) (tk' : Nat) (m' : Str → Option Value), x = .ref e ∧ s' = { s with heap := h', toks := tk' } ∧ Fr g L h' m' ∧ News g L h' news' ∧
    (D, dictOf [entry w (Str.ofString "message") tk v, entry w (Str.ofString "place") tk2 v2] 2) ∈ news' ∧ (e, excD 70 t2 D) ∈ news' ∧ (∀ q ∈ news, q ∈ news') ∧ D ≠ e ∧ ∀ q ∈ news, q.1 ≠ e
section
variable {prog : Program} {w : World} {K : Frag} {mean : ExcName → Option Value} {mg mb : Str → Option Value} {f : Addr} {d : Nat} {vs : List Value} {v2 : Value}
theorem tellX_of_body {name qual : Str} {params : Arguments} {body : List Stmt} {scope : Scope} {dV kV doc pm cdv ct oc : Value} {an od : Option Addr} {osl : Array (Option Value)} (binds : List (Str × Value))
    (ho : K.lookup f = some ⟨oc, od, .func (fnOf name qual params body scope dV kV doc pm an cdv ct), osl⟩) (hcd : codeIn K cdv qual = true)
    (hbind : ∀ s : Shared, K.In s.heap → BindsTo s (fnOf name qual params body scope dV kV doc pm an cdv ct) ⟨vs, []⟩ binds) (hloc : ∀ y ∈ binds, scope.names.lookup y.1 = some .local)
    (hco : scope.isCoroutine = false) (hgen : scope.isGenerator = false) (hk : scope.kind = .function) (hcell : ∀ x ∈ scope.names, x.2 ≠ .cell)
    (h : ∀ (dp un : Nat) (gd : Option (List Code)) (outer : List Env) (A₀ : Around) (base g : Heap) (L : Addr) (news : List (Addr × Obj)) (s : Shared), Below A₀ base outer g → K.In g → Top P0 Lo mean mg mb g → Fr g L s.heap (fun y => binds.reverse.lookup y) → News g L s.heap news →
      dp + d < recursionLimit → un + 20 * d + 10 < cLine →
      wpAny (model prog w) (ktrTop dp un gd qual scope L f cdv [] outer) (execs body (envX qual scope L f cdv [])) (fun _ _ => False) (RaisedNow g L news w v2 s) s) :
    TellX prog w K mean mg mb f (d + 1) vs v2 := by
  intro dp un gd cn cs a ccd cl outer A₀ base h₀ L m news s Q E B F X N T hck hd hu hret
  refine wpAny_call ?_
  refine code_def (K := K) (env := envX cn cs L a ccd cl) (outer := outer) B F X N T rfl rfl hck ho hcd (by show dp < recursionLimit; omega) (hbind s (X.keeps F.keep)) hloc ?_ hco hgen hk hcell
  intro g L' h₁ FG F' N' B' X' T'
  have z := h (dp + 1) (un + 3) gd (envX cn cs L a ccd cl :: outer) _ base g L' news { s with heap := h₁, toks := s.toks + binds.length } B' X' T' F' N' (by omega) (by omega)
  refine wpAny_mono z (fun _ _ y => y.elim) fun x s' hr => ?_
  obtain ⟨e, t2, D, tk, tk2, v, news', h', tk', m', rfl, rfl, F₂, N₂, hD, he, hsub, hDe, hne⟩ := hr
  have K' := B'.push (name := qual) (scope := scope) (a := f) (cd := cdv) F₂ hk
  have ge : g.get? e = none := (N₂ _ he).2.2
  have gD : g.get? D = none := (N₂ _ hD).2.2
  have gL : ∃ o, g.get? L = some o := by
    obtain ⟨o, _, _, q, _⟩ := FG.ns
    exact ⟨o, q⟩
  have nin : ∀ q ∈ news', q.1 ∉ (envOf qual scope L' f cdv :: envX cn cs L a ccd cl :: outer).filterMap (·.frame) := fun q hq hm => by
    rcases kts_mem hm with y | y
    · exact (N₂ q hq).2.1 y
    · obtain ⟨_, o, ho, _⟩ := B'.frames.mem y
      rw [(N₂ q hq).2.2] at ho
      cases ho
  have out : ∀ q ∈ news', q.1 ≠ e → (hideAll h' (e :: (envOf qual scope L' f cdv :: envX cn cs L a ccd cl :: outer).filterMap (·.frame))).get? q.1 = some q.2 := fun q hq ne => by
    refine hideAll_get _ (N₂ q hq).1 fun hm => ?_
    rcases List.mem_cons.mp hm with y | y
    · exact ne y
    · exact nin q hq y
  refine fly_first (B := hideAll h' (e :: (envOf qual scope L' f cdv :: envX cn cs L a ccd cl :: outer).filterMap (·.frame))) (outer := envX cn cs L a ccd cl :: outer) (D := D) (C := 70) K'.stack rfl
    (funFrames_hide K'.frames fun env he b hb => .tail _ (List.mem_filterMap.mpr ⟨env, he, hb⟩)) (fun b o q => of_hideAll _ q) (hideAll_none _ (.head _)) (N₂ _ he).1 rfl rfl rfl rfl fun h2 FL u => ?_
  have u' : g.UpToSlots h2 := (Heap.UpToSlots.of_keeps F₂.keep).trans u
  refine hret e h2 tk' ⟨_, D, tk, tk2, v, fun b o q => ?_, fun b o q nm => ?_, fun q hq => out q (hsub q hq) (hne q hq), out _ hD hDe, kts_none FG.keep ge, kts_none FG.keep gD, ?_, ?_, FL, u'.ns FG.ns, (Heap.UpToSlots.of_keeps FG.keep).trans u'⟩
  · refine hideAll_get _ (K'.stays b o q) fun hm => ?_
    rcases List.mem_cons.mp hm with y | y
    · have := B'.stays b o q
      rw [y, ge] at this
      cases this
    · rw [(K'.frames.mem y).1] at q
      cases q
  · refine hideAll_get _ (F₂.keep _ _ (FG.keep b o q)) fun hm => ?_
    rcases List.mem_cons.mp hm with y | y
    · have := FG.keep b o q
      rw [y, ge] at this
      cases this
    · rcases kts_mem y with y | y
      · have := FG.keep b o q
        rw [y, kts_self F₂] at this
        cases this
      · exact nm y
  · rintro rfl
    obtain ⟨o, q⟩ := gL
    rw [ge] at q
    cases q
  · rintro rfl
    obtain ⟨o, q⟩ := gL
    rw [gD] at q
    cases q
end
end
-- part E7
section
theorem top_off_E7 : True := by
  w_top off
  exact True.intro
abbrev cls70 : Obj := excClassObj (Str.ofString "SyntaxFault") (Str.ofString "SyntaxFault") 70 69 [.ref 49] [.ref 49, .type "Exception", .type "BaseException", .type "object"] true [] [] false none none (some (.ref 53)) none (some (.str (Str.ofString "SyntaxFault") 247)) (some (.str (Str.ofString "SyntaxFault") 255)) (some (.bool true)) "Exception.__new__"
theorem lk70 (P : Params) : PySem.Challenge.rw_nu0055_01 = PySem.Challenge.rw_nu0055_01 → (hd.heap_39 P).lookup 70 = some cls70 := by
  k_fill
  intro _
  k_is
theorem fi70 (P : Params) : PySem.Challenge.rw_nu0055_01 = PySem.Challenge.rw_nu0055_01 → findIn (hd.heap_39 P) (.ref 70) (Str.ofString "__init__") = some (some (.ref 67)) := by
  k_fill
  intro _
  k_is
theorem tf67 (P : Params) : PySem.Challenge.rw_nu0055_01 = PySem.Challenge.rw_nu0055_01 → typeIn (hd.heap_39 P) (.ref 67) = some (.type "function") := by
  k_fill
  intro _
  k_is
section
variable {prog : Program} {w : World} {A : Around} {E : Value → Shared → Prop} {s : Shared} {env : Env}
/-- what a raise statement may raise: the own exception, with its dict -/
def RaisableO (E : Value → Shared → Prop) (v : Value) (s₁ : Shared) : Prop :=
  ∃ (e t2 D : Addr) (oC : Obj), v = .ref e ∧ s₁.heap.get? e = some (excD 70 t2 D) ∧ s₁.heap.get? 70 = some oC ∧ (hd.heap_39 w.params).lookup 70 = some oC ∧ E (.ref e) s₁
theorem raise_own {e : PySem.Expr} {pos : Pos} {Q : Flow → Shared → Prop} (hh : A.handled = none) (h : wpAny (model prog w) A (eval e env) (RaisableO (w := w) E) E s) :
    wpAny (model prog w) A (exec (.Raise (some e) none pos) env) Q E s := by
  show wpAny _ A (do standAt pos; raiseStmt env (some (do let v ← eval e env; standAt pos; pure v)) none) Q E s
  refine wpAny_bind (wpAny_standAt ?_)
  unfold raiseStmt
  dsimp only
  refine wpAny_bind (wpAny_bind (wpAny_mono h (fun v s₁ h₁ => wpAny_bind (wpAny_standAt (wpAny_pure ?_))) fun _ _ x => x))
  obtain ⟨e, t2, D, oC, rfl, he, hC, hl, hE⟩ := h₁
  have hl' := lk70 w.params rfl
  rw [hl'] at hl
  cases hl
  have hcB : (Value.ref 70 :: [.ref 49, .type "Exception", .type "BaseException", .type "object"]).contains (.type "BaseException") = true := by decide
  obtain ⟨hp, g, d, tk, os⟩ := s₁
  repeat (first | with_reducible refine wpAny_loadPart_at he ?_ | with_reducible refine wpAny_loadPart_at hC ?_ | (with_reducible refine wpAny_isSubtype_exc hC ?_; rw [hcB]) | wp_step)
  exact wpAny_raiseNew_none hh hE
end
theorem call_fault (w : World) (mean : ExcName → Option Value) (mg mb : Str → Option Value) (v v2 : Value) {dp un : Nat} {gd : Option (List Code)} {cn : Str} {cs : Scope} {a : Addr} {ccd : Value} {cl : List (Str × Addr)} {outer : List Env} {A₀ : Around} {base h₀ : Heap} {L : Addr} {m : Str → Option Value} {news : List (Addr × Obj)} {s : Shared}
    {Q E : Value → Shared → Prop} (B : Below A₀ base outer h₀) (F : Fr h₀ L s.heap m) (X : (hd.heap_39 w.params).In h₀) (N : News h₀ L s.heap news) (T : Top P0 Lo mean mg mb h₀) (hk : cs.kind = .function)
    (hd : dp + 4 < recursionLimit) (hu : un + 80 < cLine)
    (ret : ∀ e t2 D tk tk2 h' tk' t1, Fr h₀ L h' m → News h₀ L h' ((D, dictOf [entry w (Str.ofString "message") tk v, entry w (Str.ofString "place") tk2 v2] 2) :: (t2, tupNew [v]) :: (e, excD 70 t2 D) :: (t1, tupNew [v, v2]) :: news) → AllLt e news → e < D → Q (.ref e) { s with heap := h', toks := tk' }) :
    wpAny (model PySem.Challenge.rw_nu0055_01.row.toRowW.prog w) (ktrTop dp un gd cn cs L a ccd cl outer) (call (.ref 70) [v, v2]) Q E s := by
  have Xh := X.keeps F.keep
  obtain ⟨hp, g, d, t, os⟩ := s
  dsimp only at F N Xh ret
  have hC := Xh _ _ (lk70 w.params rfl)
  have N' := (N.push F (tupNew [v, v2])).push (F.push _) (excNew 70 hp.objs.size)
  rw [Heap.size_push] at N'
  refine wpAny_call (own_make hC rfl rfl rfl (looks_findIn Xh (fi70 w.params rfl)) (fun self => bind_fn Xh self (tf67 w.params rfl)) (by rw [sizeLine_eq]; show 2 ≤ _; omega) ?_)
  refine t_init1 w mean mg mb _ hp.objs.size v v2 ((hp.objs.size, tupNew [v, v2]) :: news) (fun p hp' => ?_) _ _ _ cn cs a ccd cl outer A₀ base h₀ L m _ _ B ((F.push _).push _) X N' T hk ?_ ?_ ?_
  · rcases List.mem_cons.mp hp' with rfl | hp'
    · exact Nat.ne_of_lt (Nat.lt_succ_self _)
    · exact Nat.ne_of_lt (Nat.lt_succ_of_lt (Heap.lt_size (N p hp').1))
  · show dp + 1 + 2 < _
    omega
  · show un + (Code.builtin "type.__call__" { pos := [Value.ref 70, v, v2] }).cUnits + 20 * 2 < _
    have e9 : (Code.builtin "type.__call__" { pos := [Value.ref 70, v, v2] }).cUnits = 1 := rfl
    rw [e9]
    omega
  · rintro r h' tk' news' ⟨rfl, t2, D, tk, tk2, ⟨l1, l2⟩, ⟨l3, l4⟩, l5, rfl⟩ F2 N2
    refine ⟨rfl, ?_⟩
    exact ret _ t2 D tk tk2 h' tk' hp.objs.size F2 N2 (allLt_of fun p hp' => Nat.lt_succ_of_lt (Heap.lt_size (N p hp').1)) l4
section
variable {prog : Program} {w : World} {A : Around} {E : Value → Shared → Prop} {s : Shared} {t u : Tok} {Q : Value → Shared → Prop}
theorem add_any {x y : Str} (hsz : x.length + y.length ≤ 2 ^ 20) (h : ∀ tk tk', Q (.str (x ++ y) tk) { s with toks := tk' }) : wpAny (model prog w) A (binaryOp .Add (.str x t) (.str y u)) Q E s :=
  add_str (fun t' tk => h _ _) (by rw [sizeLine_eq]; omega)
end
theorem len_note1 : (Str.ofString "a reference to a sign that is no number: ").length ≤ 100 := by decide +kernel
theorem len_note2 : (Str.ofString "a reference to what is no sign of a document: ").length ≤ 100 := by decide +kernel
theorem raisable_now {w : World} {g h : Heap} {L : Addr} {m' : Str → Option Value} {news : List (Addr × Obj)} {D t2 e t1 : Addr} {tk tk2 : Tok} {v v2 : Value} {tup : Obj} {s : Shared} {tk' : Nat} (X : (hd.heap_39 w.params).In g) (F : Fr g L h m')
    (N : News g L h ((D, dictOf [entry w (Str.ofString "message") tk v, entry w (Str.ofString "place") tk2 v2] 2) :: (t2, tupNew [v]) :: (e, excD 70 t2 D) :: (t1, tup) :: news)) (l : AllLt e news) (l' : @LT.lt Nat _ e D) :
    RaisableO (w := w) (RaisedNow g L news w v2 s) (.ref e) { s with heap := h, toks := tk' } :=
  ⟨e, t2, D, _, rfl, (N (e, excD 70 t2 D) (by simp)).1, (X.keeps F.keep) _ _ (lk70 w.params rfl), lk70 w.params rfl,
    ⟨e, t2, D, tk, tk2, v, _, h, tk', m', rfl, rfl, F, N, by simp, by simp, fun q hq => by simp [hq], Nat.ne_of_gt l', fun q hq => Nat.ne_of_lt (tb_ltOf l q hq)⟩⟩
local macro_rules | `(tactic| walk_at "exec Raise some none") => `(tactic| (k_here; refine raise_own rfl ?_))
local macro_rules | `(tactic| walk_at "binaryOp Add str str") => `(tactic| (k_here; (refine add_any (by rw [T_len]; have := len_note1; have := len_note2; omega) ?_); intro tk8 tk8'; (try k_fold)))
local macro_rules | `(tactic| walk_at "call ref") => `(tactic| (k_here; k_dflt (first | refine' tell_use (t_code_none _ _ _ _ _ _ (by assumption) (by assumption)) ?k1 ?k2 ?k3 ?k4 ?k5 ?k6 ?k7 ?k8 ?_ | refine' tell_use (t_code_some _ _ _ _ _ _ _ (by assumption) (by assumption)) ?k1 ?k2 ?k3 ?k4 ?k5 ?k6 ?k7 ?k8 ?_ | refine' tell_use (t_is_char_b _ _ _ _ _ _ _ (by assumption)) ?k1 ?k2 ?k3 ?k4 ?k5 ?k6 ?k7 ?k8 ?_); walk_at "mine called"))
local macro_rules | `(tactic| walk_at "call ref") => `(tactic| (k_here; k_dflt (refine' call_fault _ _ _ _ _ _ ?k1 ?k2 ?k3 ?k4 ?k5 ?k6 ?k7 ?k8 ?_; (case k1 => k_asm); (case k2 => k_asm); (case k3 => k_asm); (case k4 => k_asm); (case k5 => k_asm); (case k6 => exact rfl); (case k7 => omega); (case k8 => omega); intro e9 t9 D9 k9 k9' h9 tk9 t9' F9 N9 l9 l9'; (try dsimp only); (try k_sweep); (try k_fold))))
theorem x_char_none (w : World) (mean : ExcName → Option Value) (mg mb : Str → Option Value) (l : List Nat) (t : Tok) (p : Int) (tp : Tok) (hl : l.length ≤ 1000) (hc : codeOf l = none) :
    TellX PySem.Challenge.rw_nu0055_01.row.toRowW.prog w (hd.heap_39 w.params) mean mg mb 99 5 [.str (T l) t, .int p tp] (.int p tp) := by
  k_fill
  refine' tellX_of_body [(Str.ofString "told", .str (T l) t), (Str.ofString "place", .int p tp)] ?ho ?hcd ?hb ?hl ?hco ?hg ?hk ?hc ?_
  walk_at "mine enter"
  intro dp un gd outer A₀ base g L news s B X TT F N hd hu
  show wpAny _ _ _ _ _ _
  k_fold
  k_steps
  exact raisable_now X (by k_asm) (by k_asm) (by assumption) (by assumption)
theorem x_char_some (w : World) (mean : ExcName → Option Value) (mg mb : Str → Option Value) (l : List Nat) (t : Tok) (p : Int) (tp : Tok) (n : Nat) (hl : l.length ≤ 1000) (hc : codeOf l = some n) (hn : charOf l = none) :
    TellX PySem.Challenge.rw_nu0055_01.row.toRowW.prog w (hd.heap_39 w.params) mean mg mb 99 5 [.str (T l) t, .int p tp] (.int p tp) := by
  k_fill
  have hn' : ¬(n ≤ 1114111 ∧ isChar n = true) := fun q => by
    unfold charOf at hn
    rw [hc] at hn
    dsimp only at hn
    rw [if_pos q] at hn
    cases hn
  refine' tellX_of_body [(Str.ofString "told", .str (T l) t), (Str.ofString "place", .int p tp)] ?ho ?hcd ?hb ?hl ?hco ?hg ?hk ?hc ?_
  walk_at "mine enter"
  intro dp un gd outer A₀ base g L news s B X TT F N hd hu
  show wpAny _ _ _ _ _ _
  k_fold
  by_cases hn3 : (n : Int) ≤ 1114111
  · have hn4 : isChar n = false := by
      cases q : isChar n with
      | false => rfl
      | true => exact absurd ⟨by omega, q⟩ hn'
    k_steps
    exact raisable_now X (by k_asm) (by k_asm) (by assumption) (by assumption)
  · k_steps
    exact raisable_now X (by k_asm) (by k_asm) (by assumption) (by assumption)
/-- char_of raises where the reference tells no sign -/
theorem x_char_of (w : World) (mean : ExcName → Option Value) (mg mb : Str → Option Value) (l : List Nat) (t : Tok) (p : Int) (tp : Tok) (hl : l.length ≤ 1000) (hn : charOf l = none) :
    TellX PySem.Challenge.rw_nu0055_01.row.toRowW.prog w (hd.heap_39 w.params) mean mg mb 99 5 [.str (T l) t, .int p tp] (.int p tp) := by
  cases hc : codeOf l with
  | none => exact x_char_none w mean mg mb l t p tp hl hc
  | some n => exact x_char_some w mean mg mb l t p tp n hl hc hn
end
-- part E8
section
theorem frames_mem {env : Env} {outer : List Env} {L b : Addr} (hf : env.frame = some L) (hm : b ∈ (env :: outer).filterMap (·.frame)) : b = L ∨ b ∈ outer.filterMap (·.frame) := by
  rw [List.filterMap_cons, hf] at hm
  exact List.mem_cons.mp hm
/-- a call in which an exception may fly and be caught: the frames outside stand up to their slots -/
def TellT (prog : Program) (w : World) (K : Frag) (mean : ExcName → Option Value) (mg mb : Str → Option Value) (f : Addr) (d : Nat) (vs : List Value) (news : List (Addr × Obj)) (Post : Value → List (Addr × Obj) → Prop) : Prop :=
  ∀ (dp un : Nat) (gd : Option (List Code)) (cn : Str) (cs : Scope) (a : Addr) (ccd : Value) (cl : List (Str × Addr)) (outer : List Env) (A₀ : Around) (base h₀ : Heap) (L : Addr) (m : Str → Option Value) (s : Shared)
    (Q E : Value → Shared → Prop),
    Below A₀ base outer h₀ → Fr h₀ L s.heap m → K.In h₀ → News h₀ L s.heap news → Top P0 Lo mean mg mb h₀ → K.In base → Top P0 Lo mean mg mb base → KtsDicts (outer.filterMap (·.frame)) h₀ → cs.kind = .function → dp + d < recursionLimit → un + 20 * d < cLine →
    (∀ r h₀' h' tk' news', Post r news' → KtsTurn (outer.filterMap (·.frame)) h₀ h₀' → Fr h₀' L h' m → News h₀' L h' news' → Below A₀ base outer h₀' → K.In h₀' → Top P0 Lo mean mg mb h₀' → KtsDicts (outer.filterMap (·.frame)) h₀' → Q r { s with heap := h', toks := tk' }) →
    wpAny (model prog w) (ktrTop dp un gd cn cs L a ccd cl outer) (call (.ref f) vs) Q E s
def DoneT (fs : List Addr) (g : Heap) (L : Addr) (Post : Value → List (Addr × Obj) → Prop) (s : Shared) (fl : Flow) (s' : Shared) : Prop :=
  ∃ g' h' tk' m' news', s' = { s with heap := h', toks := tk' } ∧ KtsTurn fs g g' ∧ Fr g' L h' m' ∧ News g' L h' news' ∧ Post (match fl with | .ret v => v | _ => .none) news'
section
variable {prog : Program} {w : World} {K : Frag} {mean : ExcName → Option Value} {mg mb : Str → Option Value} {f : Addr} {d : Nat} {vs : List Value} {news : List (Addr × Obj)} {Post : Value → List (Addr × Obj) → Prop}
theorem doneT_of {fs : List Addr} {g g' : Heap} {L : Addr} {news' : List (Addr × Obj)} {s : Shared} {h' : Heap} {tk' : Nat} {m' : Str → Option Value} {fl : Flow} (TT : KtsTurn fs g g') (F : Fr g' L h' m') (N : News g' L h' news') (hr : Post (match fl with | .ret v => v | _ => .none) news') :
    DoneT fs g L Post s fl { s with heap := h', toks := tk' } := ⟨g', h', tk', m', news', rfl, TT, F, N, hr⟩
theorem tellT_of_body {name qual : Str} {params : Arguments} {body : List Stmt} {scope : Scope} {dV kV doc pm cdv ct oc : Value} {an od : Option Addr} {osl : Array (Option Value)} (binds : List (Str × Value))
    (ho : K.lookup f = some ⟨oc, od, .func (fnOf name qual params body scope dV kV doc pm an cdv ct), osl⟩) (hcd : codeIn K cdv qual = true)
    (hbind : ∀ s : Shared, K.In s.heap → BindsTo s (fnOf name qual params body scope dV kV doc pm an cdv ct) ⟨vs, []⟩ binds) (hloc : ∀ y ∈ binds, scope.names.lookup y.1 = some .local)
    (hco : scope.isCoroutine = false) (hgen : scope.isGenerator = false) (hk : scope.kind = .function) (hcell : ∀ x ∈ scope.names, x.2 ≠ .cell)
    (h : ∀ (dp un : Nat) (gd : Option (List Code)) (outer : List Env) (A₀ : Around) (base g : Heap) (L : Addr) (s : Shared), Below A₀ base outer g → K.In g → Top P0 Lo mean mg mb g → K.In base → Top P0 Lo mean mg mb base → KtsDicts (outer.filterMap (·.frame)) g → Fr g L s.heap (fun y => binds.reverse.lookup y) → News g L s.heap news →
      dp + d < recursionLimit → un + 20 * d + 10 < cLine →
      wpAny (model prog w) (ktrTop dp un gd qual scope L f cdv [] outer) (execs body (envX qual scope L f cdv [])) (DoneT (outer.filterMap (·.frame)) g L Post s) (fun _ _ => False) s) :
    TellT prog w K mean mg mb f (d + 1) vs news Post := by
  intro dp un gd cn cs a ccd cl outer A₀ base h₀ L m s Q E B F X₀ N T XB TB D hck hd hu hret
  have X := X₀.keeps F.keep
  refine wpAny_call ?_
  obtain ⟨FG, BG, st, -⟩ := groundX (A := ktrTop dp un gd cn cs L a ccd cl outer) (env := envX cn cs L a ccd cl) (R := fun _ _ => True) B F N rfl rfl hck
  refine codeAny_call_def (fd := fnOf name qual params body scope dV kV doc pm an cdv ct) (body := body) (binds := binds) (by show dp < recursionLimit; omega) (X _ _ ho) rfl (T.nolimit.keeps F.keep) (codeRec_of X hcd) rfl (hbind s X) hcell hloc (fun h₁ hns hk₁ => ?_) hco hgen hk
  have D' : KtsDicts ((envX cn cs L a ccd cl :: outer).filterMap (·.frame)) (hideAll s.heap (news.map fun (x : Addr × Obj) => x.1)) := fun b hb => by
    rcases frames_mem (L := L) rfl hb with rfl | hb
    · obtain ⟨o, es, ep, q, hd', _⟩ := FG.ns
      exact ⟨o, es, ep, q, hd'⟩
    · obtain ⟨o, es, n, q, hd'⟩ := D b hb
      exact ⟨o, es, n, st b o q, hd'⟩
  have z := h (dp + 1) (un + 3) gd (envX cn cs L a ccd cl :: outer) _ base (hideAll s.heap (news.map fun (x : Addr × Obj) => x.1)) s.heap.objs.size { s with heap := h₁, toks := s.toks + binds.length } BG (X₀.keeps st) (T.keeps st) XB TB D'
    ⟨hns, fun b o e => hk₁ b o (of_hideAll _ e), Nat.le_of_eq (hideAll_size _ _)⟩ (fun p hp => ⟨hk₁ _ _ (N p hp).1, Nat.ne_of_lt (Heap.lt_size (N p hp).1), hideAll_none _ (List.mem_map_of_mem hp)⟩) (by omega) (by omega)
  refine wpAny_mono z (fun fl s' hl => ?_) fun _ _ y => y.elim
  obtain ⟨g', h', tk', m', news', rfl, T', F', N', hr⟩ := hl
  have nL : h₀.get? L = none := kts_self F
  obtain ⟨oL, es, ep, hLg, hLd, hLk, hLf⟩ := FG.ns
  obtain ⟨sl, hs⟩ := T'.up hLg
  obtain ⟨T₁, S₁⟩ := kts_turn_at (h := h') (fs := outer.filterMap (·.frame)) (g := h₀) (fun b hb => by
      obtain ⟨_, o, q, _⟩ := B.frames.mem hb
      exact ⟨o, q⟩)
    (fun b o e nm => F'.keep b o (T'.other b o (st b o e) fun q => by
      rcases frames_mem (L := L) rfl q with y | y
      · rw [y, nL] at e
        cases e
      · exact nm y))
    (fun b o e _ => by
      obtain ⟨sl', hs'⟩ := T'.up (st b o e)
      exact ⟨sl', F'.keep _ _ hs'⟩)
  have B₃ : Below A₀ base outer (ktsHeap h' (outer.filterMap (·.frame)) h₀) := ⟨B.stack, fun b o e => T₁.other b o (B.stays b o e) (fun hm => by
    rw [(B.frames.mem hm).1] at e
    cases e), B.frames.of_keeps fun b o e _ => by
    obtain ⟨sl', hs'⟩ := T₁.up e
    exact ⟨_, hs', rfl⟩⟩
  refine hret _ _ h' tk' news' hr T₁ ⟨⟨_, es, ep, F'.keep _ _ hs, hLd, hLk, hLf⟩, S₁, by rw [T₁.size]; exact F.above⟩ (fun p hp => ⟨(N' p hp).1, fun q => ?_, ?_⟩) B₃ (XB.keeps B₃.stays) (TB.keeps B₃.stays) (D.turn T₁)
  · have := (N' p hp).2.2
    rw [q, hs] at this
    cases this
  · refine T₁.none_ _ ?_
    cases q : h₀.get? p.1 with
    | none => rfl
    | some o =>
      obtain ⟨sl', hs'⟩ := T'.up (st _ _ q)
      have := (N' p hp).2.2
      rw [hs'] at this
      cases this
end
end
-- part E9
section
section
variable {prog : Program} {w : World} {A A₀ : Around} {E : Value → Shared → Prop} {s' : Shared} {base g : Heap} {outer : List Env} {L a e : Addr} {m : Str → Option Value} {name : Str} {scope : Scope} {cd : Value}
  {n : Str} {b₀ : Stmt} {suite : List Stmt} {pos np : Pos} {rest : List ExceptHandler} {Q : Flow → Shared → Prop} {news : List (Addr × Obj)} {mean : ExcName → Option Value} {mg mb : Str → Option Value} {v2 : Value} {B : Heap}
theorem fly_ground {h₅ : Heap} (K : Below A₀ base outer g) (hLg : g.get? L = none) (ha : g.objs.size ≤ L) (hB : ∀ b o, g.get? b = some o → b ∉ (envOf name scope L a cd :: outer).filterMap (·.frame) → B.get? b = some o) (hs : B.StaysIn h₅) (hu : g.UpToSlots h₅) (hn : h₅.Ns L m) :
    ∃ g', KtsTurn (outer.filterMap (·.frame)) g g' ∧ Fr g' L h₅ m ∧ Below A₀ base outer g' := by
  obtain ⟨T, S⟩ := kts_turn_at (h := h₅) (fs := outer.filterMap (·.frame)) (g := g)
    (fun b hb => by
      obtain ⟨_, o, ho, _⟩ := K.frames.mem hb
      exact ⟨o, ho⟩)
    (fun b o q nm => hs b o (hB b o q fun hm => by
      rcases kts_mem hm with y | y
      · rw [y, hLg] at q
        cases q
      · exact nm y))
    (fun b o q hm => by
      obtain ⟨_, o', ho', hd⟩ := K.frames.mem hm
      rw [q] at ho'
      cases ho'
      exact hu b o q hd)
  refine ⟨_, T, ⟨hn, S, by rw [T.size]; exact ha⟩, ⟨K.stack, fun b o q => T.other b o (K.stays b o q) (fun hm => by
    rw [(K.frames.mem hm).1] at q
    cases q), K.frames.of_keeps fun b o q _ => ?_⟩⟩
  obtain ⟨sl, hs⟩ := T.up q
  exact ⟨_, hs, rfl⟩
theorem caught_own {h₁ : Heap} {tk₁ : Nat} (hA : A.frames = some (envOf name scope L a cd :: outer)) (K : Below A₀ base outer g) (hLg : g.get? L = none) (ha : g.objs.size ≤ L) (XB : (hd.heap_39 w.params).In base) (TB : Top P0 Lo mean mg mb base) (Dk : KtsDicts (outer.filterMap (·.frame)) g)
    (TH : Thrown base g (envOf name scope L a cd :: outer) L m news w v2 e h₁) (hN : ∀ p ∈ news, p.1 ≠ L ∧ g.get? p.1 = none)
    (ex : nsIn (hd.heap_39 w.params) mainGlobals (Str.ofString "SyntaxFault") = some (some (.ref 70)))
    (k : ∀ h' g' tk oe D k1 k2 v, KtsTurn (outer.filterMap (·.frame)) g g' → Fr g' L h' (fun y => if y = n then some (.ref e) else m y) →
      News g' L h' ((e, oe) :: (D, dictOf [entry w (Str.ofString "message") k1 v, entry w (Str.ofString "place") k2 v2] 2) :: news) → oe.cls = .ref 70 → notCls oe = true → oe.dict = some D → Below A₀ base outer g' → (hd.heap_39 w.params).In g' → Top P0 Lo mean mg mb g' → KtsDicts (outer.filterMap (·.frame)) g' →
      wpAny (model prog w) (A.mark (some (.ref e))) (execs (b₀ :: suite) (envOf name scope L a cd))
        (fun f s₄ => wpAny (model prog w) A (do bindName (envOf name scope L a cd) n .none; unbindBehindTheSuite (envOf name scope L a cd) n pos) (fun _ s₅ => Q f s₅) E s₄)
        (AsSuiteRaised (model prog w) (A.mark (some (.ref e))) (envOf name scope L a cd) n pos (notedBy (model prog w) (A.mark (some (.ref e))) (envOf name scope L a cd) (cameBackBy (model prog w) A (envOf name scope L a cd) E)))
        { s' with heap := h', toks := tk })
    (hk : scope.kind = .function) (hlo : (envOf name scope L a cd).kindOf n = some .local) (hx : (envOf name scope L a cd).kindOf (Str.ofString "SyntaxFault") = some .globalImplicit) :
    wpAny (model prog w) A (noteFrame (.ref e) (envOf name scope L a cd))
      (fun _ s₂ => wpAny (model prog w) A (setFlight (.ref e) none) (fun _ s₃ =>
        wpAny (model prog w) A (handleBy (.ref e) (envOf name scope L a cd) (.ExceptHandler (some (.Name (Str.ofString "SyntaxFault") np)) (some n) (b₀ :: suite) pos :: rest)) Q E s₃) E s₂) E { s' with heap := h₁, toks := tk₁ } := by
  obtain ⟨B, D, k1, k2, v, b1, b2, b3, b4, b5, b6, b7, b8, FL, ns, us⟩ := TH
  refine fly_note hA rfl FL fun h₄ F₄ u₄ => ?_
  refine fly_flight (s := { s' with heap := h₄, toks := tk₁ }) F₄ fun h₅ F₅ u₅ => ?_
  have u5 : h₁.UpToSlots h₅ := u₄.trans u₅
  obtain ⟨g₅, T₅, Fr₅, K₅⟩ := fly_ground (name := name) (scope := scope) (a := a) (cd := cd) (m := m) K hLg ha b2 F₅.stays (us.trans u5) (u5.ns ns)
  have X₅ : (hd.heap_39 w.params).In g₅ := XB.keeps K₅.stays
  have P₅ : TopRead P0 Lo mg mb g₅ := topRead_of (TB.keeps K₅.stays)
  obtain ⟨oe, vs, _, _, _, he, ⟨hc, hd', hv⟩, _⟩ := id F₅.trace
  have hC := Fr₅.keep _ _ (X₅ _ _ (lk70 w.params rfl))
  refine wpAny_handleBy_cons (codeAny_handlers_test (name_K Fr₅ X₅ P₅ ex ?_ hk hx (by decide))) (by intro q; cases q)
  refine wpAny_excMatches_sub_self hC he hc (by decide) (codeAny_handlers_suite_as ?_)
  refine fly_flight (s := { s' with heap := h₅, toks := tk₁ }) F₅ fun h₆ F₆ u₆ => ?_
  have u6 : h₁.UpToSlots h₆ := u5.trans u₆
  obtain ⟨g₆, T₆, Fr₆, K₆⟩ := fly_ground (name := name) (scope := scope) (a := a) (cd := cd) (m := m) K hLg ha b2 F₆.stays (us.trans u6) (u6.ns ns)
  obtain ⟨oe', vs', _, _, _, he', ⟨hc', hd', hv'⟩, _⟩ := id F₆.trace
  have N₆ : News g₆ L h₆ ((e, oe') :: (D, dictOf [entry w (Str.ofString "message") k1 v, entry w (Str.ofString "place") k2 v2] 2) :: news) := fun p hp => by
    rcases List.mem_cons.mp hp with rfl | hp
    · exact ⟨he', b7, T₆.none_ _ b5⟩
    · rcases List.mem_cons.mp hp with rfl | hp
      · exact ⟨F₆.stays _ _ b4, b8, T₆.none_ _ b6⟩
      · exact ⟨F₆.stays _ _ (b3 p hp), (hN p hp).1, T₆.none_ _ (hN p hp).2⟩
  refine stN Fr₆ N₆ (fun h₇ F₇ N₇ => ?_) hk hlo
  exact k h₇ g₆ _ oe' D k1 k2 v T₆ F₇ N₇ hc' (by unfold notCls; rw [hv']) hd' K₆ (XB.keeps K₆.stays) (TB.keeps K₆.stays) (Dk.turn T₆)
end
end
-- part E10
section
theorem top_off_E10 : True := by
  w_top off
  exact True.intro
section
variable {prog : Program} {w : World} {A : Around} {E : Value → Shared → Prop} {s : Shared} {K : Frag} {x C L D : Addr} {h₀ : Heap} {m : Str → Option Value} {news : List (Addr × Obj)} {ox od : Obj} {name : Str} {v : Value}
theorem exc_read {expr : Bool} {Q : Value → Shared → Prop} (F : Fr h₀ L s.heap m) (X₀ : K.In h₀) (N : News h₀ L s.heap news) (hxm : (x, ox) ∈ news) (hdm : (D, od) ∈ news) (hc : ox.cls = .ref C) (hno : notCls ox = true) (hd : ox.dict = some D)
    (hga : findIn K (.ref C) "__getattribute__" = some (some (.builtin "BaseException.__getattribute__")))
    (hgh : findIn K (.ref C) "__getattr__" = some none) (hB : mroIn K C (.type "BaseException") = some true) (hf : findObj K C (some od) name = some (.value v)) (hh : handedIn v = true)
    (h : Q v { s with toks := s.toks + 1 }) : wpAny (model prog w) A (getAttr (.ref x) name expr) Q E s :=
  exc_get (X₀.keeps F.keep) ⟨(N _ hxm).1, hc, hno, by rw [hd]; exact (N _ hdm).1⟩ hga hgh hB hf hh h
end
theorem tellX_use {prog : Program} {w : World} {K : Frag} {mean : ExcName → Option Value} {mg mb : Str → Option Value} {f : Addr} {d : Nat} {vs : List Value} {v2 : Value} {dp un : Nat} {gd : Option (List Code)} {cn : Str} {cs : Scope} {a : Addr} {ccd : Value} {cl : List (Str × Addr)} {outer : List Env} {A₀ : Around} {base h₀ : Heap} {L : Addr} {m : Str → Option Value} {news : List (Addr × Obj)} {s : Shared}
    {Q E : Value → Shared → Prop} (C : TellX prog w K mean mg mb f d vs v2) (B : Below A₀ base outer h₀) (F : Fr h₀ L s.heap m) (X : K.In h₀) (N : News h₀ L s.heap news) (T : Top P0 Lo mean mg mb h₀) (hk : cs.kind = .function)
    (hd : dp + d < recursionLimit) (hu : un + 20 * d < cLine)
    (ret : ∀ e h' tk', Thrown base h₀ (envX cn cs L a ccd cl :: outer) L m news w v2 e h' → E (.ref e) { s with heap := h', toks := tk' }) :
    wpAny (model prog w) (ktrTop dp un gd cn cs L a ccd cl outer) (call (.ref f) vs) Q E s := C _ _ _ _ _ _ _ _ _ _ _ _ _ _ _ _ _ _ B F X N T hk hd hu ret
theorem fo70 (w : World) (k1 k2 : Tok) (v v2 : Value) : PySem.Challenge.rw_nu0055_01 = PySem.Challenge.rw_nu0055_01 → findObj (hd.heap_39 w.params) 70 (some (dictOf [entry w (Str.ofString "message") k1 v, entry w (Str.ofString "place") k2 v2] 2)) (Str.ofString "place") = some (.value v2) := by
  k_fill
  intro _
  have h1 : clsIn (hd.heap_39 w.params) 70 = some { name := Str.ofString "SyntaxFault", bases := [Value.ref 49], mro := [Value.ref 70, Value.ref 49, Value.type "Exception", Value.type "BaseException", Value.type "object"], ns := 69, qualname := Str.ofString "SyntaxFault" } := by k_is
  have h2 : findIn (hd.heap_39 w.params) (.ref 70) (Str.ofString "place") = some none := by k_is
  unfold findObj
  rw [h1, Option.bind_some, h2]
  rfl
local macro_rules | `(tactic| walk_at "getAttr ref") => `(tactic| (k_here; k_dflt (refine' exc_read ?F ?X ?N ?x ?d ?c ?no ?hd ?ga ?gh ?B ?f ?h ?_; (case F => k_asm); (case X => k_asm); (case N => k_asm); (case x => k_mem); (case c => assumption); (case no => assumption); (case hd => assumption); (case d => k_mem); (case ga => k_is); (case gh => k_is); (case B => k_is); (case f => exact fo70 _ _ _ _ _ rfl); (case h => rfl); k_whole)))
local macro_rules | `(tactic| walk_at "exec Try") => `(tactic| (k_here; refine wpAny_Try_except ?_))
local macro_rules | `(tactic| walk_at "call ref") => `(tactic| (k_here; k_dflt (first
  | (refine' tell_use (t_char_of2 _ _ _ _ _ _ _ _ _ (by assumption) (by assumption)) ?k1 ?k2 ?k3 ?k4 ?k5 ?k6 ?k7 ?k8 ?_; walk_at "mine called")
  | (refine' tellX_use (x_char_of _ _ _ _ _ _ _ _ (by assumption) (by assumption)) ?k1 ?k2 ?k3 ?k4 ?k5 ?k6 ?k7 ?k8 ?_; (case k1 => k_asm); (case k2 => k_asm); (case k3 => k_asm); (case k4 => k_asm); (case k5 => k_asm); (case k6 => exact rfl); (case k7 => omega); (case k8 => omega); intro e9 h9 tk9 TH9; (try dsimp only); (try k_fold)))))
theorem t_told_none (w : World) (mean : ExcName → Option Value) (mg mb : Str → Option Value) (l : List Nat) (t : Tok) (news : List (Addr × Obj)) (hl : l.length ≤ 1000) (hn : charOf l = none) :
    TellT PySem.Challenge.rw_nu0055_01.row.toRowW.prog w (hd.heap_39 w.params) mean mg mb 172 6 [.str (T l) t] news (fun r news' => r = .none ∧ news' = news) := by
  k_fill
  refine' tellT_of_body [(Str.ofString "told", .str (T l) t)] ?ho ?hcd ?hb ?hl ?hco ?hg ?hk ?hc ?_
  walk_at "mine enter"
  intro dp un gd outer A₀ base g L s B X TT XB TB D F N hd hu
  show wpAny _ _ _ _ _ _
  k_fold
  k_steps
  rename Thrown _ _ _ _ _ _ _ _ _ _ => TH
  refine' caught_own (outer := outer) rfl B (kts_self F) F.above XB TB D TH (fun p hp => ⟨(N p hp).2.1, (N p hp).2.2⟩) ?ex ?k rfl rfl rfl
  case ex => k_is
  intro h' g' tk oe De k1 k2 v T' F' N' hc hno hd K' X' P' D'
  show wpAny _ _ _ _ _ _
  k_fold
  k_steps
  rename News _ _ _ _ => N9
  exact doneT_of T' (by k_asm) (fun p hp => N9 p (.tail _ (.tail _ hp))) ⟨rfl, rfl⟩
theorem t_told_some (w : World) (mean : ExcName → Option Value) (mg mb : Str → Option Value) (l : List Nat) (t : Tok) (n : Nat) (news : List (Addr × Obj)) (hl : l.length ≤ 1000) (hn : charOf l = some n) :
    TellT PySem.Challenge.rw_nu0055_01.row.toRowW.prog w (hd.heap_39 w.params) mean mg mb 172 6 [.str (T l) t] news (fun r news' => (∃ t', r = .str (T [n]) t') ∧ news' = news) := by
  k_fill
  refine' tellT_of_body [(Str.ofString "told", .str (T l) t)] ?ho ?hcd ?hb ?hl ?hco ?hg ?hk ?hc ?_
  walk_at "mine enter"
  intro dp un gd outer A₀ base g L s B X TT XB TB D F N hd hu
  show wpAny _ _ _ _ _ _
  k_fold
  k_steps
  exact doneT_of .refl (by k_asm) (by k_asm) ⟨⟨_, rfl⟩, rfl⟩
theorem tellT_mono {prog : Program} {w : World} {K : Frag} {mean : ExcName → Option Value} {mg mb : Str → Option Value} {f : Addr} {d : Nat} {vs : List Value} {news : List (Addr × Obj)} {Post Post' : Value → List (Addr × Obj) → Prop} (h : TellT prog w K mean mg mb f d vs news Post) (k : ∀ r n, Post r n → Post' r n) : TellT prog w K mean mg mb f d vs news Post' :=
  fun dp un gd cn cs a ccd cl outer A₀ base h₀ L m s Q E B F X N T XB TB D hk hd hu hret => h dp un gd cn cs a ccd cl outer A₀ base h₀ L m s Q E B F X N T XB TB D hk hd hu fun r h₀' h' tk' n hr => hret r h₀' h' tk' n (k r n hr)
/-- what _law_told gives back for a reference -/
def optT : Option Nat → Value → Prop
  | some n, r => ∃ t, r = .str (T [n]) t
  | none, r => r = .none
theorem t_told (w : World) (mean : ExcName → Option Value) (mg mb : Str → Option Value) (l : List Nat) (t : Tok) (news : List (Addr × Obj)) (hl : l.length ≤ 1000) :
    TellT PySem.Challenge.rw_nu0055_01.row.toRowW.prog w (hd.heap_39 w.params) mean mg mb 172 6 [.str (T l) t] news (fun r news' => optT (charOf l) r ∧ news' = news) := by
  cases hn : charOf l with
  | none => exact t_told_none w mean mg mb l t news hl hn
  | some n => exact t_told_some w mean mg mb l t n news hl hn
end
-- part E11
section
/-- the ground of a call between whose steps an exception may have flown -/
structure Gr (A₀ : Around) (base : Heap) (outer : List Env) (K : Frag) (mean : ExcName → Option Value) (mg mb : Str → Option Value) (g : Heap) : Prop where
  B : Below A₀ base outer g
  X : K.In g
  T : Top P0 Lo mean mg mb g
  D : KtsDicts (outer.filterMap (·.frame)) g
section
variable {prog : Program} {w : World} {A A₀ : Around} {s : Shared} {env : Env} {base g₀ : Heap} {outer : List Env} {L : Addr} {body : List Stmt} {Q : Flow → Shared → Prop} {news : List (Addr × Obj)} {m₀ : Str → Option Value} {K : Frag} {mean : ExcName → Option Value} {mg mb : Str → Option Value} {x : Str} {px : Pos} {items : Array Value} {t : Addr} {ol : Obj}
def TurnF (A₀ : Around) (base : Heap) (outer : List Env) (K : Frag) (mean : ExcName → Option Value) (mg mb : Str → Option Value) (g₀ : Heap) (L : Addr) (x : Str) (m₀ : Str → Option Value) (news : List (Addr × Obj)) (Q : Flow → Shared → Prop) (s : Shared) (f : Flow) (s' : Shared) : Prop :=
  match f with
  | .ret v => Q (.ret v) s'
  | .brk => Q .next s'
  | _ => ∃ g' h' tk' u', s' = { s with heap := h', toks := tk' } ∧ KtsTurn (outer.filterMap (·.frame)) g₀ g' ∧ Gr A₀ base outer K mean mg mb g' ∧ Fr g' L h' (fun y => if y = x then u' else m₀ y) ∧ News g' L h' news
theorem for_list (hh : A.handled = none) (hL : env.locals = L) (G₀ : Gr A₀ base outer K mean mg mb g₀) (F : Fr g₀ L s.heap m₀) (N : News g₀ L s.heap ((t, ol) :: news)) (hc : ol.cls = .type "list") (n : Nat) (hd : ol.data = .seq items n)
    (turn : ∀ (i : Nat) (v : Value) (g h : Heap) (tk : Nat) (u : Option Value) (oI : Obj) (I : Addr), items[i]? = some v → KtsTurn (outer.filterMap (·.frame)) g₀ g → Gr A₀ base outer K mean mg mb g → Fr g L h (fun y => if y = x then u else m₀ y) → News g L h ((I, oI) :: (t, ol) :: news) →
      (∀ p ∈ (t, ol) :: news, p.1 ≠ I) →
      wpAny (model prog w) A (assign (.Name x px) env v) (fun _ s₂ => wpAny (model prog w) A (execs body env) (TurnF A₀ base outer K mean mg mb g₀ L x m₀ ((I, oI) :: (t, ol) :: news) Q { s with heap := h, toks := tk }) (fun _ _ => False) s₂) (fun _ _ => False) { s with heap := h, toks := tk })
    (done : ∀ g h tk u, KtsTurn (outer.filterMap (·.frame)) g₀ g → Gr A₀ base outer K mean mg mb g → Fr g L h (fun y => if y = x then u else m₀ y) → News g L h ((t, ol) :: news) → Q .next { s with heap := h, toks := tk }) :
    wpAny (model prog w) A (pyIter (.ref t)) (fun it s₂ => codeAny (model prog w) A (.forLoop (.Name x px) it body [] env) (fun r s' => match r with | .ok f => Q f s' | .error e => cameBackBy (model prog w) A env (fun _ _ => False) e s') s₂) (fun _ _ => False) s := by
  have Nt := (N _ (.head _)).1
  have hl : s.heap.IsList t items := ⟨ol, Nt, hc, n, hd⟩
  have hLI : L < s.heap.objs.size := F.ns.lt
  have gI : g₀.get? s.heap.objs.size = none := Heap.get?_none_of_le (Nat.le_of_lt (Nat.lt_of_le_of_lt F.above hLI))
  have ne : ∀ p ∈ (t, ol) :: news, p.1 ≠ s.heap.objs.size := fun p hp => Nat.ne_of_lt (Heap.lt_size (N p hp).1)
  have W := Walks.list (prog := prog) (w := w) (A := A) hh s.heap.objs.size t (ne _ (.head _)) items
  have em : m₀ = fun y => if y = x then m₀ x else m₀ y := by
    funext y
    by_cases q : y = x
    · rw [if_pos q, q]
    · rw [if_neg q]
  refine wpAny_pyIter_list hl ?_
  refine codeAny_forLoop_any (fun k s' => ∃ g h tk u i, s' = { s with heap := h, toks := tk } ∧ (h.IsListIter s.heap.objs.size t i ∧ h.IsList t items) ∧ KtsTurn (outer.filterMap (·.frame)) g₀ g ∧ Gr A₀ base outer K mean mg mb g ∧
      Fr g L h (fun y => if y = x then u else m₀ y) ∧ News g L h ((t, ol) :: news) ∧ i ≤ items.size ∧ k = items.size + 1 - i) ?_ (items.size + 1)
    ⟨g₀, _, s.toks, m₀ x, 0, rfl, ⟨⟨_, Heap.get?_push_size _ rfl, rfl, rfl⟩, hl.at fun o e => Heap.get?_push_of_some _ e⟩, .refl, G₀, em ▸ F.push _, fun p hp => ⟨Heap.get?_push_of_some _ (N p hp).1, (N p hp).2⟩, Nat.zero_le _, rfl⟩
  rintro k s' ⟨g, h, tk, u, i, rfl, st, T, G, F', N', hi, rfl⟩
  have gI' : g.get? s.heap.objs.size = none := T.none_ _ gI
  have nxt : ∀ h₁ : Heap, (∀ b o, b ∉ [s.heap.objs.size] → h.get? b = some o → h₁.get? b = some o) → Fr g L h₁ (fun y => if y = x then u else m₀ y) ∧ News g L h₁ ((t, ol) :: news) := fun h₁ hk => by
    refine ⟨⟨F'.ns.at' fun o e => hk _ o (by simp; exact Nat.ne_of_lt hLI) e, fun b o e => hk b o (fun z => ?_) (F'.keep b o e), F'.above⟩, fun p hp => ⟨hk _ _ (by simp; exact ne p hp) (N' p hp).1, (N' p hp).2⟩⟩
    rw [List.mem_singleton.mp z, gI'] at e
    cases e
  by_cases hlt : i < items.size
  · refine W.item i _ _ _ hlt st fun v h₁ tk₁ hv st₁ hk₁ => ?_
    refine letGo_listiter st₁.1 ?_
    obtain ⟨F₁, N₁⟩ := nxt h₁ hk₁
    obtain ⟨oI, hoI, hIc, hId⟩ := st₁.1
    have NI : News g L h₁ ((s.heap.objs.size, oI) :: (t, ol) :: news) := fun p hp => by
      rcases List.mem_cons.mp hp with rfl | hp
      · exact ⟨hoI, Nat.ne_of_gt hLI, gI'⟩
      · exact N₁ p hp
    refine wpAny_mono (turn i v g h₁ tk₁ u oI s.heap.objs.size hv T G F₁ NI ne) (fun _ s₂ h₂ => wpAny_mono h₂ (fun f s₃ h₃ => ?_) fun _ _ y => y.elim) fun _ _ y => y.elim
    cases f with
    | ret v => exact h₃
    | brk => exact h₃
    | next =>
      obtain ⟨g', h', tk', u', rfl, T', G', F₂, N₂⟩ := h₃
      exact ⟨items.size + 1 - (i + 1), by omega, g', h', tk', u', i + 1, rfl, ⟨⟨oI, (N₂ _ (.head _)).1, hIc, hId⟩, ⟨ol, (N₂ _ (.tail _ (.head _))).1, hc, n, hd⟩⟩, T', G', F₂, fun p hp => N₂ p (.tail _ hp), hlt, rfl⟩
    | cont =>
      obtain ⟨g', h', tk', u', rfl, T', G', F₂, N₂⟩ := h₃
      exact ⟨items.size + 1 - (i + 1), by omega, g', h', tk', u', i + 1, rfl, ⟨⟨oI, (N₂ _ (.head _)).1, hIc, hId⟩, ⟨ol, (N₂ _ (.tail _ (.head _))).1, hc, n, hd⟩⟩, T', G', F₂, fun p hp => N₂ p (.tail _ hp), hlt, rfl⟩
  · have hin : i = items.size := by omega
    subst hin
    refine W.done _ _ _ st fun h₁ tk₁ hk₁ => wpAny_execs_nil ?_
    obtain ⟨F₁, N₁⟩ := nxt h₁ hk₁
    exact done g h₁ tk₁ u T G F₁ N₁
end
end
-- part T16
section
theorem top_off_T16 : True := by
  w_top off
  exact True.intro
local macro_rules | `(tactic| walk_at "mine pad 0") => `(tactic| skip)
/-- what a call of a def gives back that leaves new things in the ledger, where the base is as told -/
def TellP (prog : Program) (w : World) (K : Frag) (mean : ExcName → Option Value) (mg mb : Str → Option Value) (f : Addr) (d : Nat) (vs : List Value) (news : List (Addr × Obj)) (Pb : Heap → Prop) (Post : Value → List (Addr × Obj) → Prop) : Prop :=
  ∀ (dp un : Nat) (gd : Option (List Code)) (cn : Str) (cs : Scope) (a : Addr) (ccd : Value) (cl : List (Str × Addr)) (outer : List Env) (A₀ : Around) (base h₀ : Heap) (L : Addr) (m : Str → Option Value) (s : Shared)
    (Q E : Value → Shared → Prop),
    Below A₀ base outer h₀ → Fr h₀ L s.heap m → K.In h₀ → News h₀ L s.heap news → Top P0 Lo mean mg mb h₀ → cs.kind = .function → dp + d < recursionLimit → un + 20 * d < cLine → Pb base →
    (∀ r h' tk' news', Post r news' → Fr h₀ L h' m → News h₀ L h' news' → Q r { s with heap := h', toks := tk' }) →
    wpAny (model prog w) (ktrTop dp un gd cn cs L a ccd cl outer) (call (.ref f) vs) Q E s
section
variable {prog : Program} {w : World} {K : Frag} {mean : ExcName → Option Value} {mg mb : Str → Option Value} {f : Addr} {d : Nat} {vs : List Value} {news : List (Addr × Obj)} {Pb : Heap → Prop} {Post : Value → List (Addr × Obj) → Prop}
theorem tellP_of_body {name qual : Str} {params : Arguments} {body : List Stmt} {scope : Scope} {dV kV doc pm cdv ct oc : Value} {an od : Option Addr} {osl : Array (Option Value)} (binds : List (Str × Value))
    (ho : K.lookup f = some ⟨oc, od, .func (fnOf name qual params body scope dV kV doc pm an cdv ct), osl⟩) (hcd : codeIn K cdv qual = true)
    (hbind : ∀ s : Shared, K.In s.heap → BindsTo s (fnOf name qual params body scope dV kV doc pm an cdv ct) ⟨vs, []⟩ binds) (hloc : ∀ y ∈ binds, scope.names.lookup y.1 = some .local)
    (hco : scope.isCoroutine = false) (hgen : scope.isGenerator = false) (hk : scope.kind = .function) (hcell : ∀ x ∈ scope.names, x.2 ≠ .cell)
    (h : ∀ (dp un : Nat) (gd : Option (List Code)) (outer : List Env) (A₀ : Around) (base g : Heap) (L : Addr) (s : Shared), Below A₀ base outer g → K.In g → Top P0 Lo mean mg mb g → Fr g L s.heap (fun y => binds.reverse.lookup y) → News g L s.heap news →
      dp + d < recursionLimit → un + 20 * d + 10 < cLine → Pb base →
      wpAny (model prog w) (ktrTop dp un gd qual scope L f cdv [] outer) (execs body (envX qual scope L f cdv [])) (DoneG g L Post s) (fun _ _ => False) s) :
    TellP prog w K mean mg mb f (d + 1) vs news Pb Post := by
  intro dp un gd cn cs a ccd cl outer A₀ base h₀ L m s Q E B F X N T hck hd hu hb hret
  refine wpAny_call ?_
  refine code_def (K := K) (env := envX cn cs L a ccd cl) (outer := outer) B F X N T rfl rfl hck ho hcd (by show dp < recursionLimit; omega) (hbind s (X.keeps F.keep)) hloc ?_ hco hgen hk hcell
  intro g L' h₁ FG F' N' B' X' T'
  have z := h (dp + 1) (un + 3) gd (envX cn cs L a ccd cl :: outer) _ base g L' { s with heap := h₁, toks := s.toks + binds.length } B' X' T' F' N' (by omega) (by omega) hb
  refine wpAny_mono z (fun fl s' hl => ?_) fun _ _ y => y.elim
  obtain ⟨h', tk', m', news', rfl, F₂, N₂, hr⟩ := hl
  exact ⟨L', m', news', F₂, N₂, fun F₃ N₃ => hret _ h' tk' news' hr F₃ N₃⟩
end
section
variable {prog : Program} {w : World} {A : Around} {E : Value → Shared → Prop} {s : Shared} {t u : Tok} {Q : Value → Shared → Prop}
theorem pow18 (h : ∀ tk tk', Q (.int 1000000000000000000 tk) { s with toks := tk' }) : wpAny (model prog w) A (binaryOp .Pow (.int 10 t) (.int 18 u)) Q E s := by
  have e : (10 : Int) ^ (18 : Int).toNat = 1000000000000000000 := by decide +kernel
  refine pow_int_small ?_ ?_ ?_ ?_
  · decide
  · decide
  · decide
  · rw [e]
    exact h _ _
end
section
variable {prog : Program} {w : World} {A : Around} {E : Value → Shared → Prop} {s : Shared} {t u : Tok} {Q : Value → Shared → Prop} {g : Heap} {L a : Addr} {m : Str → Option Value} {vs : List Value} {ns : List Int}
theorem len_ground (F : Fr g L s.heap m) (hl : g.IsList a vs.toArray) (hn : vs.length ≤ 63) (h : ∀ tk tk', Q (.int ((vs.length : Nat) : Int) tk) { s with toks := tk' }) : wpAny (model prog w) A (call (.builtin "len") [.ref a]) Q E s := by
  refine PyProof.Rows.len_list (hl.at fun o e => F.keep _ o e) (by simp; omega) ?_
  have := h (s.toks + 1) (s.toks + 1 + 1)
  simpa using this
theorem item_ground {value slice : PySem.Expr} {k : Nat} (F : Fr g L s.heap m) (hl : g.IsList a vs.toArray) (hI : IntsAre vs ns) (hn : vs.length ≤ 63) (hk : (k : Int) < ((vs.length : Nat) : Int)) (h : ∀ i t, Q (.int i t) s)
    (hs : subscripted slice false (.ref a) (.int (k : Int) u) = operate [.ref a, .int (k : Int) u] (getItem (.ref a) (.int (k : Int) u)) := by with_unfolding_all rfl) (hg : ∀ r, letTemporaryGo value (.ref a) r = pure () := by intro _; with_unfolding_all rfl) :
    wpAny (model prog w) A (subscriptTail value slice (.ref a) (.int (k : Int) u)) Q E s := by
  have hk' : k < vs.length := by omega
  have hx : vs.toArray[k]? = some vs[k] := by rw [List.getElem?_toArray]; exact List.getElem?_eq_getElem hk'
  obtain ⟨i, ti, e⟩ := (hI.allInts) vs[k] (by simp)
  exact PyProof.Rows.item_list (hl.at fun o e => F.keep _ o e) (by omega) (by omega) (by rw [Int.toNat_natCast]; exact hx) (by rw [e]; exact h _ _) hs hg
end
local macro_rules | `(tactic| walk_at "call builtin:len") => `(tactic| (k_here; (refine len_ground (by k_asm) (by assumption) (by assumption) ?_); intro tk8 tk8'; (try k_fold)))
local macro_rules | `(tactic| walk_at "subscriptTail Name Name ref int") => `(tactic| (k_here; (refine item_ground (by k_asm) (by assumption) (by assumption) (by assumption) (by omega) ?_); intro i8 t8; (try k_fold)))
local macro_rules | `(tactic| walk_at "binaryOp Pow int int") => `(tactic| (k_here; refine pow18 ?_; intro tk8 tk8'; (try k_fold)))
theorem t_pool (w : World) (mean : ExcName → Option Value) (mg mb : Str → Option Value) (a : Addr) (vs : List Value) (ns : List Int) (k : Nat) (t : Tok) (hk : k < 4) (hI : IntsAre vs ns) (hn : vs.length ≤ 63) (news : List (Addr × Obj)) :
    TellP PySem.Challenge.rw_nu0055_01.row.toRowW.prog w (hd.heap_39 w.params) mean mg mb 137 1 [.ref a, .int (k : Int) t] news (fun b => b.IsList a vs.toArray) (fun r news' => ∃ D o, r = .ref D ∧ Src o ∧ AllLt D news ∧ news' = (D, o) :: news) := by
  k_fill
  refine' tellP_of_body [(Str.ofString "script", .ref a), (Str.ofString "k", .int (k : Int) t)] ?ho ?hcd ?hb ?hl ?hco ?hg ?hk ?hc ?_
  walk_at "mine enter"
  intro dp un gd outer A₀ base g L s B X TT F N hd hu hbl
  have hL : g.IsList a vs.toArray := hbl.at fun o e => B.stays _ o e
  have hz : 0 ≤ 7919 * (k : Int) * (k : Int) ∧ 7919 * (k : Int) * (k : Int) ≤ 71271 := by
    have h4 : k = 0 ∨ k = 1 ∨ k = 2 ∨ k = 3 := by omega
    rcases h4 with rfl | rfl | rfl | rfl <;> decide
  obtain ⟨hz1, hz2⟩ := hz
  show wpAny _ _ _ _ _ _
  k_fold
  k_steps
  all_goals
    rename News _ _ _ _ => N9
    rename ∀ _, _ → _ < _ => l9
    refine doneG_of (by k_asm) N9 ?_
    refine ⟨_, _, rfl, ?_, allLt_of l9, rfl⟩
    refine' src_of ?ha ?hb ?hc
    (case hb => exact Int.fmod_nonneg_of_pos _ (by decide))
    (case hc => exact Int.fmod_lt_of_pos _ (by decide))
    (case ha => first | (with_reducible exact Int.le_refl _) | exact Int.le_trans (show (0 : Int) ≤ 1000000000000000000 by decide) (by with_reducible assumption))
theorem tellP_use {prog : Program} {w : World} {K : Frag} {mean : ExcName → Option Value} {mg mb : Str → Option Value} {f : Addr} {d : Nat} {vs : List Value} {news : List (Addr × Obj)} {Pb : Heap → Prop} {Post : Value → List (Addr × Obj) → Prop} {dp un : Nat} {gd : Option (List Code)} {cn : Str} {cs : Scope} {a : Addr} {ccd : Value} {cl : List (Str × Addr)} {outer : List Env} {A₀ : Around} {base h₀ : Heap} {L : Addr} {m : Str → Option Value} {s : Shared}
    {Q E : Value → Shared → Prop} (C : TellP prog w K mean mg mb f d vs news Pb Post) (B : Below A₀ base outer h₀) (F : Fr h₀ L s.heap m) (X : K.In h₀) (N : News h₀ L s.heap news) (T : Top P0 Lo mean mg mb h₀) (hk : cs.kind = .function)
    (hd : dp + d < recursionLimit) (hu : un + 20 * d < cLine) (hb : Pb base)
    (ret : ∀ r h' tk' news', Post r news' → Fr h₀ L h' m → News h₀ L h' news' → Q r { s with heap := h', toks := tk' }) :
    wpAny (model prog w) (ktrTop dp un gd cn cs L a ccd cl outer) (call (.ref f) vs) Q E s := C _ _ _ _ _ _ _ _ _ _ _ _ _ _ _ _ _ B F X N T hk hd hu hb ret
end
-- part T17
section
section
variable {prog : Program} {w : World} {A : Around} {E : Value → Shared → Prop} {s : Shared} {t u : Tok} {Q : Value → Shared → Prop}
theorem pow40 (h : ∀ tk tk', Q (.int 1099511627776 tk) { s with toks := tk' }) : wpAny (model prog w) A (binaryOp .Pow (.int 2 t) (.int 40 u)) Q E s := by
  have e : (2 : Int) ^ (40 : Int).toNat = 1099511627776 := by decide +kernel
  refine pow_int_small ?_ ?_ ?_ ?_
  · decide
  · decide
  · decide
  · rw [e]
    exact h _ _
theorem mul_noughts : ∀ k : Nat, k < 10 → Txt.mul (T [48]) (k : Int) = T (List.replicate k 48) := by decide +kernel
theorem s_0 : Str.ofString "0" = T [48] := by decide +kernel
theorem s_x : Str.ofString "x" = T [120] := by decide +kernel
theorem nought_times {k : Nat} (hk : k < 10) (h : ∀ tk tk', Q (.str (T (List.replicate k 48)) tk) { s with toks := tk' }) : wpAny (model prog w) A (binaryOp .Mult (.str (Str.ofString "0") t) (.int (k : Int) u)) Q E s := by
  rw [s_0]
  refine KXi.mul (n := 1) rfl (by decide) (by omega) (by omega) fun t' tk' _ _ => ?_
  rw [mul_noughts k hk]
  exact h _ _
theorem add_x {l : List Nat} (hl : l.length ≤ 1000) (h : ∀ tk tk', Q (.str (T (120 :: l)) tk) { s with toks := tk' }) : wpAny (model prog w) A (binaryOp .Add (.str (Str.ofString "x") t) (.str (T l) u)) Q E s := by
  rw [s_x]
  exact add_T (by simp; omega) fun tk tk' => h tk tk'
theorem upper_hex {l : List Nat} (hl : ∀ c ∈ l, c < 128) : Txt.upper (T l) = T (l.map up1) := by
  rw [upper_ascii (x := T l) (by simpa [T] using hl)]
  simp [T]
theorem digs_lo {b : Nat} (hb : 2 ≤ b) (hb2 : b ≤ 16) (n : Nat) : ∀ c ∈ digs b n, c < 128 := by
  induction n using Nat.strongRecOn with
  | ind n ih =>
    have hm : n % b < b := Nat.mod_lt _ (by omega)
    have hd : dig (n % b) < 128 := by unfold dig; split <;> omega
    by_cases q : n < b
    · rw [digs_lt q]
      intro c hc
      rw [List.mem_singleton.mp hc]
      exact hd
    · rw [digs_ge hb (by omega)]
      intro c hc
      rcases List.mem_append.mp hc with hc | hc
      · exact ih (n / b) (Nat.div_lt_self (by omega) (by omega)) c hc
      · rw [List.mem_singleton.mp hc]
        exact hd
theorem upper_digs {n : Nat} (hn : n < 2 ^ 41) (h : ∀ tk tk', Q (.str (T ((digs 16 n).map up1)) tk) { s with toks := tk' }) : wpAny (model prog w) A (call (.builtin "str.upper") [.str (T (digs 16 n)) t]) Q E s := by
  have e := upper_hex (digs_lo (b := 16) (by decide) (by decide) n)
  have hl := digs_len (b := 16) (by decide) 41 n hn
  refine SC.upper ?_ (by rw [e]; exact h _ _)
  refine PyProof.Rows.fit_upper ?_
  rw [T_len]
  omega
end
/-- lists of written numbers, and of written texts -/
def IntsL : List Value → List Nat → Prop
  | [], [] => True
  | .int i _ :: vs, c :: cs => i = (c : Int) ∧ IntsL vs cs
  | _, _ => False
def TxtsL : List Value → List (List Nat) → Prop
  | [], [] => True
  | .str x _ :: vs, l :: ls => x = T l ∧ TxtsL vs ls
  | _, _ => False
theorem intsL_at : ∀ {vs : List Value} {cs : List Nat}, IntsL vs cs → ∀ {k : Nat} {v : Value}, vs[k]? = some v → ∃ c ∈ cs, ∃ t, v = .int ((c : Nat) : Int) t
  | [], _, _, _, _, e => by simp at e
  | .int i t :: vs, c :: cs, h, 0, v, e => by
    simp only [List.getElem?_cons_zero, Option.some.injEq] at e
    exact ⟨c, by simp, t, by rw [← e, h.1]⟩
  | .int i t :: vs, c :: cs, h, k + 1, v, e => by
    rw [List.getElem?_cons_succ] at e
    obtain ⟨d, hd, r⟩ := intsL_at h.2 e
    exact ⟨d, .tail _ hd, r⟩
  | .int i t :: vs, [], h, _, _, _ => (show False from h).elim
  | .none :: _, _, h, _, _, _ => by cases h
  | .bool _ :: _, _, h, _, _, _ => by cases h
  | .float .. :: _, _, h, _, _, _ => by cases h
  | .str .. :: _, _, h, _, _, _ => by cases h
  | .ref _ :: _, _, h, _, _, _ => by cases h
  | .type _ :: _, _, h, _, _, _ => by cases h
  | .builtin _ :: _, _, h, _, _, _ => by cases h
theorem txtsL_at : ∀ {vs : List Value} {cs : List (List Nat)}, TxtsL vs cs → ∀ {k : Nat} {v : Value}, vs[k]? = some v → ∃ c ∈ cs, ∃ t, v = .str (T c) t
  | [], _, _, _, _, e => by simp at e
  | .str i t :: vs, c :: cs, h, 0, v, e => by
    simp only [List.getElem?_cons_zero, Option.some.injEq] at e
    exact ⟨c, by simp, t, by rw [← e, h.1]⟩
  | .str i t :: vs, c :: cs, h, k + 1, v, e => by
    rw [List.getElem?_cons_succ] at e
    obtain ⟨d, hd, r⟩ := txtsL_at h.2 e
    exact ⟨d, .tail _ hd, r⟩
  | .str i t :: vs, [], h, _, _, _ => (show False from h).elim
  | .none :: _, _, h, _, _, _ => by cases h
  | .bool _ :: _, _, h, _, _, _ => by cases h
  | .float .. :: _, _, h, _, _, _ => by cases h
  | .int .. :: _, _, h, _, _, _ => by cases h
  | .ref _ :: _, _, h, _, _, _ => by cases h
  | .type _ :: _, _, h, _, _, _ => by cases h
  | .builtin _ :: _, _, h, _, _, _ => by cases h
theorem tellM_mono {prog : Program} {w : World} {K : Frag} {mean : ExcName → Option Value} {mg mb : Str → Option Value} {f a : Addr} {d : Nat} {need : List (Addr × Obj)} {vs : List Value} {Res Res' : Value → Prop} (h : TellM prog w K mean mg mb f d a need vs Res) (k : ∀ r, Res r → Res' r) : TellM prog w K mean mg mb f d a need vs Res' :=
  fun dp un gd cn cs ac ccd cl outer A₀ base h₀ L m news upd o s Q E B F X N T hk hd hu U S h1 h2 hret => h dp un gd cn cs ac ccd cl outer A₀ base h₀ L m news upd o s Q E B F X N T hk hd hu U S h1 h2 fun r h' tk' o' S' hr => hret r h' tk' o' S' (k r hr)
theorem t_one_int (w : World) (mean : ExcName → Option Value) (mg mb : Str → Option Value) (a b : Addr) (vs : List Value) (n : Nat) (cs : List Nat) (hI : IntsL vs cs) (h0 : 0 < vs.length) (h1 : vs.length < 1000000) (hab : b ≠ a) :
    TellM PySem.Challenge.rw_nu0055_01.row.toRowW.prog w (hd.heap_39 w.params) mean mg mb 151 2 a [(b, listOf vs.toArray n)] [.ref a, .ref b] (fun r => ∃ c ∈ cs, ∃ t, r = .int ((c : Nat) : Int) t) :=
  tellM_mono (t_one w mean mg mb a b vs.toArray n (by simpa using h0) (by simpa using h1) hab) fun r ⟨k, hk⟩ => intsL_at hI (by simpa using hk)
theorem t_one_txt (w : World) (mean : ExcName → Option Value) (mg mb : Str → Option Value) (a b : Addr) (vs : List Value) (n : Nat) (cs : List (List Nat)) (hI : TxtsL vs cs) (h0 : 0 < vs.length) (h1 : vs.length < 1000000) (hab : b ≠ a) :
    TellM PySem.Challenge.rw_nu0055_01.row.toRowW.prog w (hd.heap_39 w.params) mean mg mb 151 2 a [(b, listOf vs.toArray n)] [.ref a, .ref b] (fun r => ∃ c ∈ cs, ∃ t, r = .str (T c) t) :=
  tellM_mono (t_one w mean mg mb a b vs.toArray n (by simpa using h0) (by simpa using h1) hab) fun r ⟨k, hk⟩ => txtsL_at hI (by simpa using hk)
def BORDERS : List Nat := [0, 9, 11, 14, 32, 127, 55295, 55296, 57343, 57344, 65533, 65534, 65535, 65536, 1114111, 1114112, 1099511627776]
def Known (c : Nat) : Prop := c ∈ BORDERS ∨ c < 1200000
theorem known_lt {c : Nat} (h : Known c) : c < 2 ^ 41 := by
  rcases h with h | h
  · simp only [BORDERS, List.mem_cons, List.not_mem_nil, or_false] at h
    omega
  · omega
def dueOf (c : Nat) : Option Nat := if lawSign c = true then some c else none
def MidCode (g : Heap) (L : Addr) (m : Str → Option Value) (a : Addr) (rest : List (Addr × Obj)) (s : Shared) (v : Value) (s' : Shared) : Prop :=
  ∃ (h' : Heap) (tk' : Nat) (o' : Obj) (c : Nat) (t : Tok), v = .int (c : Int) t ∧ Known c ∧ s' = { s with heap := h', toks := tk' } ∧ Src o' ∧ Fr g L h' m ∧ News g L h' ((a, o') :: rest)
def MidDue (g : Heap) (L : Addr) (m : Str → Option Value) (news : List (Addr × Obj)) (c : Nat) (s : Shared) (v : Value) (s' : Shared) : Prop :=
  ∃ (h' : Heap) (tk' : Nat), s' = { s with heap := h', toks := tk' } ∧ optT (dueOf c) v ∧ Fr g L h' m ∧ News g L h' news
section
variable {prog : Program} {w : World} {A : Around} {E : Value → Shared → Prop} {s : Shared} {Q : Value → Shared → Prop} {t : Sem Value} {g : Heap} {L a : Addr} {m : Str → Option Value} {rest news : List (Addr × Obj)} {c : Nat}
theorem mid_code (_F : Fr g L s.heap m) (h1 : wpAny (model prog w) A t (MidCode g L m a rest s) E s)
    (h2 : ∀ (h' : Heap) (tk' : Nat) (o' : Obj) (c : Nat) (t : Tok), Known c → Src o' → Fr g L h' m → News g L h' ((a, o') :: rest) → Q (.int (c : Int) t) { s with heap := h', toks := tk' }) : wpAny (model prog w) A t Q E s :=
  wpAny_mono h1 (fun v s' ⟨h', tk', o', c, t, e1, hk, e2, S, F, N⟩ => by
    subst e1
    subst e2
    exact h2 h' tk' o' c t hk S F N) fun _ _ y => y
theorem mid_due (_F : Fr g L s.heap m) (_N : News g L s.heap news) (h1 : wpAny (model prog w) A t (MidDue g L m news c s) E s)
    (h2 : ∀ (h' : Heap) (tk' : Nat) (v : Value), optT (dueOf c) v → Fr g L h' m → News g L h' news → Q v { s with heap := h', toks := tk' }) : wpAny (model prog w) A t Q E s :=
  wpAny_mono h1 (fun v s' ⟨h', tk', e, hv, F, N⟩ => by
    subst e
    exact h2 h' tk' v hv F N) fun _ _ y => y
end
end
-- part T18
section
theorem top_off_T18 : True := by
  w_top off
  exact True.intro
local macro_rules | `(tactic| walk_at "mine calledR") => `(tactic| (
  (case k1 => k_asm); (case k2 => k_asm); (case k3 => k_asm); (case k5 => k_asm); (case k6 => exact rfl); (case k7 => omega); (case k8 => omega); (case k9 => k_updF); (case k10 => first | assumption | exact src_of (by assumption) (by assumption) (by assumption)); (case k12 => k_all)))
theorem news_sub {g h : Heap} {L : Addr} {l l' : List (Addr × Obj)} (N : News g L h l') (k : ∀ p ∈ l, p ∈ l') : News g L h l := fun p hp => N p (k p hp)
local macro_rules | `(tactic| walk_at "binaryOp Pow int int") => `(tactic| (k_here; refine pow40 ?_; intro tk8 tk8'; (try k_fold)))
local macro_rules | `(tactic| walk_at "call ref") => `(tactic| (k_here; k_dflt (refine' tellM_use (t_take _ _ _ _ _ _ _ (by omega) (by omega)) ?k1 ?k2 ?k3 ?k4 ?k5 ?k6 ?k7 ?k8 ?k9 ?k10 ?k11 ?k12 ?_); walk_at "mine calledM"; intro r9 h9 tk9 o9 S9 R9 F9 N9; obtain ⟨k9, t9, hk9, e9⟩ := R9; subst e9; (try dsimp only at N9); (try dsimp only); (try k_sweep); (try k_fold)))
local macro_rules | `(tactic| walk_at "call ref") => `(tactic| (k_here; k_dflt (refine' tellM_use (t_one_int (cs := BORDERS) _ _ _ _ _ _ _ _ ?i1 ?i2 ?i3 ?i4) ?k1 ?k2 ?k3 ?k4 ?k5 ?k6 ?k7 ?k8 ?k9 ?k10 ?k11 ?k12 ?_); (case k4 => k_asm); (case k11 => (intro p hp; rw [List.mem_singleton.mp hp]; k_mem)); (case i1 => repeat' (first | exact True.intro | refine And.intro rfl ?_)); (case i2 => exact Nat.le_of_ble_eq_true rfl); (case i3 => exact Nat.le_of_ble_eq_true rfl); (case i4 => (show @Ne Nat _ _); omega); walk_at "mine calledR"; intro r9 h9 tk9 o9 S9 R9 F9 N9; obtain ⟨c9, hc9, t9, e9⟩ := R9; subst e9; (try dsimp only at N9); (try dsimp only); (try k_sweep); (try k_fold)))
local macro_rules | `(tactic| walk_at "call ref") => `(tactic| (k_here; k_dflt (refine' tellM_use (t_one_int (cs := [0, 0, 1, 9]) _ _ _ _ _ _ _ _ ?i1 ?i2 ?i3 ?i4) ?k1 ?k2 ?k3 ?k4 ?k5 ?k6 ?k7 ?k8 ?k9 ?k10 ?k11 ?k12 ?_); (case k4 => k_asm); (case k11 => (intro p hp; rw [List.mem_singleton.mp hp]; k_mem)); (case i1 => repeat' (first | exact True.intro | refine And.intro rfl ?_)); (case i2 => exact Nat.le_of_ble_eq_true rfl); (case i3 => exact Nat.le_of_ble_eq_true rfl); (case i4 => (show @Ne Nat _ _); omega); walk_at "mine calledR"; intro r9 h9 tk9 o9 S9 R9 F9 N9; obtain ⟨c9, hc9, t9, e9⟩ := R9; subst e9; (try dsimp only at N9); (try dsimp only); (try k_sweep); (try k_fold)))
local macro_rules | `(tactic| walk_at "call ref") => `(tactic| (k_here; k_dflt (first | refine' tell_use (t_is_sign _ _ _ _ _ _) ?k1 ?k2 ?k3 ?k4 ?k5 ?k6 ?k7 ?k8 ?_ | refine' tell_use (t_digits _ _ _ _ _ 10 _ _ (by assumption) (by decide) (by decide)) ?k1 ?k2 ?k3 ?k4 ?k5 ?k6 ?k7 ?k8 ?_ | refine' tell_use (t_digits _ _ _ _ _ 16 _ _ (by assumption) (by decide) (by decide)) ?k1 ?k2 ?k3 ?k4 ?k5 ?k6 ?k7 ?k8 ?_); walk_at "mine called"))
theorem lt10 {c : Nat} (h : c ∈ [0, 0, 1, 9]) : c < 10 := by
  simp only [List.mem_cons, List.not_mem_nil, or_false] at h
  omega
local macro_rules | `(tactic| walk_at "binaryOp Mult str int") => `(tactic| (k_here; refine nought_times (lt10 (by assumption)) ?_; intro tk8 tk8'; (try k_fold)))
local macro_rules | `(tactic| walk_at "mine len") => `(tactic| ((have q10 := lt10 (by assumption)); (try simp only [List.length_append, List.length_cons, List.length_nil, List.length_replicate, List.length_map]); omega))
local macro_rules | `(tactic| walk_at "binaryOp Add str str") => `(tactic| (k_here; (first | refine add_x (by walk_at "mine len") ?_ | refine add_T (by walk_at "mine len") ?_); intro tk8 tk8'; (try k_fold)))
local macro_rules | `(tactic| walk_at "call builtin:str.upper") => `(tactic| (k_here; refine upper_digs (by assumption) ?_; intro tk8 tk8'; (try k_fold)))
theorem tellT_use {prog : Program} {w : World} {K : Frag} {mean : ExcName → Option Value} {mg mb : Str → Option Value} {f : Addr} {d : Nat} {vs : List Value} {news : List (Addr × Obj)} {Post : Value → List (Addr × Obj) → Prop} {dp un : Nat} {gd : Option (List Code)} {cn : Str} {cs : Scope} {a : Addr} {ccd : Value} {cl : List (Str × Addr)} {outer : List Env} {A₀ : Around} {base h₀ : Heap} {L : Addr} {m : Str → Option Value} {s : Shared}
    {Q E : Value → Shared → Prop} (C : TellT prog w K mean mg mb f d vs news Post) (B : Below A₀ base outer h₀) (F : Fr h₀ L s.heap m) (X : K.In h₀) (N : News h₀ L s.heap news) (T : Top P0 Lo mean mg mb h₀) (XB : K.In base) (TB : Top P0 Lo mean mg mb base) (D : KtsDicts (outer.filterMap (·.frame)) h₀) (hk : cs.kind = .function)
    (hd : dp + d < recursionLimit) (hu : un + 20 * d < cLine)
    (ret : ∀ r h₀' h' tk' news', Post r news' → KtsTurn (outer.filterMap (·.frame)) h₀ h₀' → Fr h₀' L h' m → News h₀' L h' news' → Below A₀ base outer h₀' → K.In h₀' → Top P0 Lo mean mg mb h₀' → KtsDicts (outer.filterMap (·.frame)) h₀' → Q r { s with heap := h', toks := tk' }) :
    wpAny (model prog w) (ktrTop dp un gd cn cs L a ccd cl outer) (call (.ref f) vs) Q E s := C _ _ _ _ _ _ _ _ _ _ _ _ _ _ _ _ _ B F X N T XB TB D hk hd hu ret
local macro_rules | `(tactic| walk_at "mine calledT") => `(tactic| (
  (case k1 => k_asm); (case k2 => k_asm); (case k3 => k_asm); (case k4 => k_asm); (case k5 => k_asm); (case k6 => assumption); (case k7 => assumption); (case k8 => assumption); (case k9 => exact rfl); (case k10 => omega); (case k11 => omega)))
local macro_rules | `(tactic| walk_at "call ref") => `(tactic| (k_here; k_dflt (refine' tellT_use (t_told_none _ _ _ _ _ _ _ (by assumption) (by assumption)) ?k1 ?k2 ?k3 ?k4 ?k5 ?k6 ?k7 ?k8 ?k9 ?k10 ?k11 ?_); walk_at "mine calledT"; intro r9 g9 h9 tk9 n9 P9 T9 F9 N9 B9 X9 U9 D9; obtain ⟨p9, e9⟩ := P9; subst p9; subst e9; (try dsimp only); (try k_lift B9); (try k_sweep); (try k_fold)))
local macro_rules | `(tactic| walk_at "call ref") => `(tactic| (k_here; k_dflt (refine' tellT_use (t_told_some _ _ _ _ _ _ _ _ (by assumption) (by assumption)) ?k1 ?k2 ?k3 ?k4 ?k5 ?k6 ?k7 ?k8 ?k9 ?k10 ?k11 ?_); walk_at "mine calledT"; intro r9 g9 h9 tk9 n9 P9 T9 F9 N9 B9 X9 U9 D9; obtain ⟨p9, e9⟩ := P9; obtain ⟨t9, p9⟩ := p9; subst p9; subst e9; (try dsimp only); (try k_lift B9); (try k_sweep); (try k_fold)))
theorem news_drop2 {g h : Heap} {L : Addr} {p q : Addr × Obj} {l : List (Addr × Obj)} (N : News g L h (p :: q :: l)) : News g L h (p :: l) := fun r hr => by
  rcases List.mem_cons.mp hr with rfl | hr
  · exact N _ (.head _)
  · exact N _ (.tail _ (.tail _ hr))
local macro_rules | `(tactic| walk_at "eval IfExp") => `(tactic| refine halt ?_)
local macro_rules | `(tactic| walk_at "exec For Name List cons nil") => `(tactic| refine halt ?_)
theorem lawSign_le {c : Int} (h : lawSign c = true) : c ≤ 1114111 := by
  rw [lawSign, decide_eq_true_iff] at h
  omega
theorem due_some {c : Nat} {v : Value} {t : Tok} (h : lawSign c = true) (hv : v = .str (T [c]) t) : optT (dueOf c) v := by
  rw [dueOf, if_pos h]
  exact ⟨t, hv⟩
theorem due_none {c : Nat} (h : lawSign c = false) : optT (dueOf c) .none := by
  rw [dueOf, if_neg (by rw [h]; decide)]
  rfl
def FOUR (c k : Nat) : List (List Nat) := [digs 10 c, List.replicate k 48 ++ digs 10 c, 120 :: List.replicate k 48 ++ digs 16 c, 120 :: (digs 16 c).map up1]
theorem four_len {c k : Nat} (hc : c < 2 ^ 41) (hk : k < 10) {l : List Nat} (hl : l ∈ FOUR c k) : l.length ≤ 1000 := by
  have h1 := digs_len (b := 10) (by decide) 41 c hc
  have h2 := digs_len (b := 16) (by decide) 41 c hc
  simp only [FOUR, List.mem_cons, List.not_mem_nil, or_false] at hl
  rcases hl with rfl | rfl | rfl | rfl
  · omega
  · rw [List.length_append, List.length_replicate]; omega
  · rw [List.length_append, List.length_cons, List.length_replicate]; omega
  · rw [List.length_cons, List.length_map]; omega
theorem four_at {c k : Nat} (hc : c < 2 ^ 41) (hk : k < 10) (hm : ∀ l ∈ FOUR c k, charOf l = dueOf c) {vs : List Value} {i : Nat} {v : Value} (hv : vs[i]? = some v) (hT : TxtsL vs (FOUR c k)) : ∃ l t, v = .str (T l) t ∧ charOf l = dueOf c ∧ l.length ≤ 1000 := by
  obtain ⟨l, hl, t, e⟩ := txtsL_at hT hv
  exact ⟨l, t, e, hm l hl, four_len hc hk hl⟩
theorem fr_eq {g h : Heap} {L : Addr} {m m' : Str → Option Value} (F : Fr g L h m) (e : m = m') : Fr g L h m' := e ▸ F
theorem turnF_of {A₀ : Around} {base : Heap} {outer : List Env} {K : Frag} {mean : ExcName → Option Value} {mg mb : Str → Option Value} {g₀ g' : Heap} {L : Addr} {x : Str} {m₀ m' : Str → Option Value} {news : List (Addr × Obj)} {Q : Flow → Shared → Prop} {s : Shared} {h' : Heap} {tk' : Nat} (u' : Option Value)
    (T : KtsTurn (outer.filterMap (·.frame)) g₀ g') (G : Gr A₀ base outer K mean mg mb g') (F : Fr g' L h' m') (N : News g' L h' news) (e : m' = fun y => if y = x then u' else m₀ y) : TurnF A₀ base outer K mean mg mb g₀ L x m₀ news Q s .next { s with heap := h', toks := tk' } :=
  ⟨g', h', tk', u', rfl, T, G, e ▸ F, N⟩
def WRONG : List (List Nat) := [[], [120], [88, 52, 49], [97], [52, 32, 49], [45, 54, 53], [43, 54, 53], [120, 52, 103], [32, 54, 53], [54, 53, 32], [49, 101, 50], [1633], [120, 120, 52, 49], [48, 120, 52, 49], List.replicate 30 57]
theorem wrong_none : ∀ l ∈ WRONG, charOf l = none ∧ l.length ≤ 1000 := by decide +kernel
local macro_rules | `(tactic| walk_at "call ref") => `(tactic| (k_here; k_dflt (refine' tellM_use (t_one_txt (cs := WRONG) _ _ _ _ _ _ _ _ ?i1 ?i2 ?i3 ?i4) ?k1 ?k2 ?k3 ?k4 ?k5 ?k6 ?k7 ?k8 ?k9 ?k10 ?k11 ?k12 ?_); (case k4 => k_asm); (case k11 => (intro p hp; rw [List.mem_singleton.mp hp]; k_mem)); (case i1 => repeat' (first | exact True.intro | refine And.intro (by decide +kernel) ?_)); (case i2 => exact Nat.le_of_ble_eq_true rfl); (case i3 => exact Nat.le_of_ble_eq_true rfl); (case i4 => (show @Ne Nat _ _); omega); walk_at "mine calledR"; intro r9 h9 tk9 o9 S9 R9 F9 N9; obtain ⟨c9, hc9, t9, e9⟩ := R9; subst e9; obtain ⟨w9, w8⟩ := wrong_none _ hc9; (try dsimp only at N9); (try dsimp only); (try k_sweep); (try k_fold)))
theorem t_sign_right (w : World) (mean : ExcName → Option Value) (mg mb : Str → Option Value) (a : Addr) (o : Obj) (rest : List (Addr × Obj)) (S : Src o) (hne : ∀ p ∈ rest, p.1 ≠ a)
    (hm : ∀ c, Known c → ∀ k ∈ [0, 0, 1, 9], ∀ l ∈ FOUR c k, charOf l = dueOf c) :
    TellT PySem.Challenge.rw_nu0055_01.row.toRowW.prog w (hd.heap_39 w.params) mean mg mb 186 8 [.ref a] ((a, o) :: rest) (fun r news' => r = .bool true ∧ ∃ o', Src o' ∧ news' = (a, o') :: rest) := by
  k_fill
  refine' tellT_of_body [(Str.ofString "source", .ref a)] ?ho ?hcd ?hb ?hl ?hco ?hg ?hk ?hc ?_
  walk_at "mine enter"
  intro dp un gd outer A₀ base g L s B X TT XB TB D F N hd hu
  show wpAny _ _ _ _ _ _
  k_fold
  k_steps
  rename Fr _ _ _ _ => F1
  rename News _ _ _ _ => N1
  refine unhalt (mid_code (a := a) (rest := rest) F1 ?_ ?_)
  · show wpAny _ _ (eval (Expr.IfExp _ _ _ _) _) _ _ _
    refine wpAny_IfExp ?_
    k_fold
    k_steps
    · exact ⟨_, _, _, _, _, rfl, .inl (by assumption), rfl, by assumption, by k_asm, news_sub (by k_asm) (by kcj_all)⟩
    · exact ⟨_, _, _, _, _, rfl, .inr (by omega), rfl, by assumption, by k_asm, news_sub (by k_asm) (by kcj_all)⟩
  intro h' tk' o' c tc hkn S' F' N'
  have hc41 := known_lt hkn
  have hl10 := digs_len (b := 10) (by decide) 41 c hc41
  have hl16 := digs_len (b := 16) (by decide) 41 c hc41
  show wpAny _ _ _ _ _ _
  k_fold
  k_steps
  rename Fr _ _ _ _ => F2
  rename News _ _ _ _ => N2
  refine unhalt (mid_due (c := c) F2 N2 ?_ ?_)
  · show wpAny _ _ (eval (Expr.IfExp _ _ _ _) _) _ _ _
    refine wpAny_IfExp ?_
    k_fold
    k_steps
    · rename lawSign _ = true => hq
      have hq2 := lawSign_le hq
      k_steps
      exact ⟨_, _, rfl, due_some hq rfl, by k_asm, by k_asm⟩
    · rename lawSign _ = false => hq
      exact ⟨_, _, rfl, due_none hq, by k_asm, by k_asm⟩
  intro h3 tk3 vd hvd F3 N3
  show wpAny _ _ _ _ _ _
  k_fold
  k_steps
  refine unhalt (wpAny_For ?_)
  k_fold
  k_steps
  rename Fr _ _ _ _ => F4
  rename News _ _ _ _ => N4
  rename Src _ => S4
  rename _ ∈ [0, 0, 1, 9] => hk4
  have hq4 := lt10 hk4
  have hm4 := hm c hkn _ hk4
  show wpAny _ _ (pyIter _) _ _ _
  refine for_list (A₀ := A₀) (base := base) (outer := outer) rfl rfl ⟨B, X, TT, D⟩ F4 (news_drop2 N4) rfl 0 rfl ?_ ?_
  · intro i v g2 h2 tk2 u oI I hv T2 G2 F5 N5 hI
    rw [List.getElem?_toArray] at hv
    obtain ⟨l, t, rfl, hch, hlen⟩ := four_at hc41 hq4 hm4 hv ⟨rfl, rfl, rfl, rfl, True.intro⟩
    obtain ⟨B2, X2, U2, D2⟩ := G2
    cases hdue : dueOf c with
    | none =>
      rw [hdue] at hch hvd
      have e1 : vd = .none := hvd
      subst e1
      show wpAny _ _ _ _ _ _
      k_fold
      k_steps
      walk_at "mine tidy"
      exact turnF_of (some (.str (T l) t)) (T2.trans (by assumption)) ⟨by assumption, by assumption, by assumption, by assumption⟩ (by k_asm) (by k_asm) (by funext y; by_cases q : y = Str.ofString "told" <;> simp [q])
    | some n =>
      rw [hdue] at hch hvd
      obtain ⟨td, rfl⟩ := hvd
      have e2 : (T [n] != T [n]) = false := by simp
      show wpAny _ _ _ _ _ _
      k_fold
      k_steps
      walk_at "mine tidy"
      exact turnF_of (some (.str (T l) t)) (T2.trans (by assumption)) ⟨by assumption, by assumption, by assumption, by assumption⟩ (by k_asm) (by k_asm) (by funext y; by_cases q : y = Str.ofString "told" <;> simp [q])
  · intro g2 h2 tk2 u T2 G2 F5 N5
    obtain ⟨B2, X2, U2, D2⟩ := G2
    show wpAny _ _ _ _ _ _
    (try k_fold)
    k_steps
    rename Src _ => S6
    rename KtsTurn _ _ _ => T6
    exact doneT_of (T2.trans T6) (by k_asm) (news_sub (l := (a, _) :: rest) (by k_asm) (by kcj_all)) ⟨rfl, _, S6, rfl⟩
end
-- part L5
section
section
variable {prog : Program} {w : World} {A : Around} {s : Shared} {h₀ : Heap} {L : Addr} {m : Str → Option Value} {env : Env}
/-- the end of an element's run in a comprehension over a list: what it is, all else as it was -/
def EltR (h₀ : Heap) (L : Addr) (m : Str → Option Value) (nn : List (Addr × Obj)) (s : Shared) (Res : Value → Prop) (y : Value) (s₂ : Shared) : Prop :=
  ∃ h' tk', s₂ = { s with heap := h', toks := tk' } ∧ Res y ∧ Fr h₀ L h' m ∧ News h₀ L h' nn
theorem elt_r {m' : Str → Option Value} {nn : List (Addr × Obj)} {Res : Value → Prop} {y : Value} {h' : Heap} {tk' : Nat} (F : Fr h₀ L h' m') (N : News h₀ L h' nn) (e : Res y) : EltR h₀ L m' nn s Res y { s with heap := h', toks := tk' } := ⟨h', tk', rfl, e, F, N⟩
/-- a comprehension whose elements are made each from one item of a list -/
theorem comp_list {elt : PySem.Expr} {x : Str} {scope : Scope} {cl : List (Str × Addr)} {S : List (Addr × Obj) → Prop} {its : Array Value} {Fin : List Value → List (Addr × Obj) → Prop} {news : List (Addr × Obj)} (Res : Nat → Value → Prop)
    (hS : S news)
    (turn : ∀ i v I oI C oC D m₂ ys h tk nn, its[i]? = some v → LCg.NsObj oC m₂ → m₂ x = some v → Fr h₀ L h m → nn = (I, oI) :: (C, oC) :: (D, LCg.lst ys) :: news → News h₀ L h nn → (C, oC) ∈ nn →
      wpAny (model prog w) A (eval elt (compEnvC scope cl C env)) (EltR h₀ L m nn s (Res i)) (fun _ _ => False) { s with heap := h, toks := tk })
    (fin : ∀ ys : List Value, ys.length = its.size → (∀ (i : Nat) (y : Value), ys[i]? = some y → Res i y) → Fin ys news) : LCg.CompRest prog w A h₀ L m env elt x scope cl s S (fun i v => its[i]? = some v) Fin its.size 0 [] news := by
  have key : ∀ (j i : Nat) (ys : List Value), i + j = its.size → ys.length = i → (∀ (k : Nat) (y : Value), ys[k]? = some y → Res k y) → LCg.CompRest prog w A h₀ L m env elt x scope cl s S (fun i v => its[i]? = some v) Fin j i ys news := by
    intro j
    induction j with
    | zero =>
      intro i ys hi hl hy
      exact LCg.CompRest.zero (fin ys (by omega) hy)
    | succ j ih =>
      intro i ys hi hl hy
      refine LCg.CompRest.succ ?_
      intro v I oI C oC D m₂ h tk E' hv hC hx F N off ne
      refine wpAny_mono (turn i v I oI C oC D m₂ ys h tk _ hv hC hx F rfl N (.tail _ (.head _))) (fun y s₂ hq => ?_) fun _ _ e => e.elim
      obtain ⟨h', tk', rfl, hr, F', N'⟩ := hq
      refine ⟨h', tk', news, rfl, F', N', off, hS, ?_⟩
      refine ih (i + 1) _ (by omega) (by rw [List.length_append, hl]; rfl) ?_
      intro k z hz
      by_cases q : k < ys.length
      · rw [List.getElem?_append_left q] at hz
        exact hy k z hz
      · rw [List.getElem?_append_right (by omega)] at hz
        cases hk : k - ys.length with
        | zero =>
          rw [hk] at hz
          have e : y = z := by simpa using hz
          have e2 : k = i := by omega
          rw [← e, e2]
          exact hr
        | succ _ =>
          rw [hk] at hz
          simp at hz
  exact key its.size 0 [] (by omega) rfl (by simp)
def DrawEnd (h₀ : Heap) (L : Addr) (m : Str → Option Value) (s : Shared) (Res : Value → Prop) (I : Addr) (oI : Obj) (C : Addr) (oC : Obj) (D : Addr) (ys : List Value) (a : Addr) (rest : List (Addr × Obj)) (y : Value) (s₂ : Shared) : Prop :=
  ∃ h' tk' o2, s₂ = { s with heap := h', toks := tk' } ∧ Res y ∧ Src o2 ∧ Fr h₀ L h' m ∧ News h₀ L h' ((I, oI) :: (C, oC) :: (D, LCg.lst ys) :: (a, o2) :: rest)
/-- a comprehension over a range whose elements draw from the source -/
theorem comp_draw {elt : PySem.Expr} {x : Str} {scope : Scope} {cl : List (Str × Addr)} {a : Addr} {o : Obj} {n : Nat} {P : Nat → Value → Prop} {Fin : List Value → List (Addr × Obj) → Prop} {rest : List (Addr × Obj)} (Res : Value → Prop)
    (ho : Src o)
    (turn : ∀ v o' I oI C oC D m₂ ys h tk, Src o' → LCg.NsObj oC m₂ → m₂ x = some v → Fr h₀ L h m → News h₀ L h ((I, oI) :: (C, oC) :: (D, LCg.lst ys) :: (a, o') :: rest) → LCg.Off3 I C D ((a, o') :: rest) →
      wpAny (model prog w) A (eval elt (compEnvC scope cl C env)) (DrawEnd h₀ L m s Res I oI C oC D ys a rest) (fun _ _ => False) { s with heap := h, toks := tk })
    (hoff : ∀ I C D o1 o2, LCg.Off3 I C D ((a, o1) :: rest) → LCg.Off3 I C D ((a, o2) :: rest))
    (fin : ∀ (ys : List Value) o', Src o' → ys.length = n → (∀ y ∈ ys, Res y) → Fin ys ((a, o') :: rest)) : LCg.CompRest prog w A h₀ L m env elt x scope cl s (fun _ => True) P Fin n 0 [] ((a, o) :: rest) := by
  have key : ∀ (j i : Nat) (ys : List Value) o', Src o' → i + j = n → ys.length = i → (∀ y ∈ ys, Res y) → LCg.CompRest prog w A h₀ L m env elt x scope cl s (fun _ => True) P Fin j i ys ((a, o') :: rest) := by
    intro j
    induction j with
    | zero =>
      intro i ys o' ho' hi hl hy
      exact LCg.CompRest.zero (fin ys o' ho' (by omega) hy)
    | succ j ih =>
      intro i ys o' ho' hi hl hy
      refine LCg.CompRest.succ ?_
      intro v I oI C oC D m₂ h tk E' hv hC hx F N off ne
      refine wpAny_mono (turn v o' I oI C oC D m₂ ys h tk ho' hC hx F N off) (fun y s₂ hq => ?_) fun _ _ e => e.elim
      obtain ⟨h', tk', o2, rfl, hr, ho2, F', N'⟩ := hq
      refine ⟨h', tk', (a, o2) :: rest, rfl, F', N', hoff _ _ _ _ _ off, trivial, ?_⟩
      refine ih (i + 1) _ o2 ho2 (by omega) (by rw [List.length_append, hl]; rfl) ?_
      intro z hz
      rcases List.mem_append.mp hz with hz | hz
      · exact hy z hz
      · rw [List.mem_singleton.mp hz]
        exact hr
  exact key n 0 [] o ho (by omega) rfl (by simp)
end
end
-- part L6
section
theorem txtsL_idx : ∀ {vs : List Value} {cs : List (List Nat)}, TxtsL vs cs → ∀ {k : Nat} {v : Value}, vs[k]? = some v → ∃ c, cs[k]? = some c ∧ ∃ t, v = .str (T c) t
  | [], _, _, _, _, e => by simp at e
  | .str i t :: vs, c :: cs, h, 0, v, e => by
    simp only [List.getElem?_cons_zero, Option.some.injEq] at e
    exact ⟨c, by simp, t, by rw [← e, h.1]⟩
  | .str i t :: vs, c :: cs, h, k + 1, v, e => by
    rw [List.getElem?_cons_succ] at e ⊢
    exact txtsL_idx h.2 e
  | .str i t :: vs, [], h, _, _, _ => (show False from h).elim
  | .none :: _, _, h, _, _, _ => by cases h
  | .bool _ :: _, _, h, _, _, _ => by cases h
  | .float .. :: _, _, h, _, _, _ => by cases h
  | .int .. :: _, _, h, _, _, _ => by cases h
  | .ref _ :: _, _, h, _, _, _ => by cases h
  | .type _ :: _, _, h, _, _, _ => by cases h
  | .builtin _ :: _, _, h, _, _, _ => by cases h
def NAMES : List (List Nat) := [[108,116],[103,116],[97,109,112],[97,112,111,115],[113,117,111,116],[110,98,115,112],[76,84],[],[108],[97,109,112,59]]
theorem names_list {ys : List Value} (hl : ys.length = 10) (h : ∀ (i : Nat) (y : Value), ys[i]? = some y → ∃ l, NAMES[i]? = some l ∧ OptStr (predef l) y) :
    ∃ t0 t1 t2 t3 t4, ys = [.str (Str.ofString "<") t0, .str (Str.ofString ">") t1, .str (Str.ofString "&") t2, .str (Str.ofString "'") t3, .str (Str.ofString "\"") t4, .none, .none, .none, .none, .none] := by
  match ys, hl with
  | [y0, y1, y2, y3, y4, y5, y6, y7, y8, y9], _ =>
    obtain ⟨l0, e0, p0⟩ := h 0 y0 rfl
    obtain ⟨l1, e1, p1⟩ := h 1 y1 rfl
    obtain ⟨l2, e2, p2⟩ := h 2 y2 rfl
    obtain ⟨l3, e3, p3⟩ := h 3 y3 rfl
    obtain ⟨l4, e4, p4⟩ := h 4 y4 rfl
    obtain ⟨l5, e5, p5⟩ := h 5 y5 rfl
    obtain ⟨l6, e6, p6⟩ := h 6 y6 rfl
    obtain ⟨l7, e7, p7⟩ := h 7 y7 rfl
    obtain ⟨l8, e8, p8⟩ := h 8 y8 rfl
    obtain ⟨l9, e9, p9⟩ := h 9 y9 rfl
    cases e0; cases e1; cases e2; cases e3; cases e4; cases e5; cases e6; cases e7; cases e8; cases e9
    obtain ⟨t0, rfl⟩ := p0
    obtain ⟨t1, rfl⟩ := p1
    obtain ⟨t2, rfl⟩ := p2
    obtain ⟨t3, rfl⟩ := p3
    obtain ⟨t4, rfl⟩ := p4
    cases p5; cases p6; cases p7; cases p8; cases p9
    exact ⟨t0, t1, t2, t3, t4, rfl⟩
end
-- part L7
section
section
variable {prog : Program} {w : World} {A : Around} {E : Value → Shared → Prop} {s : Shared} {h₀ : Heap} {L : Addr} {m : Str → Option Value} {env : Env}
/-- the source of a comprehension with a test over the signs of a text -/
def SrcTT (prog : Program) (w : World) (A : Around) (h₀ : Heap) (L : Addr) (m : Str → Option Value) (env : Env) (ct elt : PySem.Expr) (x : Str) (scope : Scope) (cl : List (Str × Addr)) (Q : Value → Shared → Prop) (xv : Value) (s₁ : Shared) : Prop :=
  ∃ (l : List Nat) (tx : Tok) (news : List (Addr × Obj)), xv = .str (T l) tx ∧ A.handled = none ∧ Fr h₀ L s₁.heap m ∧ News h₀ L s₁.heap news ∧ l.length ≤ sizeLine ∧
    ∀ s₂ : Shared, (∃ h, s₂ = { s₁ with heap := h }) → LCt.CompRestT prog w A h₀ L m env ct elt x scope cl s₂ (fun _ => True) (SignAt (T l)) (LCg.FinE h₀ L m s₂ Q) l.length 0 [] news
theorem comp_blockT {ct elt iter : PySem.Expr} {x : Str} {px : Pos} {scope : Scope} {cl : List (Str × Addr)} {pos : Pos} {Q : Value → Shared → Prop} {l : List Nat} {tx : Tok} {ty : String} {news : List (Addr × Obj)} {ob : Obj}
    (W : Walks prog w A s.heap.objs.size [s.heap.objs.size] [s.heap.objs.size] (T l).cps.size (SignAt (T l)) (fun i h => h.IsStrIter s.heap.objs.size ty (T l) tx i)) (st : (s.heap.push ob).IsStrIter s.heap.objs.size ty (T l) tx 0)
    (hcell : ∀ y ∈ scope.names, y.2 ≠ .cell) (hkind : scope.kind = .function) (hx : scope.names.lookup x = some .local)
    (F : Fr h₀ L s.heap m) (N : News h₀ L s.heap news) (hsz : l.length ≤ sizeLine)
    (R : LCt.CompRestT prog w A h₀ L m env ct elt x scope cl { s with heap := s.heap.push ob } (fun _ => True) (SignAt (T l)) (LCg.FinE h₀ L m { s with heap := s.heap.push ob } Q) l.length 0 [] news) :
    wpAny (model prog w) A (newList []) (fun acc s₃ => wpAny (model prog w) A (newFunctionEnv scope env.globals cl [] env.qual none .none (some env)) (fun cenv s₄ =>
      codeAny (model prog w) A (.compStart (.ListComp elt [⟨.Name x px, iter, [ct], 0⟩] scope pos) 0 (.ref s.heap.objs.size) acc { cenv with scope := relabel scope env }) (compPost (model prog w) A E none Q acc cenv.locals) s₄) E s₃) E { s with heap := s.heap.push ob } := by
  have hl : (T l).cps.size = l.length := T_len l
  rw [hl] at W
  refine LCt.block_T W hsz (fun i h st => by obtain ⟨o, e, _⟩ := st; exact ⟨o, e⟩) iter_st hcell hkind hx st (fun b hb => ?_)
    (F.keeps fun _ _ e => Heap.get?_push_of_some _ e) (N.grown fun _ _ e => Heap.get?_push_of_some _ e) (Nat.ne_of_lt F.ns.lt) (next_is_new F) (fun p hp => Nat.ne_of_lt (Heap.lt_size (N p hp).1)) trivial R ?_
  · rw [List.mem_singleton.mp hb]
    show s.heap.objs.size < (s.heap.push ob).objs.size
    rw [Heap.size_push]
    exact Nat.lt_succ_self _
  · intro D C h tk m' ys news' F' N' o1 hn hC₀ hD₀ hCL hDL hCD offC fin
    refine ⟨m', hn, fun h'' hs'' => fin D h'' tk (F'.change hs'' hCL hC₀) (fun p hp => ?_) o1⟩
    refine ⟨hs''.extBut _ _ ?_ (N' p hp).1, (N' p hp).2⟩
    rcases List.mem_cons.mp hp with rfl | hp
    · exact Ne.symm hCD
    · exact offC p hp
theorem ListComp_ST {ct elt iter : PySem.Expr} {x : Str} {px : Pos} {scope : Scope} {cl : List (Str × Addr)} {pos : Pos} {Q : Value → Shared → Prop} (_F₀ : Fr h₀ L s.heap m)
    (hclos : closureFor scope env = pure cl) (hcell : ∀ y ∈ scope.names, y.2 ≠ .cell) (hkind : scope.kind = .function)
    (hnames : ∀ y ∈ scope.names, y.2 = .local → scope.names.lookup y.1 = some .local) (hx : scope.names.lookup x = some .local)
    (h : wpAny (model prog w) A (eval iter env) (SrcTT prog w A h₀ L m env ct elt x scope cl Q) E s)
    (hs : ∀ x, foldedSetIterable iter env x = pure x) :
    wpAny (model prog w) A (eval (.ListComp elt [⟨.Name x px, iter, [ct], 0⟩] scope pos) env) Q E s := by
  rw [eval_ListComp]
  refine wpAny_comprehension_free (use := none) rfl hs hclos hkind hnames (wpAny_mono h (fun xv s₁ h₁ => ?_) fun _ _ e => e)
  obtain ⟨l, tx, news, rfl, hh, F, N, hsz, R⟩ := h₁
  cases ha : (T l).cps.all (· < 128)
  · exact wpAny_pyIter_wide ha (comp_blockT (Walks.strWide hh _ (T l) tx) ⟨_, Heap.get?_push_size _ rfl, rfl, rfl⟩ hcell hkind hx F N hsz (R _ ⟨_, rfl⟩))
  · exact wpAny_pyIter_ascii ha (comp_blockT (Walks.strAscii hh _ (T l) tx) ⟨_, Heap.get?_push_size _ rfl, rfl, rfl⟩ hcell hkind hx F N hsz (R _ ⟨_, rfl⟩))
/-- a comprehension over a text with a test that no sign passes -/
theorem comp_none {ct elt : PySem.Expr} {x : Str} {scope : Scope} {cl : List (Str × Addr)} {S : List (Addr × Obj) → Prop} {l : List Nat} {Fin : List Value → List (Addr × Obj) → Prop} {news : List (Addr × Obj)}
    (hS : S news)
    (turn : ∀ c t I oI C oC D m₂ h tk nn, c ∈ l → LCg.NsObj oC m₂ → m₂ x = some (.str ⟨#[c]⟩ t) → Fr h₀ L h m → nn = (I, oI) :: (C, oC) :: (D, LCg.lst []) :: news → News h₀ L h nn → (C, oC) ∈ nn →
      wpAny (model prog w) A (isTrue ct (compEnvC scope cl C env) (eval ct (compEnvC scope cl C env))) (fun ok s' => ok = false ∧ EltR h₀ L m nn s (fun _ => True) .none s') (fun _ _ => False) { s with heap := h, toks := tk })
    (fin : Fin [] news) : LCt.CompRestT prog w A h₀ L m env ct elt x scope cl s S (SignAt (T l)) Fin l.length 0 [] news := by
  have key : ∀ (j i : Nat), i + j = l.length → LCt.CompRestT prog w A h₀ L m env ct elt x scope cl s S (SignAt (T l)) Fin j i [] news := by
    intro j
    induction j with
    | zero =>
      intro i hi
      exact LCt.CompRestT.zero fin
    | succ j ih =>
      intro i hi
      refine LCt.CompRestT.succ ?_
      intro v I oI C oC D m₂ h tk E' hv hC hx F N off ne
      obtain ⟨c, t, hc, rfl⟩ := hv
      have hc' : l[i]? = some c := by simpa [T] using hc
      refine wpAny_mono (turn c t I oI C oC D m₂ h tk _ (List.mem_of_getElem? hc') hC hx F rfl N (.tail _ (.head _))) (fun y s₂ hq => ?_) fun _ _ e => e.elim
      obtain ⟨rfl, h', tk', rfl, -, F', N'⟩ := hq
      rw [if_neg (by decide)]
      exact ⟨h', tk', news, rfl, F', N', off, hS, ih (i + 1) (by omega)⟩
  exact key l.length 0 (by omega)
end
end
-- part M1
section
theorem good_of_name {c : Nat} {nm : List Nat} (h1 : 59 ∉ nm) (h2 : nm.length ≤ 5) (h3 : nm.take 1 ≠ [35]) (h4 : predef nm = some [c]) : Good c (38 :: (nm ++ [59])) := .inr ⟨nm, rfl, h1, h2, .inl ⟨h3, h4⟩⟩
theorem good_of_num {c : Nat} {d : List Nat} (h1 : 59 ∉ (35 :: d)) (h2 : (35 :: d).length ≤ 5) (h4 : charOf d = some c) : Good c (38 :: ((35 :: d) ++ [59])) := .inr ⟨35 :: d, rfl, h1, h2, .inr ⟨d, rfl, h4⟩⟩
theorem good_t (c : Nat) : Good c (tesc c) := by
  unfold tesc
  split
  · rename_i h; subst h; exact good_of_name (nm := [97,109,112]) (by decide) (by decide) (by decide) (by decide)
  · split
    · rename_i h; subst h; exact good_of_name (nm := [108,116]) (by decide) (by decide) (by decide) (by decide)
    · split
      · rename_i h; subst h; exact good_of_name (nm := [103,116]) (by decide) (by decide) (by decide) (by decide)
      · split
        · rename_i h; subst h; exact good_of_num (d := [49,51]) (by decide) (by decide) (by decide +kernel)
        · rename_i h1 h2 h3 h4; exact .inl ⟨rfl, by omega, by omega⟩
theorem good_v (c : Nat) : Good c (vesc c) := by
  unfold vesc
  repeat' split
  all_goals first
    | (rename_i h; subst h; first
        | exact good_of_name (nm := [97,109,112]) (by decide) (by decide) (by decide) (by decide)
        | exact good_of_name (nm := [108,116]) (by decide) (by decide) (by decide) (by decide)
        | exact good_of_name (nm := [113,117,111,116]) (by decide) (by decide) (by decide) (by decide)
        | exact good_of_num (d := [57]) (by decide) (by decide) (by decide +kernel)
        | exact good_of_num (d := [49,48]) (by decide) (by decide) (by decide +kernel)
        | exact good_of_num (d := [49,51]) (by decide) (by decide) (by decide +kernel))
    | exact .inl ⟨rfl, by omega, by omega⟩
theorem tesc_no (d : Nat) (hd : d = 13 ∨ d = 62) (txt : List Nat) : d ∉ txt.flatMap tesc := by
  intro h
  obtain ⟨c, -, hc⟩ := List.mem_flatMap.mp h
  unfold tesc at hc
  rcases hd with rfl | rfl
  all_goals (repeat' split at hc) <;> simp at hc <;> omega
theorem vesc_no (d : Nat) (hd : d = 34 ∨ d = 9 ∨ d = 10 ∨ d = 13) (txt : List Nat) : d ∉ txt.flatMap vesc := by
  intro h
  obtain ⟨c, -, hc⟩ := List.mem_flatMap.mp h
  unfold vesc at hc
  rcases hd with rfl | rfl | rfl | rfl
  all_goals (repeat' split at hc) <;> simp at hc <;> omega
theorem no_cr (txt : List Nat) : (!(PySem.Builtin.Str.occurrences (T (txt.flatMap tesc)) (Str.ofString "\r") 0 (T (txt.flatMap tesc)).length 1).isEmpty) = false := by
  have e : Str.ofString "\r" = ⟨#[13]⟩ := by decide +kernel
  rw [e, one_in 13 (T (txt.flatMap tesc)) (txt.flatMap tesc) (by simp [T])]
  have := tesc_no 13 (.inl rfl) txt
  simp [this]
theorem no_mark (txt : List Nat) (c : Nat) (hc : c ∈ txt.flatMap vesc) : (!(PySem.Builtin.Str.occurrences (Str.ofString "\"\t\n\r") ⟨#[c]⟩ 0 (Str.ofString "\"\t\n\r").length 1).isEmpty) = false := by
  rw [one_in c _ [34, 9, 10, 13] (by decide +kernel)]
  have h : c ∉ [34, 9, 10, 13] := by
    intro h
    simp only [List.mem_cons, List.not_mem_nil, or_false] at h
    exact vesc_no c h txt hc
  simp only [h, decide_false, Bool.not_false, Bool.not_true]
end
-- part M2
section
theorem no_end (txt : List Nat) : (!(PySem.Builtin.Str.occurrences (T (txt.flatMap tesc)) (Str.ofString "]]>") 0 (T (txt.flatMap tesc)).length 1).isEmpty) = false := by
  rw [Bool.eq_false_iff]
  intro h
  obtain ⟨i, _, hs⟩ := (PySem.StrLaws.found_iff _ _).mp h
  unfold PySem.Builtin.Str.subAt at hs
  have e := eq_of_beq hs
  have hm : 62 ∈ ((T (txt.flatMap tesc)).cps.extract i (i + (Str.ofString "]]>").length)) := by
    rw [e]
    decide +kernel
  have hm2 : 62 ∈ (T (txt.flatMap tesc)).cps := by
    rw [Array.mem_iff_getElem] at hm ⊢
    obtain ⟨k, hk, ek⟩ := hm
    rw [Array.getElem_extract] at ek
    rw [Array.size_extract] at hk
    exact ⟨i + k, by omega, ek⟩
  exact tesc_no 62 (.inr rfl) txt (by simpa [T] using hm2)
end
-- part M3
section
theorem vodGo_app (sg : List Nat) : ∀ (l r : List Nat) (n : Nat), vodGo sg n (l ++ r) = (vodGo sg n l).bind fun m => vodGo sg m r
  | [], r, n => rfl
  | d :: l, r, n => by
    show (match posOf d sg 0 with | none => none | some v => vodGo sg (n * sg.length + v) (l ++ r)) = (match posOf d sg 0 with | none => none | some v => vodGo sg (n * sg.length + v) l).bind _
    cases posOf d sg 0 with
    | none => rfl
    | some v => exact vodGo_app sg l r _
theorem vod_digs {b : Nat} {sg : List Nat} (hb : 2 ≤ b) (hl : sg.length = b) (hs : ∀ d, d < b → posOf (dig d) sg 0 = some d) (n : Nat) : vodGo sg 0 (digs b n) = some n := by
  induction n using Nat.strongRecOn with
  | ind n ih =>
    have hm : n % b < b := Nat.mod_lt _ (by omega)
    by_cases q : n < b
    · rw [digs_lt q, Nat.mod_eq_of_lt q]
      show (match posOf (dig n) sg 0 with | none => none | some v => vodGo sg (0 * sg.length + v) []) = _
      rw [hs n q]
      simp [vodGo]
    · rw [digs_ge hb (by omega), vodGo_app, ih (n / b) (Nat.div_lt_self (by omega) (by omega))]
      show (match posOf (dig (n % b)) sg 0 with | none => none | some v => vodGo sg (n / b * sg.length + v) []) = _
      rw [hs _ hm, hl]
      show some (n / b * b + n % b) = _
      rw [Nat.div_add_mod']
theorem digs_ne {b : Nat} (n : Nat) : digs b n ≠ [] := by
  rw [digs]
  split <;> simp
theorem strip0_cons {l : List Nat} (h : l ≠ []) : strip0 (48 :: l) = strip0 l := by
  match l, h with
  | a :: r, _ => simp [strip0]
theorem strip0_rep {l : List Nat} (h : l ≠ []) : ∀ k, strip0 (List.replicate k 48 ++ l) = strip0 l
  | 0 => rfl
  | k + 1 => by
    rw [List.replicate_succ, List.cons_append, strip0_cons (by simp [h]), strip0_rep h k]
theorem dig_48 {d : Nat} (h : d < 16) : dig d = 48 ↔ d = 0 := by
  unfold dig
  split <;> omega
/-- the first digit of a number that is not nought -/
theorem digs_head {b : Nat} (hb : 2 ≤ b) (hb2 : b ≤ 16) (n : Nat) (h0 : 0 < n) : ∃ d r, digs b n = dig d :: r ∧ 0 < d ∧ d < b := by
  induction n using Nat.strongRecOn with
  | ind n ih =>
    by_cases q : n < b
    · exact ⟨n, [], by rw [digs_lt q, Nat.mod_eq_of_lt q], h0, q⟩
    · obtain ⟨d, r, e, h1, h2⟩ := ih (n / b) (Nat.div_lt_self h0 (by omega)) (Nat.div_pos (by omega) (by omega))
      exact ⟨d, r ++ [dig (n % b)], by rw [digs_ge hb (by omega), e]; rfl, h1, h2⟩
theorem strip0_head {a : Nat} {r : List Nat} (h : a ≠ 48) : strip0 (a :: r) = a :: r := by
  cases r with
  | nil => rfl
  | cons b r => simp [strip0, h]
theorem strip0_digs {b : Nat} (hb : 2 ≤ b) (hb2 : b ≤ 16) (n : Nat) : strip0 (digs b n) = digs b n := by
  by_cases h0 : 0 < n
  · obtain ⟨d, r, e, h1, h2⟩ := digs_head hb hb2 n h0
    rw [e]
    exact strip0_head fun q => by rw [dig_48 (by omega)] at q; omega
  · have : n = 0 := by omega
    subst this
    rw [digs_lt (by omega)]
    rfl
theorem digs_len_le {b : Nat} (hb : 2 ≤ b) : ∀ (j n : Nat), n < b ^ (j + 1) → (digs b n).length ≤ j + 1
  | 0, n, h => by
    rw [digs_lt (by simpa using h)]
    simp
  | j + 1, n, h => by
    by_cases q : n < b
    · rw [digs_lt q]; simp
    · have h2 : n / b < b ^ (j + 1) := by
        rw [Nat.div_lt_iff_lt_mul (by omega)]
        rwa [← Nat.pow_succ]
      have := digs_len_le hb j (n / b) h2
      rw [digs_ge hb (by omega), List.length_append, List.length_singleton]
      omega
theorem digs_len_ge {b : Nat} (hb : 2 ≤ b) : ∀ (j n : Nat), b ^ j ≤ n → j + 1 ≤ (digs b n).length
  | 0, n, _ => by
    have := digs_ne (b := b) n
    cases h : digs b n with
    | nil => exact absurd h this
    | cons _ _ => simp
  | j + 1, n, h => by
    have hbj : b ≤ b ^ (j + 1) := by
      have := Nat.pow_le_pow_right (show 0 < b by omega) (show 1 ≤ j + 1 by omega)
      simpa using this
    have h2 : b ^ j ≤ n / b := by
      rw [Nat.le_div_iff_mul_le (by omega)]
      rwa [← Nat.pow_succ]
    have := digs_len_ge hb j (n / b) h2
    rw [digs_ge hb (by omega), List.length_append, List.length_singleton]
    omega
theorem dec_pos : ∀ d, d < 10 → posOf (dig d) DEC 0 = some d := by decide
theorem hex_pos : ∀ d, d < 16 → posOf (dig d) HEX 0 = some d := by decide
theorem known_cases {c : Nat} (h : Known c) : c = 1099511627776 ∨ c < 1200000 := by
  rcases h with h | h
  · simp only [BORDERS, List.mem_cons, List.not_mem_nil, or_false] at h
    omega
  · exact .inr h
theorem sign_same (c : Nat) : isChar c = lawSign c := by
  rw [isChar, lawSign, decide_eq_decide]
  omega
theorem sign_le {c : Nat} (h : lawSign c = true) : c ≤ 1114111 := by
  rw [lawSign, decide_eq_true_iff] at h
  omega
/-- a text that tells c tells what is due -/
theorem tells {l : List Nat} {c : Nat} (h : codeOf l = some c) : charOf l = dueOf c := by
  unfold charOf dueOf
  rw [h]
  dsimp only
  rw [sign_same]
  by_cases q : lawSign c = true
  · rw [if_pos q, if_pos ⟨sign_le q, q⟩]
  · rw [if_neg q, if_neg fun z => q z.2]
theorem due_big : dueOf 1099511627776 = none := by decide +kernel
theorem tells_none {l : List Nat} (h : codeOf l = none) : charOf l = none := by
  unfold charOf
  rw [h]
theorem dec_of {l : List Nat} (h : l.head? ≠ some 120) : codeOf l = codeDec l := by
  unfold codeOf
  split
  · exact absurd rfl h
  · rfl
theorem digs_mem {b : Nat} (hb : 2 ≤ b) (n : Nat) : ∀ x ∈ digs b n, ∃ d, d < b ∧ x = dig d := by
  induction n using Nat.strongRecOn with
  | ind n ih =>
    have hm : n % b < b := Nat.mod_lt _ (by omega)
    by_cases q : n < b
    · rw [digs_lt q]
      intro x hx
      exact ⟨_, hm, List.mem_singleton.mp hx⟩
    · rw [digs_ge hb (by omega)]
      intro x hx
      rcases List.mem_append.mp hx with hx | hx
      · exact ih (n / b) (Nat.div_lt_self (by omega) (by omega)) x hx
      · exact ⟨_, hm, List.mem_singleton.mp hx⟩
theorem head_dec {k c : Nat} : (List.replicate k 48 ++ digs 10 c).head? ≠ some 120 := by
  cases k with
  | zero =>
    intro h
    obtain ⟨d, hd, e⟩ := digs_mem (b := 10) (by decide) c 120 (List.mem_of_mem_head? (by simpa using h))
    unfold dig at e
    split at e <;> omega
  | succ k => simp [List.replicate_succ]
theorem dec_tells {k c : Nat} (hc : Known c) : charOf (List.replicate k 48 ++ digs 10 c) = dueOf c := by
  have e1 : codeOf (List.replicate k 48 ++ digs 10 c) = if (digs 10 c).length > 12 then none else vod (digs 10 c) DEC := by
    rw [dec_of head_dec, codeDec, strip0_rep (digs_ne c), strip0_digs (by decide) (by decide)]
  rcases known_cases hc with rfl | h
  · rw [due_big]
    refine tells_none ?_
    rw [e1, if_pos]
    have := digs_len_ge (b := 10) (by decide) 12 1099511627776 (by decide)
    omega
  · refine tells ?_
    have := digs_len_le (b := 10) (by decide) 6 c (by omega)
    rw [e1, if_neg (by omega), vod, if_neg (digs_ne c)]
    exact vod_digs (b := 10) (sg := DEC) (by decide) rfl dec_pos c
theorem low_up {d : Nat} (h : d < 16) : lowA (up1 (dig d)) = dig d := by
  revert d
  decide
theorem low_dig {d : Nat} (h : d < 16) : lowA (dig d) = dig d := by
  revert d
  decide
theorem map_low (c : Nat) : (digs 16 c).map lowA = digs 16 c := by
  rw [List.map_congr_left (g := _root_.id)]
  · simp
  · intro x hx
    obtain ⟨d, hd, rfl⟩ := digs_mem (b := 16) (by decide) c x hx
    exact low_dig hd
theorem map_low_up (c : Nat) : ((digs 16 c).map up1).map lowA = digs 16 c := by
  rw [List.map_map, List.map_congr_left (g := _root_.id)]
  · simp
  · intro x hx
    obtain ⟨d, hd, rfl⟩ := digs_mem (b := 16) (by decide) c x hx
    exact low_up hd
theorem up_48 {d : Nat} (h : d < 16) (h0 : 0 < d) : up1 (dig d) ≠ 48 := by
  revert d
  decide
theorem strip0_up (c : Nat) : strip0 ((digs 16 c).map up1) = (digs 16 c).map up1 := by
  by_cases h0 : 0 < c
  · obtain ⟨d, r, e, h1, h2⟩ := digs_head (b := 16) (by decide) (by decide) c h0
    rw [e, List.map_cons]
    exact strip0_head (up_48 h2 h1)
  · have : c = 0 := by omega
    subst this
    rw [digs_lt (by omega)]
    rfl
theorem hex_len {c : Nat} (hc : Known c) : (digs 16 c).length ≤ 12 := by
  have := digs_len_le (b := 16) (by decide) 10 c (Nat.lt_trans (known_lt hc) (by decide))
  omega
theorem hex_tells {k c : Nat} (hc : Known c) : charOf (120 :: List.replicate k 48 ++ digs 16 c) = dueOf c := by
  refine tells ?_
  show codeHex (List.replicate k 48 ++ digs 16 c) = some c
  have := hex_len hc
  rw [codeHex, strip0_rep (digs_ne c), strip0_digs (by decide) (by decide), if_neg (by omega), map_low, vod, if_neg (digs_ne c)]
  exact vod_digs (b := 16) (sg := HEX) (by decide) rfl hex_pos c
theorem up_tells {c : Nat} (hc : Known c) : charOf (120 :: (digs 16 c).map up1) = dueOf c := by
  refine tells ?_
  show codeHex ((digs 16 c).map up1) = some c
  have := hex_len hc
  rw [codeHex, strip0_up, List.length_map, if_neg (by omega), map_low_up, vod, if_neg (digs_ne c)]
  exact vod_digs (b := 16) (sg := HEX) (by decide) rfl hex_pos c
theorem four_tell (c : Nat) (hc : Known c) (k : Nat) (_hk : k ∈ [0, 0, 1, 9]) (l : List Nat) (hl : l ∈ FOUR c k) : charOf l = dueOf c := by
  simp only [FOUR, List.mem_cons, List.not_mem_nil, or_false] at hl
  rcases hl with rfl | rfl | rfl | rfl
  · exact dec_tells (k := 0) hc
  · exact dec_tells hc
  · exact hex_tells hc
  · exact up_tells hc
end
-- part LT2
section
theorem top_off_LT2 : True := by
  w_top off
  exact True.intro
theorem pinned {α : Type} {P : Prop} {x : Option α} {a b : α} (h1 : x = some a) (h2 : x = some b) (k : a = b → P) : P := k (Option.some.inj (h1.symm.trans h2))
def MENU : List (List Nat) := [[97],[38],[60],[62],[34],[39],[9],[10],[13],[32],[59],[93,93,62],[38,97,109,112,59],[38,35,54,53,59],[233]]
theorem menu_len : ∀ l ∈ MENU, l.length ≤ 5 := by decide
theorem strs_of : ∀ {ys : List Value}, (∀ y ∈ ys, ∃ l ∈ MENU, ∃ t, y = .str (T l) t) → ∃ ls : List (List Nat), StrsAre ys (ls.map T) ∧ ls.length = ys.length ∧ ∀ l ∈ ls, l ∈ MENU
  | [], _ => ⟨[], .nil, rfl, fun _ h => nomatch h⟩
  | y :: ys, h => by
    obtain ⟨l, hl, t, rfl⟩ := h y (.head _)
    obtain ⟨ls, a, b, c⟩ := strs_of fun z hz => h z (.tail _ hz)
    refine ⟨l :: ls, .cons _ _ a, by simp [b], fun z hz => ?_⟩
    rcases List.mem_cons.mp hz with rfl | hz
    · exact hl
    · exact c z hz
theorem news_swap {g h : Heap} {L : Addr} {p q : Addr × Obj} {l : List (Addr × Obj)} (N : News g L h (p :: q :: l)) : News g L h (q :: p :: l) := fun r hr => by
  rcases List.mem_cons.mp hr with rfl | hr
  · exact N _ (.tail _ (.head _))
  · rcases List.mem_cons.mp hr with rfl | hr
    · exact N _ (.head _)
    · exact N _ (.tail _ (.tail _ hr))
def LawEnd (g : Heap) (L I : Addr) (oI : Obj) (m : Str → Option Value) (s : Shared) (fl : Flow) (s' : Shared) : Prop :=
  fl = .next ∧ ∃ h' tk' m' o1' o2' x1' x2', s' = { s with heap := h', toks := tk' } ∧ Fr g L h' m' ∧ News g L h' [(L + 1 + 1, o2'), (L + 1, o1'), (I, oI)] ∧ o1'.data = .cell x1' ∧ o2'.data = .cell x2' ∧ (∀ y, y ∉ [Str.ofString "text", Str.ofString "plain", Str.ofString "value"] → m' y = m y)
section
variable {prog : Program} {w : World} {A : Around} {E : Value → Shared → Prop} {s : Shared} {t u : Tok} {Q : Value → Shared → Prop}
theorem in_by {x y : PySem.Str} {b : Bool} (e : (!(PySem.Builtin.Str.occurrences x y 0 x.length 1).isEmpty) = b) (h : Q (.bool b) s) : wpAny (model prog w) A (compareOp .In (.str y u) (.str x t)) Q E s := by
  subst e
  exact in_str h
end
local macro_rules | `(tactic| walk_at "compareOp In str str") => `(tactic| (k_here; refine in_by (by assumption) ?_))
theorem fr_nil {g g' h : Heap} {L : Addr} {m : Str → Option Value} (K : KtsTurn [] g g') (F : Fr g' L h m) : Fr g L h m :=
  ⟨F.ns, fun b o e => F.keep b o (K.other b o e (by simp)), by rw [← K.size]; exact F.above⟩
theorem news_nil {g g' h : Heap} {L : Addr} {l : List (Addr × Obj)} (K : KtsTurn [] g g') (N : News g' L h l) : News g L h l := fun p hp => ⟨(N p hp).1, (N p hp).2.1, by
  cases q : g.get? p.1 with
  | none => rfl
  | some o =>
    have e := K.other _ _ q (by simp)
    rw [(N p hp).2.2] at e
    cases e⟩
/-- one turn of the law's loop -/
def LawTurn (w : World) (mean : ExcName → Option Value) (mg mb : Str → Option Value) (B : List Stmt) (qual : Str) (scope : Scope) : Prop :=
  ∀ (dp un : Nat) (gd : Option (List Code)) (A₀ : Around) (base g : Heap) (L f I : Addr) (oI : Obj) (cd : Value) (u : Str → Option Value) (s : Shared) (a : Addr) (vs : List Value) (ns : List Int) (k : Nat) (t : Tok) (o1 o2 : Obj) (x1 x2 : Option Value),
    Below A₀ base [] g → (hd.heap_39 w.params).In g → Top P0 Lo mean mg mb g → (hd.heap_39 w.params).In base → Top P0 Lo mean mg mb base → base.IsList a vs.toArray → IntsAre vs ns → vs.length ≤ 63 → k < 4 → Fr g L s.heap (kstB u [(Str.ofString "script", .ref a), (Str.ofString "k", .int (k : Int) t)]) → News g L s.heap [(L + 1 + 1, o2), (L + 1, o1), (I, oI)] → @Ne Nat (L + 1) I → @Ne Nat (L + 1 + 1) I → o1.data = .cell x1 → o2.data = .cell x2 →
    dp + 20 < recursionLimit → un + 400 < cLine →
    wpAny (model PySem.Challenge.rw_nu0055_01.row.toRowW.prog w) (ktrTop dp un gd qual scope L f cd (cellsFrom (L + 1) scope.names []) []) (execs B (envX qual scope L f cd (cellsFrom (L + 1) scope.names [])))
      (LawEnd g L I oI (kstB u [(Str.ofString "script", .ref a), (Str.ofString "k", .int (k : Int) t)]) s) (fun _ _ => False) s
local macro_rules | `(tactic| walk_at "eval ListComp") => `(tactic| refine halt ?_)
local macro_rules | `(tactic| walk_at "call ref") => `(tactic| (k_here; k_dflt (refine' tellP_use (t_pool _ _ _ _ _ _ _ _ _ (by assumption) (by assumption) (by assumption) _) ?k1 ?k2 ?k3 ?k4 ?k5 ?k6 ?k7 ?k8 ?k9 ?_; (case k1 => k_asm); (case k2 => k_asm); (case k3 => k_asm); (case k4 => k_asm); (case k5 => k_asm); (case k6 => exact rfl); (case k7 => omega); (case k8 => omega); (case k9 => assumption); intro r9 h9 tk9 n9 P9 F9 N9; obtain ⟨D9, o9, e9, S9, l9, e8⟩ := P9; subst e9; subst e8; (have l8 := tb_ltOf l9); clear l9; (try k_lt l8); (try dsimp only); (try k_sweep); (try k_fold))))
local macro_rules | `(tactic| walk_at "call ref") => `(tactic| (k_here; k_dflt (refine' tellM_use (t_take _ _ _ _ _ _ _ (by omega) (by omega)) ?k1 ?k2 ?k3 ?k4 ?k5 ?k6 ?k7 ?k8 ?k9 ?k10 ?k11 ?k12 ?_); walk_at "mine calledM"; intro r9 h9 tk9 o9 S9 R9 F9 N9; obtain ⟨k9, t9, hk9, e9⟩ := R9; subst e9; (try dsimp only at N9); (try dsimp only); (try k_sweep); (try k_fold)))
local macro_rules | `(tactic| walk_at "CompSrc") => `(tactic| refine halt ?_)
local macro_rules | `(tactic| walk_at "call ref") => `(tactic| (k_here; k_dflt (refine' tellM_use (t_one_txt (cs := MENU) _ _ _ _ _ _ _ _ ?i1 ?i2 ?i3 ?i4) ?k1 ?k2 ?k3 ?k4 ?k5 ?k6 ?k7 ?k8 ?k9 ?k10 ?k11 ?k12 ?_); (case k4 => k_asm); (case k11 => (intro p hp; rw [List.mem_singleton.mp hp]; k_mem)); (case i1 => repeat' (first | exact True.intro | refine And.intro (by decide +kernel) ?_)); (case i2 => exact Nat.le_of_ble_eq_true rfl); (case i3 => exact Nat.le_of_ble_eq_true rfl); (case i4 => (show @Ne Nat _ _); omega); (case k1 => k_asm); (case k2 => k_asm); (case k3 => k_asm); (case k5 => k_asm); (case k6 => exact rfl); (case k7 => omega); (case k8 => omega); (case k9 => k_updF); (case k10 => assumption); (case k12 => k_all); intro r9 h9 tk9 o9 S9 R9 F9 N9; obtain ⟨c9, hc9, t9, e9⟩ := R9; subst e9; (try dsimp only at N9); (try dsimp only); (try k_sweep); (try k_fold)))
local macro_rules | `(tactic| walk_at "call ref") => `(tactic| (k_here; k_dflt (first
  | refine' tell_use (t_escaped_text _ _ _ _ _ _ (by omega)) ?k1 ?k2 ?k3 ?k4 ?k5 ?k6 ?k7 ?k8 ?_
  | refine' tell_use (t_escaped_value _ _ _ _ _ _ (by omega)) ?k1 ?k2 ?k3 ?k4 ?k5 ?k6 ?k7 ?k8 ?_
  | refine' tell_use (t_put_back _ _ _ _ _ tesc _ (by omega) (by assumption)) ?k1 ?k2 ?k3 ?k4 ?k5 ?k6 ?k7 ?k8 ?_
  | refine' tell_use (t_put_back _ _ _ _ _ vesc _ (by omega) (by assumption)) ?k1 ?k2 ?k3 ?k4 ?k5 ?k6 ?k7 ?k8 ?_); walk_at "mine called"))
theorem law_turn (w : World) (mean : ExcName → Option Value) (mg mb : Str → Option Value) (hm : ∀ c, Known c → ∀ k ∈ [0, 0, 1, 9], ∀ l ∈ FOUR c k, charOf l = dueOf c) (hgt : ∀ c, Good c (tesc c)) (hgv : ∀ c, Good c (vesc c)) (hn1 : ∀ txt : List Nat, (!(PySem.Builtin.Str.occurrences (T (txt.flatMap tesc)) (Str.ofString "]]>") 0 (T (txt.flatMap tesc)).length 1).isEmpty) = false) (hn2 : ∀ txt : List Nat, (!(PySem.Builtin.Str.occurrences (T (txt.flatMap tesc)) (Str.ofString "\r") 0 (T (txt.flatMap tesc)).length 1).isEmpty) = false) (hn3 : ∀ (txt : List Nat) (c : Nat), c ∈ txt.flatMap vesc → (!(PySem.Builtin.Str.occurrences (Str.ofString "\"\t\n\r") ⟨#[c]⟩ 0 (Str.ofString "\"\t\n\r").length 1).isEmpty) = false) {name qual : Str} {params : Arguments} {s0 s1 s3 : Stmt} {tgt it : PySem.Expr} {BB : List Stmt} {ps : Pos} {scope : Scope} {dV kV doc pm cdv ct oc : Value} {an od : Option Addr} {osl : Array (Option Value)} :
    (hd.heap_39 w.params).lookup 191 = some ⟨oc, od, .func (fnOf name qual params [s0, s1, .For tgt it BB [] ps, s3] scope dV kV doc pm an cdv ct), osl⟩ → PySem.Challenge.rw_nu0055_01 = PySem.Challenge.rw_nu0055_01 → LawTurn w mean mg mb BB qual scope := by
  k_fill
  intro ho _
  refine' pinned ho ?h2 ?k
  (case h2 => k_is)
  case k =>
    intro e
    simp only [fnOf, Obj.mk.injEq, Data.func.injEq, FuncData.mk.injEq] at e
    obtain ⟨-, -, ⟨-, rfl, -, eb, rfl, -⟩, -⟩ := e
    simp only [FuncBody.stmts.injEq, List.cons.injEq, Stmt.For.injEq] at eb
    obtain ⟨-, -, ⟨-, -, rfl, -⟩, -⟩ := eb
    clear ho
    intro dp un gd A₀ base g L f I9 oI9 cd u s a vs ns k t o1 o2 x1 x2 B X TT XB TB hbl hI hn hk4 F N hI1 hI2 hc1 hc2 hdp hun
    show wpAny _ _ _ _ _ _
    k_fold
    k_steps
    rename Fr _ _ _ _ => F1
    rename News _ _ _ _ => N1
    refine unhalt (LCg.ListComp_U (cl := [(Str.ofString "source", L + 1), (Str.ofString "menu", L + 1 + 1)]) F1 rfl (by decide) rfl (by decide) rfl ?_ (fun _ => rfl))
    k_steps
    rename News _ _ _ _ => N2
    rename Src _ => S2
    refine' unhalt (LCg.CompSrc.range rfl ?hF (news_swap N2) ?hr ?hsm ?hn ?hsz ?_)
    (case hF => k_asm)
    (case hr => assumption)
    (case hsm => exact small_one (by omega) (by omega) (by omega) (by omega))
    (case hn => first | exact rangeSize_nat _ _ | rfl)
    (case hsz => rw [PySem.sizeLine_eq]; omega)
    intro gg
    refine comp_draw (fun y => ∃ l ∈ MENU, ∃ t, y = .str (T l) t) S2 ?_ (fun _ _ _ _ _ h => h) ?_
    · intro v o3 I oI C oC D m₂ ys h tk S3 hC hx F3 N3 off
      simp only [LCg.Off3, and_true] at off
      show wpAny _ _ _ _ _ _
      k_steps
      rename Src _ => S4
      trace_state
      exact ⟨_, _, _, rfl, ⟨_, by assumption, _, rfl⟩, S4, by k_asm, by k_asm⟩
    · intro ys o3 S3 hlen hys D h tk F3 N3 off
      obtain ⟨ls, hls, hll, hlm⟩ := strs_of hys
      have hsum : ∀ ls : List (List Nat), (∀ l ∈ ls, l ∈ MENU) → (ls.map List.length).sum ≤ ls.length * 5 ∧ ls.flatten.length ≤ ls.length * 5 := by
        intro ls h
        induction ls with
        | nil => simp
        | cons x xs ih =>
          have h1 := menu_len x (h x (.head _))
          have h2 := ih fun l hl => h l (.tail _ hl)
          simp only [List.map_cons, List.sum_cons, List.length_cons, List.flatten_cons, List.length_append, Nat.succ_mul]
          omega
      obtain ⟨hs1, hs2⟩ := hsum ls hlm
      have hlen9 : ls.length ≤ 9 := by omega
      show wpAny _ _ _ _ _ _
      k_steps
      refine' join_T ?hn ?hm ?hy ?hw ?_
      (case hn => exact N3)
      (case hm => exact .head _)
      (case hy => exact hls)
      (case hw => omega)
      intro t8 k8
      have hl45 : ls.flatten.length ≤ 45 := by omega
      generalize ls.flatten = txt at hl45
      have hgt' : ∀ c ∈ txt, Good c (tesc c) := fun c _ => hgt c
      have hgv' : ∀ c ∈ txt, Good c (vesc c) := fun c _ => hgv c
      have hne : (T txt != T txt) = false := by simp
      have hn1' := hn1 txt
      have hn2' := hn2 txt
      k_steps
      rename Fr _ _ _ _ => F5
      rename News _ _ _ _ => N5
      refine unhalt (ListComp_ST (cl := []) F5 rfl (by decide) rfl (by decide) rfl ?_ (fun _ => rfl))
      k_steps
      refine ⟨txt.flatMap vesc, _, _, rfl, rfl, F5, N5, ?_, ?_⟩
      · have := flat_len vesc_len txt
        rw [sizeLine_eq]
        omega
      rintro s₂ ⟨h, rfl⟩
      refine comp_none trivial ?_ ?_
      · intro c t' I oI C oC D m₂ h tk nn hc hC hx F6 hnn N6 hmem
        subst hnn
        have hq := hn3 txt c hc
        show wpAny _ _ _ _ _ _
        k_steps
        exact elt_r (Res := fun _ => True) (by k_asm) (by k_asm) True.intro
      · intro D h tk F6 N6 off6
        show wpAny _ _ _ _ _ _
        k_steps
        rename Fr _ _ _ _ => F7
        rename News _ _ _ _ => N7
        refine' tellT_use (t_sign_right w _ _ _ _ o3 [(L + 1 + 1, _), (L + 1, _), (I9, oI9)] S3 ?hne hm) B F7 X (news_sub N7 ?hsub) TT XB TB ktsDicts_nil rfl (by omega) (by omega) ?_
        (case hsub => kcj_all)
        (case hne =>
          intro p hp
          rcases List.mem_cons.mp hp with rfl | hp
          · show @Ne Nat _ _
            omega
          · rcases List.mem_cons.mp hp with rfl | hp
            · show @Ne Nat _ _
              omega
            · rw [List.mem_singleton.mp hp]
              show @Ne Nat _ _
              omega)
        intro r9 g9 h9 tk9 n9 P9 T9 F9 N9 B9 X9 U9 D9
        obtain ⟨e9, o9, S9, e8⟩ := P9
        subst e9
        subst e8
        have F10 := fr_nil T9 F9
        have N10 := news_nil T9 N9
        clear F9 N9 F7 N7 B9 X9 U9 D9
        show wpAny _ _ _ _ _ _
        k_steps
        refine ⟨rfl, _, _, _, _, _, _, _, rfl, F10, fun p hp => N10 p (.tail _ hp), by assumption, by assumption, ?_⟩
        intro y hy
        simp only [List.mem_cons, List.not_mem_nil, or_false, not_or] at hy
        simp [hy]
end
-- part E12
section
section
variable {prog : Program} {w : World} {A : Around} {s : Shared} {env : Env} {g : Heap} {L : Addr} {body : List Stmt} {E : Value → Shared → Prop} {R : Result → Shared → Prop} {x : Str} {px : Pos}
/-- the end of a turn of the law's loop: on it goes, what is to hold holds -/
def TurnR (g : Heap) (L I : Addr) (oI : Obj) (Inv : (Str → Option Value) → List (Addr × Obj) → Prop) (s : Shared) (fl : Flow) (s' : Shared) : Prop :=
  fl = .next ∧ ∃ h' tk' m' nn', s' = { s with heap := h', toks := tk' } ∧ Inv m' nn' ∧ (∀ p ∈ nn', p.1 ≠ I) ∧ Fr g L h' m' ∧ News g L h' ((I, oI) :: nn')
/-- a for over a range whose ground stands still -/
theorem for_range (hh : A.handled = none) (hL : env.locals = L) (hl : env.kindOf x = some .local) (hp : (env.scope.kind == .class || (env.scope.kind == .module && env.locals != env.globals)) = false)
    {r : Addr} {a b : Int} {t u v : Tok} {n : Nat} {m₀ : Str → Option Value} {news : List (Addr × Obj)} (hr : IsRange s.heap r a b 1 t u v) (hsm : Builtin.Range.small a b 1 = true) (hn : Builtin.Range.rangeSize a b 1 = ((n : Nat) : Int))
    (F : Fr g L s.heap m₀) (N : News g L s.heap news) (Inv : (Str → Option Value) → List (Addr × Obj) → Prop) (h0 : Inv m₀ news)
    (turn : ∀ (i : Nat) (m : Str → Option Value) (nn : List (Addr × Obj)) (h : Heap) (tk : Nat) (I : Addr) (oI : Obj) (tv : Tok), i < n → Inv m nn → (∀ p ∈ nn, p.1 ≠ I) → Fr g L h (fun y => if y = x then some (.int (a + (i : Int)) tv) else m y) → News g L h ((I, oI) :: nn) →
      wpAny (model prog w) A (execs body env) (TurnR g L I oI Inv s) (fun _ _ => False) { s with heap := h, toks := tk })
    (done : ∀ h tk m nn, Inv m nn → Fr g L h m → News g L h nn → R (.ok .next) { s with heap := h, toks := tk }) :
    wpAny (model prog w) A (pyIter (.ref r)) (fun it s₂ => codeAny (model prog w) A (.forLoop (.Name x px) it body [] env) R s₂) E s := by
  have hLI : L < s.heap.objs.size := F.ns.lt
  have gI : g.get? s.heap.objs.size = none := Heap.get?_none_of_le (Nat.le_of_lt (Nat.lt_of_le_of_lt F.above hLI))
  have ne : ∀ p ∈ news, p.1 ≠ s.heap.objs.size := fun p hp => Nat.ne_of_lt (Heap.lt_size (N p hp).1)
  have W := LCg.range_walks (prog := prog) (w := w) (A := A) (I := s.heap.objs.size) hh a n
  refine wpAny_pyIter_range hr hsm ?_
  refine codeAny_forLoop_any (fun k s' => ∃ h tk m nn i, s' = { s with heap := h, toks := tk } ∧ IsRangeIter h s.heap.objs.size (a + (i : Nat) * 1) ((n : Int) - (i : Nat)) 1 ∧ Inv m nn ∧ (∀ p ∈ nn, p.1 ≠ s.heap.objs.size) ∧
      Fr g L h m ∧ News g L h nn ∧ i ≤ n ∧ k = n + 1 - i) ?_ (n + 1)
    ⟨_, s.toks, m₀, news, 0, rfl, ?_, h0, ne, F.push _, fun p hp => ⟨Heap.get?_push_of_some _ (N p hp).1, (N p hp).2⟩, Nat.zero_le _, rfl⟩
  · rintro k s' ⟨h, tk, m, nn, i, rfl, st, hI, hne, F', N', hi, rfl⟩
    have nxt : ∀ h₁ : Heap, (∀ b o, b ∉ [s.heap.objs.size] → h.get? b = some o → h₁.get? b = some o) → Fr g L h₁ m ∧ News g L h₁ nn := fun h₁ hk => by
      refine ⟨⟨F'.ns.at' fun o e => hk _ o (by simp; exact Nat.ne_of_lt hLI) e, fun b o e => hk b o (fun z => ?_) (F'.keep b o e), F'.above⟩, fun p hp => ⟨hk _ _ (by simp; exact hne p hp) (N' p hp).1, (N' p hp).2⟩⟩
      rw [List.mem_singleton.mp z, gI] at e
      cases e
    by_cases hlt : i < n
    · refine W.item i _ _ _ hlt st fun v h₁ tk₁ hv st₁ hk₁ => ?_
      obtain ⟨F₁, N₁⟩ := nxt h₁ hk₁
      obtain ⟨tv, rfl⟩ := hv
      refine wpAny_pure ?_
      have NI : News g L h₁ ((s.heap.objs.size, _) :: nn) := fun p hp => by
        rcases List.mem_cons.mp hp with rfl | hp
        · exact ⟨st₁, Nat.ne_of_gt hLI, gI⟩
        · exact N₁ p hp
      refine wpAny_assign_Name ?_
      subst hL
      refine wpAny_storeName_local hl F₁.ns (fun h₂ hn₂ hs₂ => ?_) hp
      refine wpAny_mono (turn i m nn h₂ _ s.heap.objs.size _ tv hlt hI hne (F₁.set hn₂ hs₂) (NI.set hs₂)) (fun f s₃ h₃ => ?_) fun _ _ y => y.elim
      obtain ⟨rfl, h', tk', m', nn', rfl, hI', hne', F₂, N₂⟩ := h₃
      exact ⟨n + 1 - (i + 1), by omega, h', tk', m', nn', i + 1, rfl, (N₂ _ (.head _)).1, hI', hne', F₂, fun p hp => N₂ p (.tail _ hp), hlt, rfl⟩
    · have hin : i = n := by omega
      subst hin
      refine W.done _ _ _ st fun h₁ tk₁ hk₁ => wpAny_execs_nil ?_
      obtain ⟨F₁, N₁⟩ := nxt h₁ hk₁
      exact done h₁ tk₁ m nn hI F₁ N₁
  · show IsRangeIter _ _ _ _ _
    rw [hn]
    simpa using Heap.get?_push_size _ rfl
end
end
-- part LB
section
theorem top_off_LB : True := by
  w_top off
  exact True.intro
local macro_rules | `(tactic| walk_at "eval ListComp") => `(tactic| refine halt ?_)
local macro_rules | `(tactic| walk_at "call ref") => `(tactic| (k_here; k_dflt (refine' tell_use (t_predefined _ _ _ _ _ _) ?k1 ?k2 ?k3 ?k4 ?k5 ?k6 ?k7 ?k8 ?_); walk_at "mine called"))
local macro_rules | `(tactic| walk_at "exec For Name Call cons nil") => `(tactic| refine halt ?_)
local macro_rules | `(tactic| walk_at "pyIter ref") => `(tactic| refine halt ?_)
local macro_rules | `(tactic| walk_at "CompSrc") => `(tactic| refine halt ?_)
local macro_rules | `(tactic| walk_at "call builtin:len") => `(tactic| (k_here; (refine len_ground (by k_asm) (by assumption) (by assumption) ?_); intro tk8 tk8'; (try k_fold)))
/-- the end of the law's body -/
def LawDone (g : Heap) (L : Addr) (s : Shared) (fl : Flow) (s' : Shared) : Prop := fl = .ret (.bool true) ∧ ∃ h' tk' m', s' = { s with heap := h', toks := tk' } ∧ Fr g L h' m'
/-- the law's body -/
def LawBody (w : World) (mean : ExcName → Option Value) (mg mb : Str → Option Value) (B : List Stmt) (qual : Str) (scope : Scope) : Prop :=
  ∀ (dp un : Nat) (gd : Option (List Code)) (A₀ : Around) (base g : Heap) (L f : Addr) (cd : Value) (s : Shared) (a : Addr) (vs : List Value) (ns : List Int) (u : Str → Option Value) (o1 o2 : Obj) (x1 x2 : Option Value),
    Below A₀ base [] g → (hd.heap_39 w.params).In g → Top P0 Lo mean mg mb g → (hd.heap_39 w.params).In base → Top P0 Lo mean mg mb base → base.IsList a vs.toArray → IntsAre vs ns → vs.length ≤ 63 → Fr g L s.heap (kstB u [(Str.ofString "script", .ref a)]) → News g L s.heap [(L + 1 + 1, o2), (L + 1, o1)] → o1.data = .cell x1 → o2.data = .cell x2 →
    dp + 20 < recursionLimit → un + 400 < cLine →
    wpAny (model PySem.Challenge.rw_nu0055_01.row.toRowW.prog w) (ktrTop dp un gd qual scope L f cd (cellsFrom (L + 1) scope.names []) []) (execs B (envX qual scope L f cd (cellsFrom (L + 1) scope.names [])))
      (LawDone g L s) (fun _ _ => False) s
theorem law_body (w : World) (mean : ExcName → Option Value) (mg mb : Str → Option Value) {name qual : Str} {params : Arguments} {BB : List Stmt} {scope : Scope} {dV kV doc pm cdv ct oc : Value} {an od : Option Addr} {osl : Array (Option Value)} :
    (hd.heap_39 w.params).lookup 191 = some ⟨oc, od, .func (fnOf name qual params BB scope dV kV doc pm an cdv ct), osl⟩ → PySem.Challenge.rw_nu0055_01 = PySem.Challenge.rw_nu0055_01 → LawBody w mean mg mb BB qual scope := by
  k_fill
  intro ho _
  refine' pinned ho ?h2 ?k
  (case h2 => k_is)
  case k =>
    intro e
    simp only [fnOf, Obj.mk.injEq, Data.func.injEq, FuncData.mk.injEq] at e
    obtain ⟨-, -, ⟨-, rfl, -, eb, rfl, -⟩, -⟩ := e
    simp only [FuncBody.stmts.injEq] at eb
    subst eb
    clear ho
    intro dp un gd A₀ base g L f cd s a vs ns u o1 o2 x1 x2 B X TT XB TB hbl hI hn F N hc1 hc2 hdp hun
    have hL : g.IsList a vs.toArray := hbl.at fun o e => B.stays _ o e
    show wpAny _ _ _ _ _ _
    k_fold
    k_steps
    rename Fr _ _ _ _ => F1
    rename News _ _ _ _ => N1
    refine unhalt (LCg.ListComp_U (cl := []) F1 rfl (by decide) rfl (by decide) rfl ?_ (fun _ => rfl))
    k_steps
    refine unhalt (LCg.CompSrc.ledger rfl F1 N1 (by k_mem) (by rw [sizeLine_eq]; exact Nat.le_of_ble_eq_true rfl) ?_)
    intro gg
    refine comp_list (fun i y => ∃ l, NAMES[i]? = some l ∧ OptStr (predef l) y) (by exact .inr ⟨_, by k_mem, rfl, _, rfl⟩) ?_ ?_
    · intro i v I oI C oC D m₂ ys h tk nn hv hC hx F2 hnn N2 hmem
      rw [List.getElem?_toArray] at hv
      obtain ⟨l, hl, t, rfl⟩ := txtsL_idx (cs := NAMES) (by exact ⟨by decide +kernel, by decide +kernel, by decide +kernel, by decide +kernel, by decide +kernel, by decide +kernel, by decide +kernel, by decide +kernel, by decide +kernel, by decide +kernel, True.intro⟩) hv
      subst hnn
      show wpAny _ _ _ _ _ _
      k_steps
      exact elt_r (Res := fun y => ∃ l, NAMES[i]? = some l ∧ OptStr (predef l) y) (by k_asm) (by k_asm) ⟨_, hl, by assumption⟩
    · intro ys hl hys D h tk F3 N3 off
      obtain ⟨t0, t1, t2, t3, t4, rfl⟩ := names_list hl hys
      dsimp only
      show wpAny _ _ _ _ _ _
      k_steps
      refine unhalt (wpAny_For ?_)
      k_fold
      k_steps
      rename Fr _ _ _ _ => F4
      rename News _ _ _ _ => N4
      rename IsRange _ _ _ _ _ _ _ _ => hr
      have hn4 : ∃ n : Nat, n ≤ 4 ∧ (if (if (4 : Int) < (ns.length : Int) then (4 : Int) else (ns.length : Int)) > 1 then (if (4 : Int) < (ns.length : Int) then (4 : Int) else (ns.length : Int)) else 1) = (n : Int) := by
        refine ⟨(if (if (4 : Int) < (ns.length : Int) then (4 : Int) else (ns.length : Int)) > 1 then (if (4 : Int) < (ns.length : Int) then (4 : Int) else (ns.length : Int)) else 1).toNat, ?_, ?_⟩ <;> (repeat' split) <;> omega
      obtain ⟨n, hn4, en⟩ := hn4
      rw [en] at hr
      refine' unhalt (for_range (n := n) rfl rfl rfl rfl hr ?hsm ?hn F4 (news_sub N4 (l := [(L + 1 + 1, o2), (L + 1, o1)]) ?hsub) (fun m nn => m (Str.ofString "script") = some (.ref a) ∧ ∃ o1 o2 x1 x2, nn = [(L + 1 + 1, o2), (L + 1, o1)] ∧ o1.data = .cell x1 ∧ o2.data = .cell x2) ⟨rfl, _, _, _, _, rfl, hc1, hc2⟩ ?turn ?done)
      (case hsub => kcj_all)
      (case hsm => exact small_one (by omega) (by omega) (by omega) (by omega))
      (case hn => first | exact rangeSize_nat _ _ | rfl)
      case turn =>
        intro i m nn h tk I oI tv hi hinv hne F5 N5
        obtain ⟨hms, o1', o2', x1', x2', rfl, hc1', hc2'⟩ := hinv
        have hk4 : i < 4 := by omega
        have hI1 : @Ne Nat (L + 1) I := hne _ (.tail _ (.head _))
        have hI2 : @Ne Nat (L + 1 + 1) I := hne _ (.head _)
        have F6 : Fr g L h (kstB m [(Str.ofString "script", .ref a), (Str.ofString "k", .int (i : Int) tv)]) := fr_eq F5 (by
          funext y
          simp only [kstB, Int.zero_add]
          by_cases q : y = Str.ofString "script"
          · subst q
            rw [if_neg (by decide), if_pos rfl, hms]
          · rw [if_neg q])
        have N6 : News g L h [(L + 1 + 1, o2'), (L + 1, o1'), (I, oI)] := news_sub N5 (by kcj_all)
        refine' wpAny_mono (law_turn w mean mg mb four_tell good_t good_v no_end no_cr no_mark ?ho rfl dp un gd A₀ base g L f I oI cd m _ a vs ns i tv o1' o2' x1' x2' B X TT XB TB hbl (by assumption) hn hk4 F6 N6 hI1 hI2 hc1' hc2' hdp hun) (fun fl s' hq => ?_) (fun _ _ e => e)
        (case ho => k_is)
        obtain ⟨rfl, h', tk', m', o1'', o2'', y1, y2, rfl, F7, N7, d1, d2, hm'⟩ := hq
        refine ⟨rfl, h', tk', m', [(L + 1 + 1, o2''), (L + 1, o1'')], rfl, ⟨?_, _, _, _, _, rfl, d1, d2⟩, ?_, F7, news_sub N7 (by kcj_all)⟩
        · rw [hm' _ (by decide)]
          rfl
        · intro p hp
          rcases List.mem_cons.mp hp with rfl | hp
          · exact hI2
          · rw [List.mem_singleton.mp hp]
            exact hI1
      case done =>
        intro h tk m nn hinv F5 N5
        show wpAny _ _ _ _ _ _
        k_steps
        exact ⟨rfl, _, _, _, rfl, by k_asm⟩
theorem law_join {w : World} {mean : ExcName → Option Value} {mg mb : Str → Option Value} {name qual : Str} {params : Arguments} {BB : List Stmt} {scope : Scope} {dV kV doc pm cdv ct oc : Value} {an od : Option Addr} {osl : Array (Option Value)}
    {g : Heap} {L f : Addr} {cd : Value} {s : Shared} {a : Addr} {vs : List Value} {ns : List Int} {u : Str → Option Value} {o1 o2 : Obj} {x1 x2 : Option Value} {Q : Flow → Shared → Prop} {E : Value → Shared → Prop}
    (B : Below callerA g [] g) (X : (hd.heap_39 w.params).In g) (T : Top P0 Lo mean mg mb g) (hl : g.IsList a vs.toArray) (hI : IntsAre vs ns) (hn : vs.length ≤ 63) (F : Fr g L s.heap (kstB u [(Str.ofString "script", .ref a)])) (N : News g L s.heap [(L + 1 + 1, o2), (L + 1, o1)])
    (hc1 : o1.data = .cell x1) (hc2 : o2.data = .cell x2) (ho : (hd.heap_39 w.params).lookup 191 = some ⟨oc, od, .func (fnOf name qual params BB scope dV kV doc pm an cdv ct), osl⟩)
    (k : ∀ h' tk' m', Fr g L h' m' → Q (.ret (.bool true)) { s with heap := h', toks := tk' }) :
    wpAny (model PySem.Challenge.rw_nu0055_01.row.toRowW.prog w) (callerA.deeper (envOfC qual scope L f cd)) (execs BB (envOfC qual scope L f cd)) Q E s := by
  have z := law_body w mean mg mb ho rfl (1 + claimMargin + 1) 7 (some []) callerA g g L f cd s a vs ns u o1 o2 x1 x2 B X T X T hl hI hn F N hc1 hc2 (by decide) (by decide)
  exact wpAny_mono z (fun fl s' hq => by obtain ⟨rfl, h', tk', m', rfl, F'⟩ := hq; exact k h' tk' m' F') fun _ _ e => e.elim
end
-- part FIN
section
theorem top_off_FIN : True := by
  w_top off
  exact True.intro
theorem fin : PySem.Challenge.rw_nu0055_01.Holds := hd (by
  k_go0
  (all_goals try k_fold)
  rename Fr _ _ _ _ => F9
  rename News _ _ _ _ => N9
  rename Top _ _ _ _ _ _ => T9
  rename (hd.heap_39 _).In _ => X9
  rename Below _ _ _ _ => B9
  rename IntsAre _ _ => I9
  have l9 := IntsAre.length I9
  rename Heap.IsList _ _ _ => L9
  have F8 := fr_eq (m' := kstB (fun _ => none) [(Str.ofString "script", .ref _)]) F9 rfl
  clear F9
  refine' law_join ?za ?zb ?zc ?zd ?ze ?zf ?zg ?zh ?zi ?zj ?zk ?zl
  (case za => exact B9)
  (case zb => exact X9)
  (case zc => exact T9)
  (case zd => exact L9)
  (case ze => exact I9)
  (case zf => omega)
  (case zg => exact F8)
  (case zh => exact N9)
  (case zi => assumption)
  (case zj => assumption)
  (case zk => k_is)
  case zl =>
    intro h' tk' m' F7
    clear F8 N9
    k_steps
    done)
end
end Mine
theorem PySem.Challenge.cw_nu0055_01_holds : PySem.Challenge.rw_nu0055_01.Holds := by
  exact Mine.fin
