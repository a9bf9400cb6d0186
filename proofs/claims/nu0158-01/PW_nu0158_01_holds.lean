import PyProof.Rows.All
import Wide.All
import OpenK.AllK
import Wide.FinOn
import PySem.Challenge.RW_nu0158_01
set_option Elab.async false
section
open PySem PySem.W PyProof.Rows
namespace Mine
def view : Program := { PySem.Challenge.pw_nu0158_01 with main := { PySem.Challenge.pw_nu0158_01.main with body := (((PySem.Challenge.pw_nu0158_01.main.body.eraseIdx 14).eraseIdx 8).eraseIdx 4).eraseIdx 1 } }
local macro_rules | `(tactic| o_law) => `(tactic| refine holds_law (by decide +kernel) fun said => ?_)

local macro_rules | `(tactic| o_head $H) => `(tactic| (refine holds_open (q := view) (loose := [Str.ofString "ShapeError"]) (Xt := fun s => xlAt view [] s && recOk (RowW.records PySem.Challenge.rw_nu0158_01.row.toRowW) s) (XP := XL view []) (Yf := Hook.obs $H) (Ya := Hook.val $H) (YP := Hook.says $H) (N := 3810) ?hl (Hook.of $H) (Hook.keeps $H) (fun s e => xl_of s (Bool.and_eq_true_iff.mp e).1) XL.keeps (by rfl) (by rfl) (by rfl) (fun s e => recFacts_of (Bool.and_eq_true_iff.mp e).2) (by rfl) (by first | assumption | decide +kernel) (by decide +kernel) ⟨rfl, rfl, rfl, rfl, rfl, by decide +kernel⟩ ?hw ?hc; (case hl => intro w; unfold openEnds fencedOpening topFrom; rw [PySem.W.Fast.te14082659384304107361, PySem.W.Fast.te10274390034422433532, PySem.W.Fast.te14364793385576792824, PySem.W.Fast.te4187177175401517315, PySem.W.Fast.te5923862056798008813, PySem.W.Fast.te14289696077712309145]; kernel_rfl)))
set_option maxRecDepth 100000 in
set_option maxHeartbeats 8000000 in
open_top hd for PySem.Challenge.rw_nu0158_01
end Mine
end
section
open PySem PySem.W PyProof.Rows
namespace Mine
noncomputable abbrev looseN : List Str := looseW view [Str.ofString "ShapeError"]

/-- a call of one of the text's defs, from any frame, by what it hands back (no raise); lev: how deep it calls -/
def SaysR (lev : Nat) (w : World) (mean : ExcName → Option Value) (mg mb : Str → Option Value) (f : Addr) (vs : List Value) (news : List (Addr × Obj)) (R : List (Addr × Obj) → Value → Prop) : Prop :=
  ∀ (dp un : Nat) (gd : Option (List Code)) (cn : Str) (cs : Scope) (a : Addr) (ccd : Value) (cl : List (Str × Addr)) (outer : List Env) (A₀ : Around) (base h₀ : Heap) (L : Addr) (m : Str → Option Value) (s : Shared) (Q E : Value → Shared → Prop),
    Below A₀ base outer h₀ → Fr h₀ L s.heap m → (hd.heap_1 w.params).In h₀ → News h₀ L s.heap news → Top view looseN mean mg mb h₀ → cs.kind = .function → dp + 10 * lev < recursionLimit → un + 30 * lev < cLine →
    (∀ (news' : List (Addr × Obj)) (v : Value) (h' : Heap) (tk' : Nat), Fr h₀ L h' m → News h₀ L h' news' → R news' v → Q v { s with heap := h', toks := tk' }) →
    wpAny (model PySem.Challenge.pw_nu0158_01 w) (ktrTop dp un gd cn cs L a ccd cl outer) (call (.ref f) vs) Q E s
section
variable {M : Model} {A : Around} {α : Type} {t : Sem α} {Q : α → Shared → Prop} {E : Value → Shared → Prop}
/-- the token count is forgotten -/
theorem atT1 {h : Heap} {g : Array GenState} {d : Drawn} {n : Nat} {o : OsState} (k : ∀ n, wpAny M A t Q E ⟨h, g, d, n, o⟩) : wpAny M A t Q E ⟨h, g, d, n + 1, o⟩ := k (n + 1)
end
end Mine
end
section
open PySem PySem.W PyProof.Rows
namespace Mine
structure Ent where
  w : World
  mean : ExcName → Option Value
  mg : Str → Option Value
  mb : Str → Option Value
  dp : Nat
  un : Nat
  gd : Option (List Code)
  cn : Str
  cs : Scope
  a : Addr
  ccd : Value
  cl : List (Str × Addr)
  outer : List Env
  A₀ : Around
  base : Heap
  h₀ : Heap
  L : Addr
  m : Str → Option Value
  s : Shared
  Q : Value → Shared → Prop
  E : Value → Shared → Prop
  g : Heap
  L₁ : Addr
  h₁ : Heap
abbrev EntP : Type := World → (ExcName → Option Value) → (Str → Option Value) → (Str → Option Value) → Nat → Nat → Option (List Code) → Str → Scope → Addr → Value → List (Str × Addr) → List Env → Around → Heap → Heap → Addr → (Str → Option Value) → Shared → (Value → Shared → Prop) → (Value → Shared → Prop) → Heap → Addr → Heap → Prop
def EntP.on (P : EntP) (e : Ent) : Prop := P e.w e.mean e.mg e.mb e.dp e.un e.gd e.cn e.cs e.a e.ccd e.cl e.outer e.A₀ e.base e.h₀ e.L e.m e.s e.Q e.E e.g e.L₁ e.h₁
def EntP.all (P : EntP) : Prop := ∀ w mean mg mb dp un gd cn cs a ccd cl outer A₀ base h₀ L m s Q E g L₁ h₁, P w mean mg mb dp un gd cn cs a ccd cl outer A₀ base h₀ L m s Q E g L₁ h₁
def entO : Ent := ⟨⟨fun _ _ => 0, { strHash := fun _ => 0, shareClass := fun _ => 0, mergeTok := fun t => t, idOf := fun _ => 0, idOfShared := fun _ _ => 0, followText := fun _ => false, idOfImm := fun _ => 0 }⟩, fun _ => none, fun _ => none, fun _ => none, 0, 0, none, default, default, 0, .none, [], [], {}, default, default, 0, fun _ => none, {}, fun _ _ => True, fun _ _ => True, default, 0, default⟩
theorem ent_ex (P : Ent → Prop) : ∃ e, P e → ∀ x, P x := by
  by_cases h : ∃ x, ¬P x
  · obtain ⟨x, hx⟩ := h
    exact ⟨x, fun q => absurd q hx⟩
  · exact ⟨entO, fun _ x => Classical.byContradiction fun q => h ⟨x, q⟩⟩
theorem EntP.all_of {P : EntP} (h : ∀ x, P.on x) : P.all := fun w mean mg mb dp un gd cn cs a ccd cl outer A₀ base h₀ L m s Q E g L₁ h₁ => h ⟨w, mean, mg, mb, dp, un, gd, cn, cs, a, ccd, cl, outer, A₀, base, h₀, L, m, s, Q, E, g, L₁, h₁⟩
end Mine
end
section
open PySem PySem.W PyProof.Rows
namespace Mine
structure DrawM : Prop where
section
variable {prog : Program} {w : World} {A : Around} {E : Value → Shared → Prop} {s : Shared} {a b : Int} {t u : Tok} {Q : Value → Shared → Prop}
theorem mod_any (hb : 0 < b) (h : ∀ d, 0 ≤ d → d < b → Q (.int d s.toks) { s with toks := s.toks + 1 }) : wpAny (model prog w) A (binaryOp .Mod (.int a t) (.int b u)) Q E s :=
  mod_int' (by omega) (h _ (Int.fmod_nonneg_of_pos _ hb) (Int.fmod_lt_of_pos _ hb))
theorem mul_named (ha : 0 ≤ a) (ha2 : a ≤ 2147483648) (hb : 0 ≤ b) (hb2 : b ≤ 4194304) (h : ∀ p, p = a * b → 0 ≤ p → p ≤ 9007199254740992 → Q (.int p s.toks) { s with toks := s.toks + 1 }) :
    wpAny (model prog w) A (binaryOp .Mult (.int a t) (.int b u)) Q E s := by
  refine mul_int (h _ rfl (Int.mul_nonneg ha hb) ?_) (IntMulOk.of_right (intBits_le_64 (by omega) (by omega)))
  exact Int.le_trans (Int.mul_le_mul ha2 hb2 hb (by decide)) (by decide)
theorem pow_any (ha : a.natAbs < 2 ^ 64) (h : ∀ r, Q (.int r s.toks) { s with toks := s.toks + 1 }) : wpAny (model prog w) A (binaryOp .Pow (.int a t) (.int 3 u)) Q E s :=
  pow_int_small (by decide) (by decide) ha (h _)
theorem pow_ten (h : Q (.int 1000000000000000000 s.toks) { s with toks := s.toks + 1 }) : wpAny (model prog w) A (binaryOp .Pow (.int 10 t) (.int 18 u)) Q E s :=
  pow_int_small (by decide) (by decide) (by decide) (by simpa using h)
theorem abs_nat (h : ∀ u tk, Q (.int (a.natAbs : Int) u) { s with toks := tk }) : wpAny (model prog w) A (call (.builtin "abs") [.int a t]) Q E s := by
  refine call_abs_int fun u tk => ?_
  have e : (if a < 0 then -a else a) = (a.natAbs : Int) := by split <;> omega
  rw [e]
  exact h u tk
theorem sub_any {h₀ : Heap} {L D : Addr} {news : List (Addr × Obj)} {vs : List Value} {ns : List Int} {n : Nat} {k : Int} {value slice : PySem.Expr} (N : News h₀ L s.heap news) (hm : (D, listOf vs.toArray n) ∈ news) (hi : IntsAre vs ns) (h0 : 0 ≤ k) (h1 : k < ns.length) (hfit : k < 2 ^ 63) (h : ∀ x t, Q (.int x t) s)
    (hs : subscripted slice false (.ref D) (.int k u) = operate [.ref D, .int k u] (getItem (.ref D) (.int k u)) := by with_unfolding_all rfl) :
    wpAny (model prog w) A (subscriptTail value slice (.ref D) (.int k u)) Q E s := ksa_sub N hm hi h0 h1 hfit (h _) hs
end
set_option maxRecDepth 100000 in
set_option maxHeartbeats 2000000 in
def drawS : {P : EntP // P.all → ∀ (w : World) (mean mg mb) (pen c : Addr) (vs : List Value) (ns : List Int) (seat great many : Int) (ts tg tm : Tok) (ep ec : Nat) (rest : List (Addr × Obj))
   (hI : IntsAre vs ns) (hlen : ns.length ≤ 40) (hs0 : 0 ≤ seat) (hs1 : seat ≤ 1000000) (hg0 : 0 ≤ great) (hm0 : 0 < many) (hm1 : many ≤ 1000000) (hpc : pen ≠ c) (hcp : c ≠ pen) (hr1 : OwnOff rest [pen, c]), SaysR 1 w mean mg mb 244 [.ref pen, .int many tm] ((pen, listOf [.ref c, .int seat ts, .int great tg].toArray ep) :: (c, listOf vs.toArray ec) :: rest)
     (fun news' v => ∃ seat' great' ts' tg' d td, 0 ≤ seat' ∧ seat' ≤ seat + 1 ∧ 0 ≤ great' ∧ 0 ≤ d ∧ d < many ∧ v = .int d td ∧ news' = (pen, listOf [.ref c, .int seat' ts', .int great' tg'].toArray ep) :: (c, listOf vs.toArray ec) :: rest)} := ⟨_, fun H => by
  w_on
  intro w mean mg mb pen c vs ns seat great many ts tg tm ep ec rest hI hlen hs0 hs1 hg0 hm0 hm1 hpc hcp hr1 dp un gd cn cs a ccd cl outer A₀ base h₀ L m s Q E B F X N T hk hdp hun hret
  refine wpAny_call ?_
  k_dflt (refine' code_def ?k1 ?k2 ?k3 ?k4 ?k5 ?kA ?kF ?kK ?k6 ?k7 ?k8 ?k9 ?kB ?_ ?c2 ?c3 ?c4 ?c5; (case kA => exact rfl); (case kF => exact rfl); (case kK => assumption); (case k1 => k_asm); (case k2 => k_asm); (case k3 => k_asm); (case k4 => k_asm); (case k5 => k_asm); (case k6 => k_is); (case k7 => k_is); (case k8 => ktr_room); (case k9 => exact BindsTo.of_eq rfl); (case c5 => decide); (case kB => exact locs rfl); (case c2 => exact rfl); (case c3 => exact rfl); (case c4 => exact rfl); k_whole)
  intro g₁ L₁ h₁ FG' F' N' B' X' T'
  (try dsimp only)
  revert pen c vs ns seat great many ts tg tm ep ec rest hI hlen hs0 hs1 hg0 hm0 hm1 hpc hcp hr1 B F X N T hk hdp hun hret FG' F' N' B' X' T'
  exact H w mean mg mb dp un gd cn cs a ccd cl outer A₀ base h₀ L m s Q E g₁ L₁ h₁⟩
theorem drawX : ∃ e, drawS.1.on e → ∀ x, drawS.1.on x := ent_ex _
@[irreducible] noncomputable def drawK : Ent := Classical.choose drawX
theorem drawA : drawS.1.on drawK → ∀ x, drawS.1.on x := by
  unfold drawK
  exact Classical.choose_spec drawX
set_option maxRecDepth 100000 in
set_option maxHeartbeats 2000000 in
theorem drawC : drawS.1.on drawK := by
  w_on
  unfold EntP.on drawS
  dsimp only
  intro pen c vs ns seat great many ts tg tm ep ec rest hI hlen hs0 hs1 hg0 hm0 hm1 hpc hcp hr1 B F X N T hk hdp hun hret FG' F' N' B' X' T'
  have hDM : DrawM := ⟨⟩
  (repeat' (first | (k_unfold; (try dsimp only)) | (k_end; wrow_close) | ((with_reducible show wpAny _ _ (exec _ _) _ _ _); (try dsimp only); with_reducible refine atT1 ?_; intro tk) | ((with_reducible show wpAny _ _ (binaryOp _ _ _) _ _ _); (try dsimp only); with_reducible refine atT1 ?_; intro tk) | (((with_reducible rename DrawM => hDM); k_here; (with_reducible show wpAny _ _ (subscriptTail _ _ (Value.ref _) (Value.int _ _)) _ _ _); k_dflt (refine sub_any (by k_asm) (by k_mem) (by with_reducible assumption) (by omega) (by omega) (by omega) ?_ (by with_unfolding_all rfl)); intro _ _)) | ((with_reducible show wpAny _ _ (call (Value.builtin "abs") _) _ _ _); ((with_reducible rename DrawM => hDM); k_here; refine abs_nat ?_; intro _ _; clear hDM; have hDM : DrawM := ⟨⟩)) | ((with_reducible show wpAny _ _ (binaryOp Operator.Pow (Value.int _ _) (Value.int _ _)) _ _ _); ((with_reducible rename DrawM => hDM); k_here; (with_reducible show wpAny _ _ (binaryOp _ (Value.int 10 _) (Value.int 18 _)) _ _ _); k_dflt (refine pow_ten ?_); clear hDM; have hDM : DrawM := ⟨⟩)) | ((with_reducible show wpAny _ _ (binaryOp Operator.Pow (Value.int _ _) (Value.int _ _)) _ _ _); ((with_reducible rename DrawM => hDM); k_here; (with_reducible show wpAny _ _ (binaryOp _ _ (Value.int 3 _)) _ _ _); k_dflt ((refine pow_any (by omega) ?_); intro _); clear hDM; have hDM : DrawM := ⟨⟩)) | ((with_reducible show wpAny _ _ (binaryOp Operator.Mult (Value.int _ _) (Value.int _ _)) _ _ _); ((with_reducible rename DrawM => hDM); k_here; k_dflt ((refine mul_named (by omega) (by omega) (by omega) (by omega) ?_); intro _ _ _ _); clear hDM; have hDM : DrawM := ⟨⟩)) | ((with_reducible show wpAny _ _ (binaryOp Operator.Mod (Value.int _ _) (Value.int _ _)) _ _ _); ((with_reducible rename DrawM => hDM); k_here; (refine mod_any (by first | decide | omega | assumption) ?_); intro _ _ _; clear hDM; have hDM : DrawM := ⟨⟩)) | walk1 | (dsimp only; walk1) | (leave1; walk_say "STEP leave1"; try dsimp only) | fail "no step"))
  all_goals (refine hret _ _ _ _ (by assumption) (by assumption) ⟨_, _, _, _, _, _, ?_, ?_, ?_, ?_, ?_, rfl, rfl⟩ <;> first | omega | exact Int.fdiv_nonneg (by omega) (by omega))
set_option maxRecDepth 100000 in
set_option maxHeartbeats 2000000 in
theorem draw_says (w : World) (mean mg mb) (pen c : Addr) (vs : List Value) (ns : List Int) (seat great many : Int) (ts tg tm : Tok) (ep ec : Nat) (rest : List (Addr × Obj))
   (hI : IntsAre vs ns) (hlen : ns.length ≤ 40) (hs0 : 0 ≤ seat) (hs1 : seat ≤ 1000000) (hg0 : 0 ≤ great) (hm0 : 0 < many) (hm1 : many ≤ 1000000) (hpc : pen ≠ c) (hcp : c ≠ pen) (hr1 : OwnOff rest [pen, c]) : SaysR 1 w mean mg mb 244 [.ref pen, .int many tm] ((pen, listOf [.ref c, .int seat ts, .int great tg].toArray ep) :: (c, listOf vs.toArray ec) :: rest)
     (fun news' v => ∃ seat' great' ts' tg' d td, 0 ≤ seat' ∧ seat' ≤ seat + 1 ∧ 0 ≤ great' ∧ 0 ≤ d ∧ d < many ∧ v = .int d td ∧ news' = (pen, listOf [.ref c, .int seat' ts', .int great' tg'].toArray ep) :: (c, listOf vs.toArray ec) :: rest) := drawS.2 (EntP.all_of (drawA drawC)) w mean mg mb pen c vs ns seat great many ts tg tm ep ec rest hI hlen hs0 hs1 hg0 hm0 hm1 hpc hcp hr1
end Mine
end
section
open PySem PySem.W
open PySem.Sem (wp)
set_option maxRecDepth 100000
namespace Mine

abbrev tfBm : List Value := [.ref 48, .type "Exception", .type "BaseException", .type "object"]
abbrev tfObj : Obj := excClassObj "TableFault" "TableFault" 61 60 [.ref 48] tfBm true [] [] false none none (some (.ref 52)) none (some (.str "TableFault" 238)) (some (.str "TableFault" 246)) (some (.bool true)) "Exception.__new__"
/-- a fresh fault: its args, its dict -/
abbrev fltObj (d : Option Addr) (t : Addr) : Obj := { cls := .ref 61, dict := d, data := .fields #[.ref t, .none, .none, .none, .bool false, .none] }

section
variable {w : World} {M : Model} {A : Around} {E : Value → Shared → Prop} {h : Heap} {g : Array GenState} {d : Drawn} {t : Nat} {os : OsState}
theorem tf_there (X : (hd.heap_1 w.params).In h) : h.get? 61 = some tfObj := X _ _ (by k_is)

theorem tf_check_new (hC : h.get? 61 = some tfObj) {rest : List Value} {Q : Unit → Shared → Prop} (hq : Q () ⟨h, g, d, t, os⟩) :
    wpAny M A (checkBuiltinCall "Exception.__new__" ⟨.ref 61 :: rest, []⟩) Q E ⟨h, g, d, t, os⟩ := by
  have F := PySem.F.excBase_Exception
  have hstar := F.noStar
  have hcont : (Value.ref 61 :: tfBm).contains (.type "Exception") = true := by decide +kernel
  simp only [checkBuiltinCall, F.newKind, F.newSplit, F.newRow]
  repeat (first | refine wpAny_loadPart_at hC ?_ | (refine wpAny_isSubtype_exc hC ?_; rw [hcont]) | refine wpAny_staticBase_exc hC ?_ | refine wpAny_madeBy_exc hC ?_ | simp only [bne_self_eq_false, Bool.false_eq_true, if_false] | wp_step)
  exact hq
end
section
variable {prog : Program} {w : World} {A : Around} {R : Result → Shared → Prop} {E : Value → Shared → Prop} {h : Heap} {g : Array GenState} {d : Drawn} {t : Nat} {os : OsState}
theorem tf_new (hC : h.get? 61 = some tfObj) {rest : List Value}
    (hq : R (.ok (.ret (.ref (h.objs.size + 1)))) ⟨(h.push { cls := .type "tuple", data := .seq rest.toArray }).push (fltObj none h.objs.size), g, d, t, os⟩) (hrest : rest.length ≤ sizeLine) :
    codeAny (model prog w) A (.builtin "Exception.__new__" ⟨.ref 61 :: rest, []⟩) R ⟨h, g, d, t, os⟩ := by
  have F := PySem.F.excBase_Exception
  have hends := F.ends
  have hcB : (Value.ref 61 :: tfBm).contains (.type "Exception") = true := by decide +kernel
  have hcA : (Value.ref 61 :: tfBm).contains (.type "AttributeError") = false := by decide +kernel
  have hcN : (Value.ref 61 :: tfBm).contains (.type "NameError") = false := by decide +kernel
  refine codeAny_builtinAt F.entry ?_
  unfold Builtin.«BaseException.__new__»
  refine wpAt_bind ?_
  show wpAt _ _ _ (stack >>= _) _ _ _
  refine wpAt_bind (wpAt_stack fun p below => wpAt_of_wpAny ?_)
  wp_walk
  refine wpAt_of_wpAny ?_
  rw [F.owner]
  repeat (first | with_reducible refine wpAny_madeHere_exc F.canon hC ?_ | with_reducible refine wpAny_loadPart_at hC ?_ | (with_reducible refine wpAny_isSubtype_exc hC ?_; first | rw [hcB] | rw [hcA] | rw [hcN]) | wp_step)
  show R _ _
  rw [Heap.size_push]
  exact hq
end
section
variable {prog : Program} {w : World} {A : Around} {E : Value → Shared → Prop} {h : Heap} {g : Array GenState} {d : Drawn} {t : Nat} {os : OsState}
/-- TableFault(..): made, then its inherited __init__ -/
theorem tf_type_call (X : (hd.heap_1 w.params).In h) {rest : List Value} {fI : Addr} {oI : Obj} {Q : PySem.Fin → Shared → Prop}
    (hi : findIn (hd.heap_1 w.params) (.ref 61) "__init__" = some (some (.ref fI))) (hfI : h.get? fI = some oI) (hfc : oI.cls = .type "function")
    (hq : ∀ h' e, Heap.MadeExcOf h h' e (.ref 61) rest →
      wpAny (model prog w) A (call (.ref fI) (.ref e :: rest)) (fun r s' => r = .none ∧ Q (.done (.ret (.ref e))) s') E ⟨h', g, d, t, os⟩) (hrest : rest.length ≤ sizeLine) :
    wpAny (model prog w) A (Builtin.«type.__call__» ⟨.ref 61 :: rest, []⟩) Q E ⟨h, g, d, t, os⟩ := by
  have hC := tf_there X
  have F := PySem.F.excBase_Exception
  repeat (first | with_reducible refine wpAny_loadPart_at hC ?_ | with_reducible refine wpAny_madeBy_exc hC ?_ | wp_step)
  refine codeAny_call_builtin_code (Code.quiet_builtin _ F.quiet) (tf_check_new hC ?_)
  refine tf_new hC ?_ hrest
  show wpAny _ _ _ _ _ _
  have k₁ : ∀ b o, h.get? b = some o → ((h.push { cls := .type "tuple", data := .seq rest.toArray }).push (fltObj none h.objs.size)).get? b = some o :=
    fun b o e => Heap.get?_push_of_some _ (Heap.get?_push_of_some _ e)
  have hC₁ := k₁ _ _ hC
  have hfI₁ := k₁ _ _ hfI
  have X₁ := X.keeps k₁
  have hget : ((h.push { cls := .type "tuple", data := .seq rest.toArray }).push (fltObj none h.objs.size)).get? (h.objs.size + 1) = some (fltObj none h.objs.size) := by heap_get
  have hcC : (Value.ref 61 :: tfBm).contains (.ref 61) = true := by decide +kernel
  unfold isInstance
  repeat (first | with_reducible refine wpAny_loadPart_at hget ?_ | (with_reducible refine wpAny_isSubtype_exc hC₁ ?_; rw [hcC]) | wp_step)
  show wpAny _ _ (typeLookup (.ref 61) _) _ _ _
  refine (looks_findIn (M := model prog w) X₁ hi).at ?_
  refine wpAny_holding (wpAny_bind ?_)
  unfold bindSpecial
  refine wpAny_bind (wpAny_typeOf (T := "function") ⟨_, hfI₁, hfc⟩ ?_)
  rw [if_pos (by decide)]
  refine wpAny_pure (wpAny_bind (wpAny_mono (hq _ (h.objs.size + 1) ⟨k₁, Heap.get?_none_of_le (Nat.le_succ _), h.objs.size, hget, Heap.get?_none_of_le (Nat.le_refl _), ?_⟩) (fun r s' hr => ?_) fun _ _ x => x))
  · exact Heap.get?_push_of_some _ (Heap.get?_push_at rfl rfl)
  · obtain ⟨rfl, hQ⟩ := hr
    wp_walk
    exact hQ

theorem tf_call (X : (hd.heap_1 w.params).In h) {rest : List Value} {fI : Addr} {oI : Obj} {Q : Value → Shared → Prop}
    (hi : findIn (hd.heap_1 w.params) (.ref 61) "__init__" = some (some (.ref fI))) (hfI : h.get? fI = some oI) (hfc : oI.cls = .type "function")
    (hq : ∀ h' e, Heap.MadeExcOf h h' e (.ref 61) rest →
      wpAny (model prog w) (A.under (.builtin "type.__call__" ⟨.ref 61 :: rest, []⟩)) (call (.ref fI) (.ref e :: rest)) (fun r s' => r = .none ∧ Q (.ref e) s') E ⟨h', g, d, t, os⟩) (hrest : rest.length ≤ sizeLine) :
    wpAny (model prog w) A (call (.ref 61) rest) Q E ⟨h, g, d, t, os⟩ := by
  have hC := tf_there X
  have f1 := tc_lookup
  have f2 := tc_bind (.ref 61)
  have hT : (⟨h, g, d, t, os⟩ : Shared).TypeIs (.ref 61) "type" := ⟨_, hC, rfl⟩
  refine wpAny_call (codeAny_of_tree ?_)
  show wpAny _ _ (callAny (.ref 61) _) _ _ _
  repeat (any_goals (first | assumption | with_reducible refine wpAny_loadPart_at hC ?_ | wp_step))
  refine ⟨rfl, ?_⟩
  refine codeAny_call_builtin_at (Code.quiet_builtin _ (by decide +kernel)) entry_typeCall (wpAny_check_type_call_sub hC (tf_type_call X hi hfI hfc (fun h' e hm => ?_) hrest))
  exact hq h' e hm
end
/-! a fault's fields -/
section
open Builtin Builtin.ObjectAttr PyProof.Rows
variable {prog : Program} {w : World} {A : Around} {R : Result → Shared → Prop} {E : Value → Shared → Prop} {s : Shared} {h₀ : Heap} {L x e t : Addr} {m : Str → Option Value} {news : List (Addr × Obj)} {ox : Obj} {od : Option Obj} {name : Str} {v : Value}

abbrev tfCls : ClassData := { name := Str.ofString "TableFault", bases := [Value.ref 48], mro := .ref 61 :: tfBm, ns := 60, qualname := Str.ofString "TableFault" }

theorem tf_cls : clsIn (hd.heap_1 w.params) 61 = some tfCls := by k_is

theorem tf_osa {tk : Tok} {r : Option Value} (X : (hd.heap_1 w.params).In s.heap) (I : InstAt s.heap x ox 61 od) (ht : takerIn (hd.heap_1 w.params) 61 name = some r)
    (h : ∀ b, wpAny (model prog w) A.in1 (match r with | some a => setByDescriptor a (.ref x) v | none => storeInOwnDict (.ref x) (.ref 61) (.str name tk) name v b)
      (fun fin s' => match fin with | .done f => R (.ok f) s' | .again c' => c'.quiet = true ∧ codeAny (model prog w) A c' R s') (fun e s' => R (.error e) s') s) :
    codeAny (model prog w) A (.call (.builtin "object.__setattr__") ⟨[.ref x, .str name tk, v], []⟩) R s := by
  have SF := PySem.F.store_Exception
  have hc := tf_cls (w := w)
  have sub : Looks (model prog w) s.heap (isInstance (.ref x) (.type "object")) true := I.type.andThen (looks_mroIn X (by k_is))
  refine codeAny_call_builtin SF.slot.plain SF.entry (@check_slot (model prog w) _ _ s "object.__setattr__" "object" "__setattr__" (.ref x) [.str name tk, v] [] _ SF.kind SF.split sub (SF.args (.ref x) (.str name tk) v) ?_)
  obtain ⟨attr, ha, hr⟩ := Option.bind_eq_some_iff.mp ht
  have hm : Looks (model prog w) s.heap (mroOf (.ref 61)) (.ref 61 :: tfBm) := (looks_clsIn X hc).andThen .now
  have L3 : Looks (model prog w) s.heap (storeTaker? attr) r := by
    cases attr with
    | none => cases hr; exact .now
    | some a =>
      obtain ⟨b, hb, rfl⟩ := Option.map_eq_some_iff.mp hr
      refine (looks_takesIn X hb).andThen ?_
      cases b <;> exact .now
  rw [osa_eq, refuse_eq]
  refine wpAny_bind (wpAny_bind (I.type.here (wpAny_bind (hm.here ?_))))
  rw [refuseLoop_ref, refuseLoop_ref, SF.passes]
  refine wpAny_pure (wpAny_bind (I.type.here (wpAny_bind ((looks_findIn X ha).here (wpAny_bind (L3.here ?_))))))
  exact h _

theorem tf_inst0 {h : Heap} (he : h.get? e = some (fltObj none t)) : InstAt h e (fltObj none t) 61 none := ⟨he, rfl, rfl, trivial⟩
theorem tf_inst1 {h : Heap} {d : Addr} {o : Obj} (he : h.get? e = some (fltObj (some d) t)) (hd : h.get? d = some o) : InstAt h e (fltObj (some d) t) 61 (some o) := ⟨he, rfl, rfl, hd⟩

theorem tf_set_new {Q : Unit → Shared → Prop} {news' : Addr → List (Addr × Obj)} (F : Fr h₀ L s.heap m) (X₀ : (hd.heap_1 w.params).In h₀) (N : News h₀ L s.heap news) (U : ∀ d, Upd e (fltObj none t) (fltObj (some d) t) news (news' d))
    (ht : takerIn (hd.heap_1 w.params) 61 name = some none)
    (h : ∀ d h' tk, Fr h₀ L h' m → News h₀ L h' ((d, dictOf [⟨PyData.keyHash w.params name, .str name (s.toks + 1), v⟩] 1) :: news' d) → (∀ p ∈ news, p.1 < d) → Q () { s with heap := h', toks := tk }) :
    wpAny (model prog w) A (setAttr (.ref e) name v) Q E s := by
  obtain ⟨hh, g, dr, tk, os⟩ := s
  have X : (hd.heap_1 w.params).In hh := X₀.keeps F.keep
  obtain ⟨pre, post, e1, e2, a, b⟩ := (U hh.objs.size).split
  have he : hh.get? e = some (fltObj none t) := (N (e, fltObj none t) (by rw [e1]; simp)).1
  refine set_plain X (tf_inst0 he) (by k_is) (tf_osa X (tf_inst0 he) ht fun _ => ?_)
  -- the dict is made
  have hes : e ≠ hh.objs.size := Nat.ne_of_lt (Heap.lt_size he)
  have F₁ := F.push emptyDict
  have N₁ := N.push F emptyDict
  have N₁' : News h₀ L (hh.push emptyDict) ((hh.objs.size, emptyDict) :: pre ++ (e, fltObj none t) :: post) := by rw [e1] at N₁; exact N₁
  obtain ⟨F₂, N₂⟩ := news_upd (f := fun o => { o with dict := some hh.objs.size }) (o' := fltObj (some hh.objs.size) t) F₁ N₁'
    (fun p hp => by rcases List.mem_cons.mp hp with rfl | hp; exact hes.symm; exact a p hp) b rfl rfl
  have N₂' : News h₀ L ((hh.push emptyDict).update e fun o => { o with dict := some hh.objs.size }) ([] ++ (hh.objs.size, emptyDict) :: (pre ++ (e, fltObj (some hh.objs.size) t) :: post)) := N₂
  have hlt : ∀ p ∈ news, p.1 < hh.objs.size := fun p hp => Heap.lt_size (N p hp).1
  obtain ⟨F₃, N₃⟩ := news_upd (f := Obj.putName name (PyData.keyHash w.params name) (.str name (tk + 1)) v) (o' := dictOf [⟨PyData.keyHash w.params name, .str name (tk + 1), v⟩] 1) F₂ N₂'
    (fun _ hp => nomatch hp) (fun p hp => Nat.ne_of_lt (by
      rcases List.mem_append.mp hp with hp | hp
      · exact hlt p (by rw [e1]; exact List.mem_append_left _ hp)
      · rcases List.mem_cons.mp hp with rfl | hp
        · exact Heap.lt_size he
        · exact hlt p (by rw [e1]; exact List.mem_append_right _ (List.mem_cons_of_mem _ hp)))) rfl rfl
  have hx₁ : (hh.push emptyDict).get? e = some (fltObj none t) := Heap.get?_push_of_some _ he
  have D := (N₂' (hh.objs.size, emptyDict) (by simp)).1
  have D' := (N₃ (hh.objs.size, dictOf [⟨PyData.keyHash w.params name, .str name (tk + 1), v⟩] 1) (.head _)).1
  have fin := h hh.objs.size _ (tk + 1 + 1) F₃ (by rw [e2]; exact N₃) hlt
  unfold storeInOwnDict ownDictForStores instanceDict
  refine wpAny_bind (wpAny_pure (wpAny_bind (wpAny_bind (wpAny_loadPart he ?_))))
  refine wpAny_bind ((looks_clsIn X (tf_cls (w := w))).at ?_)
  refine wpAny_bind (wpAny_alloc ?_)
  refine wpAny_bind (wpAny_update hx₁ ?_)
  refine wpAny_pure ?_
  show wpAny _ _ (storeInDict hh.objs.size (.str name _) name v) _ _ _
  unfold storeInDict newKeyGuard
  refine wpAny_bind (wpAny_pure (wpAny_bind ?_))
  unfold nsSet
  refine wpAny_bind (wpAny_bind (wpAny_askSetting (wpAny_pure (wpAny_bind (wpAny_mkText (wpAny_bind (wpAny_loadPart D ?_)))))))
  refine wpAny_updatePart D ?_
  refine wpAny_bind (wpAny_lookBehind D' (by exact pastItsLine_dict (by rw [List.size_toArray, sizeLine_eq]; simp)) ?_)
  exact wpAny_pure fin
end
end Mine
end
section
open PySem PySem.W
open PySem.Sem (wp)
set_option maxRecDepth 100000
namespace Mine
/-! a fault in flight: as the library's FlyingW, but the fault's own dict is remembered -/
def TrF (h base : Heap) (e d : Addr) (fl : Value) : Prop :=
  ∃ vs sl T oT ts, h.get? e = some ⟨.ref 61, some d, .fields vs, sl⟩ ∧ vs[1]? = some (.ref T) ∧ base.get? T = none ∧ T ≠ e ∧ h.get? T = some oT ∧ oT.data = .fields ts ∧ ts[3]? = some fl
def LeftF (base : Heap) (l : List Env) (e d : Addr) (fl : Value) (h h' : Heap) : Prop :=
  base.StaysIn h' ∧ h'.FunFrames base l ∧ TrF h' base e d fl ∧ h.UpToSlots h'

section
variable {M : Model} {A : Around} {E : Value → Shared → Prop} {s : Shared}
theorem fly_entry {base : Heap} {env : Env} {outer : List Env} {L e d : Addr} {vs : Array Value} {sl : Array (Option Value)} {head : Value} {hadNext : Bool} {Q : Unit → Shared → Prop}
    (hfr : A.frames = some (env :: outer)) (hl : s.heap.FunFrames base (env :: outer)) (hf : env.frame = some L)
    (he : s.heap.get? e = some ⟨.ref 61, some d, .fields vs, sl⟩) (hkb : base.StaysIn s.heap) (hen : base.get? e = none) (hsz : 1 < vs.size)
    (h : ∀ h', LeftF base (env :: outer) e d (rawInt L) s.heap h' → Q () { s with heap := h' }) :
    wpAny M A (do let a ← frameOf env; let pl ← entryPlaceOf L hadNext; let b ← EntryCells.newEntry head a .none (rawInt L) .none pl; setField (.ref e) 1 b) Q E s := by
  have hene : e ∉ (env :: outer).filterMap (·.frame) := fun hm => by
    obtain ⟨_, o, ho, hnf⟩ := hl.mem hm
    rw [he] at ho; injection ho with ho; subst ho; exact hnf vs rfl
  refine wpAny_bind (wpAny_frameOf_fun hfr hl hf fun h₁ hs₁ => ?_)
  refine wpAny_bind (wpAny_entryPlaceOf fun pl hpl => ?_)
  unfold EntryCells.newEntry newFields
  refine wpAny_bind (wpAny_newObj_type ?_ (hpl.sizeOk5 _ _ _ _ _))
  have he₁ := (hs₁.2.1 e hene).trans he
  have kb₁ : base.StaysIn h₁ := fun b o hbo => (hs₁.2.1 b fun hm => by rw [(hl.mem hm).1] at hbo; cases hbo).trans (hkb b o hbo)
  generalize hoT : ({ cls := .type "traceback", dict := none, data := .fields ([head, .ref L, .none, rawInt L, .none] ++ (if pl.isEmpty then List.replicate 6 Value.none else pl)).toArray } : Obj) = oT
  have hts : ([head, .ref L, .none, rawInt L, .none] ++ (if pl.isEmpty then List.replicate 6 Value.none else pl)).toArray[3]? = some (rawInt L) := by first | (simp; done) | (rcases hpl with rfl | ⟨_, _, _, _, _, _, _, rfl⟩ <;> simp)
  have he₂ := Heap.get?_push_of_some (h := h₁) oT he₁
  have hTe : h₁.objs.size ≠ e := Nat.ne_of_gt (Heap.lt_size he₁)
  refine wpAny_setField he₂ rfl hsz (h _ ?_)
  have he₃ := Heap.get?_update_self (Obj.mapFields (·.setIfInBounds 1 (Value.ref h₁.objs.size))) he₂ rfl
  have hT₃ := (Heap.get?_update_other (h₁.push oT) (Obj.mapFields (·.setIfInBounds 1 (Value.ref h₁.objs.size))) (Ne.symm hTe)).trans (Heap.get?_push_size h₁ (by rw [← hoT]; rfl))
  have keep : ∀ b o, b ≠ e → h₁.get? b = some o → ((h₁.push oT).update e (Obj.mapFields (·.setIfInBounds 1 (Value.ref h₁.objs.size)))).get? b = some o := fun b o hbe hb => by
    rw [Heap.get?_update_other _ _ (Ne.symm hbe)]
    exact Heap.get?_push_of_some _ hb
  have noRecord : ∀ b o, s.heap.get? b = some o → (∀ vs, o.data ≠ .fields vs) → b ≠ e := fun b o hb hnf q => by
    rw [q, he] at hb; injection hb with hb; subst hb; exact hnf vs rfl
  refine ⟨fun b o hbo => keep b o (fun q => by rw [q, hen] at hbo; cases hbo) (kb₁ b o hbo), hl.of_keeps fun b o hb hnf => ?_, ?_, fun b o hb hnf => ?_⟩
  · obtain ⟨sl', hs⟩ := hs₁.2.2 b o hb
    exact ⟨_, keep b _ (noRecord b o hb hnf) hs, rfl⟩
  · exact ⟨_, sl, h₁.objs.size, oT, _, he₃, by simp [hsz], kb₁.fresh, hTe, hT₃, by rw [← hoT], hts⟩
  · obtain ⟨sl', hs⟩ := hs₁.2.2 b o hb
    exact ⟨sl', keep b _ (noRecord b o hb hnf) hs⟩

theorem fly_flight {base : Heap} {l : List Env} {e d : Addr} {fl : Value} {Q : Unit → Shared → Prop}
    (hkb : base.StaysIn s.heap) (hl : s.heap.FunFrames base l) (ht : TrF s.heap base e d fl)
    (h : ∀ h', LeftF base l e d .none s.heap h' → Q () { s with heap := h' }) : wpAny M A (setFlight (.ref e) none) Q E s := by
  obtain ⟨vs, sl, T, oT, ts, he, h1, hnT, hTe, hT, hdT, h3⟩ := ht
  have hsz3 : 3 < ts.size := (Array.getElem?_eq_some_iff.mp h3).1
  have other : ∀ b, b ≠ T → (s.heap.update T (Obj.mapFields (·.setIfInBounds 3 ((none : Option Addr).elim Value.none fun f => rawInt f)))).get? b = s.heap.get? b :=
    fun b hb => Heap.get?_update_other _ _ (Ne.symm hb)
  have noRecord : ∀ b o, s.heap.get? b = some o → (∀ vs, o.data ≠ .fields vs) → b ≠ T := fun b o hb hnf q => by
    rw [q, hT] at hb; injection hb with hb; subst hb; exact hnf ts hdT
  unfold setFlight
  refine wpAny_bind (wpAny_field he rfl h1 ?_)
  rw [if_pos (show (Value.ref T != Value.none) = true from by simp)]
  refine wpAny_setField hT hdT hsz3 (h _ ⟨fun b o hbo => (other b fun q => by rw [q, hnT] at hbo; cases hbo).trans (hkb b o hbo),
    hl.of_keeps fun b o hb hnf => ⟨o, (other b (noRecord b o hb hnf)).trans hb, rfl⟩, ?_, fun b o hb hnf => ⟨o.slots, (other b (noRecord b o hb hnf)).trans hb⟩⟩)
  exact ⟨vs, sl, T, _, _, (other e (Ne.symm hTe)).trans he, h1, hnT, hTe, Heap.get?_update_self _ hT (Obj.isFreed_of_fields (Obj.data_mapFields hdT _)), Obj.data_mapFields hdT _, by simp [hsz3]⟩

/-- the frame is noted for the first time -/
theorem fly_note_first {base : Heap} {env : Env} {outer : List Env} {L e d : Addr} {vs : Array Value} {sl : Array (Option Value)} {Q : Unit → Shared → Prop}
    (hfr : A.frames = some (env :: outer)) (hl : s.heap.FunFrames base (env :: outer)) (hf : env.frame = some L)
    (he : s.heap.get? e = some ⟨.ref 61, some d, .fields vs, sl⟩) (hkb : base.StaysIn s.heap) (hen : base.get? e = none) (h1 : vs[1]? = some .none)
    (h : ∀ h', LeftF base (env :: outer) e d (rawInt L) s.heap h' → Q () { s with heap := h' }) : wpAny M A (noteFrame (.ref e) env) Q E s := by
  unfold noteFrame
  simp only [hf]
  refine wpAny_bind (wpAny_field he rfl h1 ?_)
  rw [if_neg (by decide)]
  exact fly_entry hfr hl hf he hkb hen (Array.getElem?_eq_some_iff.mp h1).1 h

/-- .. by the next frame -/
theorem fly_note_next {base : Heap} {env : Env} {outer : List Env} {L e d : Addr} {Q : Unit → Shared → Prop}
    (hfr : A.frames = some (env :: outer)) (hl : s.heap.FunFrames base (env :: outer)) (hf : env.frame = some L) (ht : TrF s.heap base e d .none) (hkb : base.StaysIn s.heap) (hen : base.get? e = none)
    (h : ∀ h', LeftF base (env :: outer) e d (rawInt L) s.heap h' → Q () { s with heap := h' }) : wpAny M A (noteFrame (.ref e) env) Q E s := by
  obtain ⟨vs, sl, T, oT, ts, he, h1, hnT, hTe, hT, hdT, h3⟩ := ht
  unfold noteFrame
  simp only [hf]
  refine wpAny_bind (wpAny_field he rfl h1 ?_)
  rw [if_pos (show (Value.ref T != Value.none) = true from by simp)]
  refine wpAny_bind (wpAny_field hT hdT h3 ?_)
  rw [if_neg (show ¬ ((Value.none == rawInt L) = true) from by simp [rawInt])]
  refine wpAny_bind (wpAny_setField hT hdT (Array.getElem?_eq_some_iff.mp h3).1 ?_)
  have other : ∀ b, b ≠ T → (s.heap.update T (Obj.mapFields (·.setIfInBounds 3 Value.none))).get? b = s.heap.get? b := fun b hb => Heap.get?_update_other _ _ (Ne.symm hb)
  have noRecord : ∀ b o, s.heap.get? b = some o → (∀ vs, o.data ≠ .fields vs) → b ≠ T := fun b o hb hnf q => by
    rw [q, hT] at hb; injection hb with hb; subst hb; exact hnf ts hdT
  refine fly_entry hfr (hl.of_keeps fun b o hb hnf => ⟨o, (other b (noRecord b o hb hnf)).trans hb, rfl⟩) hf ((other e (Ne.symm hTe)).trans he)
    (fun b o hbo => (other b fun q => by rw [q, hnT] at hbo; cases hbo).trans (hkb b o hbo)) hen (Array.getElem?_eq_some_iff.mp h1).1
    fun h' ⟨x1, x2, x3, x4⟩ => h h' ⟨x1, x2, x3, fun b o hb hnf => x4 b o ((other b (noRecord b o hb hnf)).trans hb) hnf⟩

theorem fly_note_again {base : Heap} {env : Env} {L e d : Addr} {Q : Unit → Shared → Prop} (hf : env.frame = some L) (ht : TrF s.heap base e d (rawInt L)) (h : Q () s) :
    wpAny M A (noteFrame (.ref e) env) Q E s := by
  obtain ⟨vs, sl, T, oT, ts, he, h1, hnT, hTe, hT, hdT, h3⟩ := ht
  unfold noteFrame
  simp only [hf]
  refine wpAny_bind (wpAny_field he rfl h1 ?_)
  rw [if_pos (show (Value.ref T != Value.none) = true from by simp)]
  refine wpAny_bind (wpAny_field hT hdT h3 ?_)
  rw [if_pos (show (rawInt L == rawInt L) = true from by simp)]
  exact wpAny_pure h

theorem fly_leave_first {base : Heap} {env : Env} {outer : List Env} {L e d : Addr} {vs : Array Value} {sl : Array (Option Value)} {Q : Unit → Shared → Prop}
    (hfr : A.frames = some (env :: outer)) (hl : s.heap.FunFrames base (env :: outer)) (hf : env.frame = some L)
    (he : s.heap.get? e = some ⟨.ref 61, some d, .fields vs, sl⟩) (hkb : base.StaysIn s.heap) (hen : base.get? e = none) (h1 : vs[1]? = some .none)
    (h : ∀ h', LeftF base (env :: outer) e d .none s.heap h' → Q () { s with heap := h' }) : wpAny M A (leaving env (.ref e)) Q E s := by
  unfold leaving
  refine wpAny_bind (fly_note_first hfr hl hf he hkb hen h1 fun h₁ ⟨x1, x2, x3, x4⟩ => ?_)
  exact fly_flight (s := { s with heap := h₁ }) x1 x2 x3 fun h' ⟨y1, y2, y3, y4⟩ => h h' ⟨y1, y2, y3, x4.trans y4⟩
theorem fly_leave_next {base : Heap} {env : Env} {outer : List Env} {L e d : Addr} {Q : Unit → Shared → Prop}
    (hfr : A.frames = some (env :: outer)) (hl : s.heap.FunFrames base (env :: outer)) (hf : env.frame = some L) (ht : TrF s.heap base e d .none) (hkb : base.StaysIn s.heap) (hen : base.get? e = none)
    (h : ∀ h', LeftF base (env :: outer) e d .none s.heap h' → Q () { s with heap := h' }) : wpAny M A (leaving env (.ref e)) Q E s := by
  unfold leaving
  refine wpAny_bind (fly_note_next hfr hl hf ht hkb hen fun h₁ ⟨x1, x2, x3, x4⟩ => ?_)
  exact fly_flight (s := { s with heap := h₁ }) x1 x2 x3 fun h' ⟨y1, y2, y3, y4⟩ => h h' ⟨y1, y2, y3, x4.trans y4⟩
end
open PyProof.Rows
def AtIs (od : Obj) (n : Int) : Prop := ∃ k1 k2 t1 t2 t3 v1, od = dictOf [⟨k1, .str "what" t1, v1⟩, ⟨k2, .str "at" t2, .int n t3⟩] 2
/-- a fault with 'at' n has left the frames ahead of l; what stands of the ledger -/
def FlyF (base : Heap) (l : List Env) (e : Addr) (n : Int) (news : List (Addr × Obj)) (h : Heap) : Prop :=
  ∃ B d od, base.StaysIn B ∧ (∀ q ∈ news, B.get? q.1 = some q.2 ∧ base.get? q.1 = none) ∧ B.StaysIn h ∧ B.get? e = none ∧ h.FunFrames B l ∧ TrF h B e d .none ∧ (B.get? d = some od ∧ base.get? d = none) ∧ AtIs od n
theorem FlyF.less {base : Heap} {l : List Env} {e : Addr} {n : Int} {news news' : List (Addr × Obj)} {h : Heap} (x : FlyF base l e n news h) (hs : ∀ p ∈ news', p ∈ news) : FlyF base l e n news' h := by
  obtain ⟨B, d, od, a1, a2, r⟩ := x
  exact ⟨B, d, od, a1, fun q hq => a2 q (hs q hq), r⟩

section
variable {M : Model} {A : Around} {E : Value → Shared → Prop} {s' : Shared} {base g g₂ : Heap} {outer : List Env} {L a e d t : Addr} {od : Obj} {n : Int} {m : Str → Option Value} {name : Str} {scope : Scope} {cd : Value} {Q : Unit → Shared → Prop} {news : List (Addr × Obj)}
theorem leaveF_first (K : Below A base outer g) (F : Fr g L s'.heap m) (N : News g L s'.heap ((e, fltObj (some d) t) :: (d, od) :: news)) (hed : d ≠ e) (hne : ∀ q ∈ news, q.1 ≠ e) (hat : AtIs od n)
    (hQ : ∀ h', FlyF base outer e n news h' → g.UpToSlots h' → Q () { s' with heap := h' }) (hk : scope.kind = .function := by rfl) :
    wpAny M (A.deeper (envOf name scope L a cd)) (leaving (envOf name scope L a cd) (.ref e)) Q E s' := by
  have K' := K.push (name := name) (a := a) (cd := cd) F hk
  let fs := (envOf name scope L a cd :: outer).filterMap (·.frame)
  have hin : ∀ env ∈ (envOf name scope L a cd :: outer), ∀ b, env.frame = some b → b ∈ fs ++ [e] := fun env he b hb => List.mem_append_left _ (List.mem_filterMap.mpr ⟨env, he, hb⟩)
  have ne := N _ (.head _)
  have nd := N _ (.tail _ (.head _))
  -- an object of the ledger is no frame's
  have off : ∀ b o, s'.heap.get? b = some o → b ≠ L → g.get? b = none → b ∉ fs := fun b o hb hbL hg hm => by
    obtain ⟨env, he, hf⟩ := List.mem_filterMap.mp hm
    rcases List.mem_cons.mp he with rfl | he
    · exact hbL (Option.some.inj hf).symm
    · obtain ⟨o, ho, _⟩ := (K.frames.mem (List.mem_filterMap.mpr ⟨env, he, hf⟩)).2
      rw [hg] at ho; cases ho
  have st : base.StaysIn (hideAll s'.heap (fs ++ [e])) := fun b o q => hideAll_get _ (K'.stays b o q) fun hm => by
    rcases List.mem_append.mp hm with hm | hm
    · rw [(K'.frames.mem hm).1] at q; cases q
    · rw [List.mem_singleton.mp hm, fresh_of_stays K.stays ne.2.2] at q; cases q
  have hl : ∀ q ∈ news, (hideAll s'.heap (fs ++ [e])).get? q.1 = some q.2 ∧ base.get? q.1 = none := fun q hq => by
    have nq := N q (.tail _ (.tail _ hq))
    refine ⟨hideAll_get _ nq.1 fun hm => ?_, fresh_of_stays K.stays nq.2.2⟩
    rcases List.mem_append.mp hm with hm | hm
    · exact off _ _ nq.1 nq.2.1 nq.2.2 hm
    · exact hne q hq (List.mem_singleton.mp hm)
  have hd' : (hideAll s'.heap (fs ++ [e])).get? d = some od := hideAll_get _ nd.1 fun hm => by
    rcases List.mem_append.mp hm with hm | hm
    · exact off _ _ nd.1 nd.2.1 nd.2.2 hm
    · exact hed (List.mem_singleton.mp hm)
  have hen : (hideAll s'.heap (fs ++ [e])).get? e = none := hideAll_none _ (List.mem_append_right _ (List.mem_singleton.mpr rfl))
  refine fly_leave_first (base := hideAll s'.heap (fs ++ [e])) K'.stack (funFrames_hide K'.frames hin) rfl ne.1 (fun b o q => of_hideAll _ q) hen rfl fun h' ⟨x1, x2, x3, x4⟩ => ?_
  exact hQ h' ⟨_, d, od, st, hl, x1, hen, x2.2.2, x3, ⟨hd', fresh_of_stays K.stays nd.2.2⟩, hat⟩ ((Heap.UpToSlots.of_keeps F.keep).trans x4)

theorem leaveF_next (K : Below A base outer g) (F : Fr g L g₂ m) (R : FlyF base (envOf name scope L a cd :: outer) e n news s'.heap) (hsm : g₂.UpToSlots s'.heap)
    (hQ : ∀ h', FlyF base outer e n news h' → g.UpToSlots h' → Q () { s' with heap := h' }) :
    wpAny M (A.deeper (envOf name scope L a cd)) (leaving (envOf name scope L a cd) (.ref e)) Q E s' := by
  obtain ⟨B, d, od, st, hl, x1, hen, x2, x3, hd', hat⟩ := R
  refine fly_leave_next (Around.frames_deeper K.stack) x2 rfl x3 x1 hen fun h' ⟨y1, y2, y3, y4⟩ => ?_
  exact hQ h' ⟨B, d, od, st, hl, y1, hen, y2.2.2, y3, hd', hat⟩ ((Heap.UpToSlots.of_keeps F.keep).trans (hsm.trans y4))
end

/-! raise <a fault> -/
section
variable {M : Model} {A : Around} {E : Value → Shared → Prop} {s : Shared} {env : Env} {w : World}
def RaisableF (w : World) (E : Value → Shared → Prop) (v : Value) (s₁ : Shared) : Prop :=
  ∃ e d t, v = .ref e ∧ (hd.heap_1 w.params).In s₁.heap ∧ s₁.heap.get? e = some (fltObj (some d) t) ∧ E (.ref e) s₁
theorem Raise_flt {ex : Expr} {pos : Pos} {Q : Flow → Shared → Prop} (hh : A.handled = none)
    (h : wpAny M A (eval ex env) (RaisableF w E) E s) : wpAny M A (exec (.Raise (some ex) none pos) env) Q E s := by
  show wpAny M A (do standAt pos; raiseStmt env (some (do let v ← eval ex env; standAt pos; pure v)) none) Q E s
  refine wpAny_bind (wpAny_standAt ?_)
  have hcB : (Value.ref 61 :: tfBm).contains (.type "BaseException") = true := by decide +kernel
  unfold raiseStmt
  dsimp only
  refine wpAny_bind (wpAny_bind (wpAny_mono h (fun v s₁ h₁ => wpAny_bind (wpAny_standAt (wpAny_pure ?_))) fun _ _ x => x))
  obtain ⟨e, d, t, rfl, X, he, hE⟩ := h₁
  have hC := tf_there X
  obtain ⟨hp, g, dr, tk, os⟩ := s₁
  repeat (first | with_reducible refine wpAny_loadPart_at he ?_ | with_reducible refine wpAny_loadPart_at hC ?_ | (with_reducible refine wpAny_isSubtype_exc hC ?_; rw [hcB]) | wp_step)
  exact wpAny_raiseNew_none hh hE
end
end Mine
end
section
open PySem PySem.W
open PySem.Sem (wp)
set_option maxRecDepth 100000
namespace Mine
namespace FF
theorem slot_wd_get : Slot "wrapper_descriptor" "__get__" "wrapper_descriptor.__get__" := .of (owner := "wrapper_descriptor") (n := "__get__") (by rw [typeLookup_type, builtinLookup_eq_fast]; kernel_rfl) (by decide +kernel) (by decide +kernel) (by decide +kernel)
  (by first | exact .inl (by decide +kernel) | exact .inr (by decide +kernel)) (by rw [isSubtype_type]; kernel_rfl)
theorem entry_wd_get : entryFor table "wrapper_descriptor.__get__" = some Builtin.«wrapper_descriptor.__get__» := entryFor_of_tree (by kernel_rfl)
theorem args_wd_get (a b c : Value) : argsOk "wrapper_descriptor.__get__" ⟨[a, b, c], []⟩ := by unfold argsOk; kernel_rfl
theorem owner_init : ".".intercalate ("Exception.__init__".cutAt '.').dropLast = "Exception" := by decide +kernel
theorem typeOf_init {s : Shared} : s.TypeIs (.builtin "Exception.__init__") "wrapper_descriptor" := by
  show typeOf (.builtin "Exception.__init__") = _
  kernel_rfl
end FF
abbrev mwObj (e : Addr) : Obj := { cls := .type "method-wrapper", dict := none, data := .fields #[.builtin "Exception.__init__", .ref e] }
section
variable {prog : Program} {w : World} {A : Around} {E : Value → Shared → Prop} {h : Heap} {g : Array GenState} {d : Drawn} {t : Nat} {os : OsState} {e so : Addr} {oe : Obj}
set_option maxHeartbeats 2000000 in
theorem tf_super_ga {name : Str} (hnm : name = "__init__") {tk : Tok} {Q : PySem.Fin → Shared → Prop} (X : (hd.heap_1 w.params).In h) (he : h.get? e = some oe) (hc : oe.cls = .ref 61)
    (hso : h.get? so = some { cls := .type "super", dict := none, data := .fields #[.ref 48, .ref e, .ref 61], slots := #[] }) (hxC : e ≠ 61)
    (hq : Q (.done (.ret (.ref h.objs.size))) ⟨h.push (mwObj e), g, d, t, os⟩) :
    wpAny (model prog w) A (Builtin.«super.__getattribute__» ⟨[.ref so, .str name tk], []⟩) Q E ⟨h, g, d, t, os⟩ := by
  have hC := tf_there X
  have hno : Looks (model prog w) h (opaqueClassAbove (.ref 61)) none := looks_opaque X (by k_is)
  have hm : Looks (model prog w) h (mroOf (.ref 61)) (.ref 61 :: tfBm) := (looks_clsIn X (tf_cls (w := w))).andThen .now
  have hl : ((Value.ref 61 :: tfBm).dropWhile (· != .ref 48)).drop 1 = [.type "Exception", .type "BaseException", .type "object"] := by decide +kernel
  obtain ⟨l₀, hl0⟩ : ∃ l, l = (Value.ref 61 :: tfBm) := ⟨_, rfl⟩
  rw [← hl0] at hm hl
  have hf : alongIn (hd.heap_1 w.params) name [.type "Exception", .type "BaseException", .type "object"] = some (some (.builtin "Exception.__init__")) := by rw [hnm]; kernel_rfl
  have hn : (name == ("__class__" : Str)) = false := by rw [hnm]; decide +kernel
  clear hnm
  have hlk := FF.slot_wd_get.lookup
  have hne : (Value.ref e == Value.ref 61) = false := by simp [hxC]
  have hTf : (⟨h, g, d, t, os⟩ : Shared).TypeIs (.builtin "Exception.__init__") "wrapper_descriptor" := FF.typeOf_init
  have hcB : (Value.ref 61 :: tfBm).contains (.type (".".intercalate ("Exception.__init__".cutAt '.').dropLast)) = true := by rw [FF.owner_init]; decide +kernel
  have hdt : ({ cls := .type "super", dict := none, data := .fields #[.ref 48, .ref e, .ref 61], slots := #[] } : Obj).data = .fields #[.ref 48, .ref e, .ref 61] := rfl
  have f0 : (#[.ref 48, .ref e, .ref 61] : Array Value)[0]? = some (.ref 48) := rfl
  have f1 : (#[.ref 48, .ref e, .ref 61] : Array Value)[1]? = some (.ref e) := rfl
  have f2 : (#[.ref 48, .ref e, .ref 61] : Array Value)[2]? = some (.ref 61) := rfl
  unfold Builtin.«super.__getattribute__»
  repeat (first
    | (with_reducible refine wpAny_field hso hdt f0 ?_) | (with_reducible refine wpAny_field hso hdt f1 ?_) | (with_reducible refine wpAny_field hso hdt f2 ?_)
    | (with_reducible refine ks_wpAny_notOpaque hno ?_)
    | (with_reducible refine Looks.at hm ?_; rw [hl])
    | (refine ks_forIn_along X (fun _ _ => rfl) rfl ?_ hf)
    | (with_reducible refine wpAny_typeOf hTf ?_)
    | (with_reducible refine wpAny_call_entry FF.slot_wd_get hTf FF.entry_wd_get ?_ (FF.args_wd_get _ _ _))
    | (with_reducible refine wpAny_loadPart_at he ?_; rw [hc])
    | (with_reducible refine wpAny_isSubtype_exc hC ?_; rw [hcB])
    | (with_reducible refine ⟨_, rfl, ?_⟩)
    | (simp only [hn, hne, Bool.or_false, Bool.false_eq_true, if_false])
    | wp_step
    | dsimp only)
  all_goals exact hq
end
section
open PyProof.Rows
variable {prog : Program} {w : World} {A : Around} {E : Value → Shared → Prop} {s : Shared} {h₀ : Heap} {L e so mw t : Addr} {oe : Obj} {m : Str → Option Value} {news : List (Addr × Obj)}
/-- super().__init__ of a fault: a method-wrapper -/
theorem tf_super_method {pl : Sem Bool} {Q : Value × List Value → Shared → Prop} (F : Fr h₀ L s.heap m) (X₀ : (hd.heap_1 w.params).In h₀) (N : News h₀ L s.heap news)
    (hso : s.heap.get? so = some (ks_superObj 48 e 61)) (he : s.heap.get? e = some oe) (hc : oe.cls = .ref 61) (hxC : e ≠ 61)
    (hq : ∀ q h', Fr h₀ L h' m → News h₀ L h' ((q, mwObj e) :: news) → (∀ p ∈ news, p.1 < q) → Q (.ref q, []) { s with heap := h', toks := s.toks + 1 }) :
    wpAny (model prog w) A (getMethod (.ref so) "__init__" pl) Q E s := by
  have hfin := hq s.heap.objs.size (s.heap.push (mwObj e)) (F.push _) (N.push F _) fun p hp => Heap.lt_size (N p hp).1
  have X : (hd.heap_1 w.params).In s.heap := X₀.keeps F.keep
  obtain ⟨h, g, d, tk, os⟩ := s
  have hlk := PySem.F.ks_slot_super_ga.lookup
  have hcan := PySem.F.ks_canon_super_ga
  have hT : ∀ t', (⟨h, g, d, t', os⟩ : Shared).TypeIs (.ref so) "super" := fun _ => ⟨_, hso, rfl⟩
  unfold getMethod
  refine wpAny_bind (wpAny_specialOf (hT _) hlk ?_)
  show wpAny _ _ (if (Manifest.canonical "super.__getattribute__" != "object.__getattribute__") = true then _ else _) _ _ _
  rw [if_pos hcan]
  unfold getAttr getAttrBy
  refine wpAny_bind (wpAny_bind (wpAny_mkText (wpAny_holding (wpAny_bind (wpAny_typeOf (hT _) (wpAny_bind (wpAny_of_eq hlk ?_)))))))
  show wpAny _ _ (getAttrByItsOwn (.ref so) (.str "__init__" tk) (.type "super") (.builtin "super.__getattribute__") true false) _ _ _
  unfold getAttrByItsOwn hookBefore callGetattribute boundAndCalled
  refine wpAny_bind (wpAny_of_eq (show (if onTheHeap (.type "super") then typeLookup (.type "super") "__getattr__" else pure none) = pure none from rfl) ?_)
  refine wpAny_bind (wpAny_attempt (wpAny_holding ?_))
  show wpAny _ _ (bindSpecial (.builtin "super.__getattribute__") (.ref so) >>= _) _ _ _
  refine wpAny_bind (wpAny_of_eq (PySem.F.ks_slot_super_ga.bind _) ?_)
  refine wpAny_mono (Q := fun v s' => v = .ref h.objs.size ∧ s' = ⟨h.push (mwObj e), g, d, tk + 1, os⟩) (E := fun _ _ => False)
    (wpAny_call_entry PySem.F.ks_slot_super_ga (hT _) PySem.F.ks_entry_super_ga (tf_super_ga rfl X he hc hso hxC ⟨_, rfl, rfl, rfl⟩) (PySem.F.ks_gaArgs_super _ _)) (fun v s' hv => ?_) fun _ _ z => z.elim
  obtain ⟨rfl, rfl⟩ := hv
  exact wpAny_pure (wpAny_pure hfin)

theorem tf_mw_keep {M : Model} {h : Heap} (hm : h.get? mw = some (mwObj e)) : ∃ k, (k = Keeper.frame ∨ k = Keeper.machine ∨ k = Keeper.boundFrame) ∧ Looks M h (keeperOf (.ref mw)) k :=
  ⟨.machine, .inr (.inl rfl), (Looks.ld (part := none) hm).andThen .now⟩
end
section
open PyProof.Rows
variable {prog : Program} {w : World} {A : Around} {E : Value → Shared → Prop} {s : Shared} {h₀ : Heap} {L e so mw t : Addr} {oe : Obj} {m : Str → Option Value} {news : List (Addr × Obj)}
theorem tf_bound_check {M : Model} {h : Heap} {g : Array GenState} {d : Drawn} {tk : Nat} {os : OsState} {e : Addr} {rest : List Value} {Q : Unit → Shared → Prop} (hC : h.get? 61 = some tfObj) (he : h.get? e = some oe) (hcls : oe.cls = .ref 61) (hq : Q () ⟨h, g, d, tk, os⟩) :
    wpAny M A (checkBoundCall "Exception.__init__" ⟨.ref e :: rest, []⟩) Q E ⟨h, g, d, tk, os⟩ := by
  have F := PySem.F.excBase_Exception
  have hshort := F.noStar
  have hcB : (Value.ref 61 :: tfBm).contains (.type "Exception") = true := by decide +kernel
  simp only [checkBoundCall, F.initKind, F.initRow]
  rw [if_pos (by decide)]
  unfold Bind.checkArgs
  repeat (first | (with_reducible refine wpAny_loadPart_at he ?_; rw [hcls]) | with_reducible refine wpAny_loadPart_at hC ?_ | (with_reducible refine wpAny_isSubtype_exc hC ?_; rw [hcB]) | wp_step)
  refine wpAny_onRaise ?_
  rw [show ∀ (a b : String) (n : Nat), Bind.check ⟨.positional, "*", "Exception", .self, [⟨"args", .varPos, false⟩]⟩ a b n (List.map (fun x => x.fst) ({ pos := Value.ref e :: rest } : Args).kw) = pure () from
    fun a b n => check_star_args _ _ _ _ _ _]
  exact wpAny_pure hq

abbrev tupObj (vs : List Value) : Obj := { cls := .type "tuple", data := .seq vs.toArray }
theorem tf_mw_call {v : Value} {Q : Value → Shared → Prop} {news' : Addr → List (Addr × Obj)} (F : Fr h₀ L s.heap m) (X₀ : (hd.heap_1 w.params).In h₀) (N : News h₀ L s.heap news) (hmw : s.heap.get? mw = some (mwObj e))
    (U : ∀ t', Upd e (fltObj none t) (fltObj none t') news (news' t'))
    (hq : ∀ t' h', Fr h₀ L h' m → News h₀ L h' ((t', tupObj [v]) :: news' t') → (∀ p ∈ news, p.1 < t') → Q .none { s with heap := h' }) :
    wpAny (model prog w) A (call (.ref mw) [v]) Q E s := by
  obtain ⟨hh, g, d, tk, os⟩ := s
  obtain ⟨pre, post, e1, e2, a, b⟩ := (U hh.objs.size).split
  have he : hh.get? e = some (fltObj none t) := (N (e, fltObj none t) (by rw [e1]; simp)).1
  have hes : e ≠ hh.objs.size := Nat.ne_of_lt (Heap.lt_size he)
  have hlt : ∀ p ∈ news, p.1 < hh.objs.size := fun p hp => Heap.lt_size (N p hp).1
  have F₁ := F.push (tupObj [v])
  have N₁ := N.push F (tupObj [v])
  have N₁' : News h₀ L (hh.push (tupObj [v])) ((hh.objs.size, tupObj [v]) :: pre ++ (e, fltObj none t) :: post) := by rw [e1] at N₁; exact N₁
  obtain ⟨F₂, N₂⟩ := news_upd (f := Obj.mapFields (·.setIfInBounds 0 (Value.ref hh.objs.size))) (o' := fltObj none hh.objs.size) F₁ N₁'
    (fun p hp => by rcases List.mem_cons.mp hp with rfl | hp; exact hes.symm; exact a p hp) b rfl rfl
  have hC := tf_there (X₀.keeps F.keep)
  have fin := hq hh.objs.size _ F₂ (by rw [e2]; exact N₂) hlt
  have he₁ : (hh.push (tupObj [v])).get? e = some (fltObj none t) := Heap.get?_push_of_some _ he
  refine wpAny_call (codeAny_of_tree ?_)
  show wpAny _ _ (callAny (.ref mw) _) _ _ _
  unfold callAny
  refine wpAny_bind (wpAny_load hmw ?_)
  show wpAny _ _ (do checkBoundCall "Exception.__init__" ⟨[.ref e, v], []⟩; return ← again (.builtin "Exception.__init__" ⟨[.ref e, v], []⟩)) _ _ _
  refine wpAny_bind (tf_bound_check hC he rfl ?_)
  refine wpAny_bind (wpAny_pure (wpAny_pure ⟨Code.quiet_builtin _ (by decide +kernel), ?_⟩))
  refine codeAny_builtin PySem.F.excBase_Exception.initEntry ?_
  unfold Builtin.«BaseException.__init__»
  wp_walk
  exact fin
end
end Mine
end
section
open PySem PySem.W
open PySem.Sem (wp)
set_option maxRecDepth 100000
namespace Mine
section
open Builtin Builtin.ObjectAttr PyProof.Rows
variable {prog : Program} {w : World} {A : Around} {E : Value → Shared → Prop} {s : Shared} {h₀ : Heap} {L e d t : Addr} {m : Str → Option Value} {news news' : List (Addr × Obj)} {v v1 : Value} {k1 : Int} {t1 : Tok}
theorem tf_set_at {Q : Unit → Shared → Prop} (F : Fr h₀ L s.heap m) (X₀ : (hd.heap_1 w.params).In h₀) (N : News h₀ L s.heap news) (hm : (e, fltObj (some d) t) ∈ news)
    (U : Upd d (dictOf [⟨k1, .str "what" t1, v1⟩] 1) (dictOf [⟨k1, .str "what" t1, v1⟩, ⟨PyData.keyHash w.params "at", .str "at" (s.toks + 1), v⟩] 2) news news')
    (h : ∀ h' tk, Fr h₀ L h' m → News h₀ L h' news' → Q () { s with heap := h', toks := tk }) :
    wpAny (model prog w) A (setAttr (.ref e) "at" v) Q E s := by
  obtain ⟨hh, g, dr, tk, os⟩ := s
  have X : (hd.heap_1 w.params).In hh := X₀.keeps F.keep
  obtain ⟨pre, post, e1, e2, a, b⟩ := U.split
  have he : hh.get? e = some (fltObj (some d) t) := (N _ hm).1
  have N₁ : News h₀ L hh (pre ++ (d, dictOf [⟨k1, .str "what" t1, v1⟩] 1) :: post) := by rw [← e1]; exact N
  have D := (N₁ (d, _) (List.mem_append_right _ (.head _))).1
  have I := tf_inst1 he D
  refine set_plain X I (by k_is) (tf_osa X I (r := none) (by k_is) fun _ => ?_)
  obtain ⟨F₃, N₃⟩ := news_upd (f := Obj.putName "at" (PyData.keyHash w.params "at") (.str "at" (tk + 1)) v) (o' := dictOf [⟨k1, .str "what" t1, v1⟩, ⟨PyData.keyHash w.params "at", .str "at" (tk + 1), v⟩] 2) F N₁ a b
    (by rw [putName_dict]; rfl) rfl
  have D' := (N₃ (d, dictOf [⟨k1, .str "what" t1, v1⟩, ⟨PyData.keyHash w.params "at", .str "at" (tk + 1), v⟩] 2) (List.mem_append_right _ (.head _))).1
  have fin := h _ (tk + 1 + 1) F₃ (by rw [e2]; exact N₃)
  unfold storeInOwnDict ownDictForStores instanceDict
  refine wpAny_bind (wpAny_pure (wpAny_bind (wpAny_bind (wpAny_loadPart he ?_))))
  refine wpAny_bind ((looks_clsIn X (tf_cls (w := w))).at ?_)
  refine wpAny_pure ?_
  show wpAny _ _ (storeInDict d (.str "at" _) "at" v) _ _ _
  unfold storeInDict newKeyGuard
  refine wpAny_bind (wpAny_pure (wpAny_bind ?_))
  unfold nsSet
  refine wpAny_bind (wpAny_bind (wpAny_askSetting (wpAny_pure (wpAny_bind (wpAny_mkText (wpAny_bind (wpAny_loadPart D ?_)))))))
  refine wpAny_updatePart D ?_
  refine wpAny_bind (wpAny_lookBehind D' (by exact pastItsLine_dict (by rw [List.size_toArray, sizeLine_eq]; simp)) ?_)
  exact wpAny_pure fin
end
section
open PyProof.Rows PySem.Calls
theorem callWith_mw {M : Model} {A : Around} {E : Value → Shared → Prop} {s : Shared} {env : Env} {pos : Pos} {mw e : Addr} {first : List Value} {ex : Expr} {rest : List Expr} {Q : Value → Shared → Prop} (_hm : s.heap.get? mw = some (mwObj e))
    (h : wpAny M A (spliced (backTo pos (starEach (ex :: rest) env))) (fun vs s₁ => s₁.heap.get? mw = some (mwObj e) ∧ wpAny M A (call (.ref mw) (first ++ vs)) Q E s₁) E s)
    (he : starEach (ex :: rest) env = (false, eval ex env) :: starEach rest env := by rfl) (hplain : (backTo pos (starEach rest env)).any (·.1) = false := by rfl) :
    wpAny M A (callWith pos (.ref mw) first (backTo pos (starEach (ex :: rest) env)) []) Q E s := by
  rw [he] at h ⊢
  exact callWith_of (P := fun h => h.get? mw = some (mwObj e)) (by show ((false || (backTo pos (starEach rest env)).any (·.1)) || false) = false; rw [hplain]; rfl) (fun _ hm => tf_mw_keep hm) (evalArgs_plain h)
local macro_rules | `(tactic| k_inst) => `(tactic| first | exact tf_inst0 (News.get (by k_asm) (by k_mem)) | exact tf_inst1 (News.get (by k_asm) (by k_mem)) (News.get (by k_asm) (by k_mem)))
local macro_rules | `(tactic| walk_at "getMethod ref") => `(tactic| (k_here; (with_reducible show wpAny _ _ (getMethod (Value.ref _) (PySem.Str.ofString "__init__") _) _ _ _); k_dflt (refine tf_super_method (by k_asm) (by k_asm) (by k_asm) (News.get (by k_asm) (by k_mem)) (News.get (by k_asm) (by k_mem)) rfl (by assumption) ?_); intro q' h' F' N' l1; (try k_lt l1); (try k_sweep)))
local macro_rules | `(tactic| walk_at "callWith ref") => `(tactic| (k_here; k_dflt (refine callWith_mw (News.get (by k_asm) (by k_mem)) ?_)))
local macro_rules | `(tactic| walk_at "And") => `(tactic| ((with_reducible show _ = some (mwObj _) ∧ _); k_dflt (refine ⟨News.get (by k_asm) (by k_mem), ?_⟩); try dsimp only [List.nil_append, List.cons_append]))
variable {w : World} {A₀ A : Around} {E : Value → Shared → Prop} {s : Shared} {base h₀ : Heap} {env : Env} {outer : List Env} {L : Addr} {m : Str → Option Value} {news : List (Addr × Obj)} {mean : ExcName → Option Value} {mg mb : Str → Option Value}
structure FltM : Prop where
set_option maxHeartbeats 2000000 in
theorem tf_make {msg : Str} {n : Int} {t1 t2 : Tok} {Q : Value → Shared → Prop} (B : Below A₀ base outer h₀) (F : Fr h₀ L s.heap m) (X : (hd.heap_1 w.params).In h₀) (N : News h₀ L s.heap news) (T : Top view looseN mean mg mb h₀)
    (hA : A.frames = some (env :: outer)) (hf : env.frame = some L) (hke : env.scope.kind = .function) (hdp : A.depth + 3 < recursionLimit)
    (hq : ∀ e d t od h' tk, Fr h₀ L h' m → News h₀ L h' ((e, fltObj (some d) t) :: (d, od) :: news) → d ≠ e → (∀ q ∈ news, q.1 ≠ e) → AtIs od n → Q (.ref e) { s with heap := h', toks := tk }) :
    wpAny (model PySem.Challenge.pw_nu0158_01 w) A (call (.ref 61) [.str msg t1, .int n t2]) Q E s := by
  obtain ⟨hh, g, dr, tk, os⟩ := s
  w_on
  have hFM : FltM := ⟨⟩
  have XS : (hd.heap_1 w.params).In hh := X.keeps F.keep
  have hi : findIn (hd.heap_1 w.params) (.ref 61) "__init__" = some (some (.ref 38)) := by k_is
  obtain ⟨oI, hoI, hoc⟩ : ∃ oI, (hd.heap_1 w.params).lookup 38 = some oI ∧ oI.cls = .type "function" := ⟨_, by k_is, rfl⟩
  refine tf_call XS hi (XS _ _ hoI) hoc (fun h1 e hm => ?_) (by size_fits)
  clear hoI hoc
  obtain ⟨t, he, htn, ht⟩ := hm.there
  have het : e ≠ t := fun q => by rw [q, ht] at he; cases he
  have F1 : Fr h₀ L h1 m := ⟨let ⟨oL, es, ep, hL, r⟩ := F.ns; ⟨oL, es, ep, hm.keeps _ _ hL, r⟩, fun b o q => hm.keeps _ _ (F.keep b o q), F.above⟩
  have fresh : ∀ b, hh.get? b = none → b ≠ L ∧ h₀.get? b = none := by
    intro b hb
    refine ⟨?_, ?_⟩
    · intro q
      obtain ⟨oL, es, ep, hL, r⟩ := F.ns
      rw [q] at hb
      have hL' : hh.get? L = some oL := hL
      rw [hb] at hL'; cases hL'
    · cases q : h₀.get? b with
      | none => rfl
      | some o => have q' : hh.get? b = some o := F.keep b o q; rw [hb] at q'; cases q'
  have N1 : News h₀ L h1 ((e, fltObj none t) :: (t, tupObj [.str msg t1, .int n t2]) :: news) := fun p hp => by
    rcases List.mem_cons.mp hp with rfl | hp
    · exact ⟨he, fresh _ hm.new⟩
    · rcases List.mem_cons.mp hp with rfl | hp
      · exact ⟨ht, fresh _ htn⟩
      · exact ⟨hm.keeps _ _ (N p hp).1, (N p hp).2⟩
  have hne : ∀ q ∈ news, q.1 ≠ e := fun q hq' z => by have := (N q hq').1; rw [z, hm.new] at this; cases this
  have hnt : ∀ q ∈ news, q.1 ≠ t := fun q hq' z => by have := (N q hq').1; rw [z, htn] at this; cases this
  have he61 : e ≠ 61 := fun z => by have := tf_there XS; rw [← z, hm.new] at this; cases this
  refine wpAny_call ?_
  refine' ks_code_super (s := ⟨h1, g, dr, tk, os⟩) B F1 X N1 T hA hf hke ?k6 ?k7 ?hr ?k9 ?kB ?_ ?c1 ?c2 ?c3 ?c4
  case k6 => k_is
  case k7 => k_is
  case hr => simp only [depth_under_make]; omega
  case k9 => exact binds_K (XS.keeps hm.keeps) rfl (by k_is) rfl rfl rfl
  case kB => exact locs rfl
  case c1 => decide
  case c2 => exact rfl
  case c3 => exact rfl
  case c4 => exact rfl
  intro g' L' h' FG' F' N' B' X' T' l1
  dsimp only
  try k_fold
  have hoff : OwnOff news [e, t] := fun p hp b hb => by
    rcases List.mem_cons.mp hb with rfl | hb
    · exact hne p hp
    · rw [List.mem_singleton.mp hb]; exact hnt p hp
  k_steps
  -- the wrapper's call
  refine' tf_mw_call (t := t) (e := e) (by k_asm) (by k_asm) (cb_drop (news := (e, fltObj none t) :: news) (by assumption) ?_) (News.get (by assumption) (by k_mem)) (fun _ => Upd.head hne) ?_
  · intro p hp
    rcases List.mem_cons.mp hp with rfl | hp
    · k_mem
    · exact .tail _ (.tail _ (.tail _ (.tail _ hp)))
  intro t' h2 F2 N2 l2
  have l2e := l2 _ (.head _)
  k_steps
  refine' tf_set_new (t := t') (e := e) (by k_asm) (by k_asm) (cb_drop (news := (e, fltObj none t') :: news) N2 fun p hp => .tail _ hp) (fun _ => Upd.head hne) (by k_is) ?_
  intro d h3 tk3 F3 N3 l3
  have l3e := l3 _ (.head _)
  have hde : d ≠ e := Nat.ne_of_gt l3e
  k_steps
  refine' tf_set_at (e := e) (t := t') (by k_asm) (by k_asm) N3 (.tail _ (.head _)) (Upd.head ?_) ?_
  · intro p hp
    rcases List.mem_cons.mp hp with rfl | hp
    · exact hde.symm
    · exact Nat.ne_of_lt (l3 p (.tail _ hp))
  intro h4 tk4 F4 N4
  k_steps
  exact hq e d t' _ h4 tk4 (by assumption) (fun p hp => (show News h₀ L h4 _ by assumption) p (by
    rcases List.mem_cons.mp hp with rfl | hp
    · exact .tail _ (.head _)
    · rcases List.mem_cons.mp hp with rfl | hp
      · exact .head _
      · exact .tail _ (.tail _ hp))) hde hne ⟨_, _, _, _, _, _, rfl⟩
end
end Mine
end
section
open PySem PySem.W PyProof.Rows
set_option maxRecDepth 100000
namespace Mine
/-- .. or raises a TableFault whose 'at' is such a number; newsX stands then -/
def SaysX (lev : Nat) (w : World) (mean : ExcName → Option Value) (mg mb : Str → Option Value) (f : Addr) (vs : List Value) (news newsX : List (Addr × Obj)) (R : List (Addr × Obj) → Value → Prop) (X : Int → Prop) : Prop :=
  ∀ (dp un : Nat) (gd : Option (List Code)) (cn : Str) (cs : Scope) (a : Addr) (ccd : Value) (cl : List (Str × Addr)) (outer : List Env) (A₀ : Around) (base h₀ : Heap) (L : Addr) (m : Str → Option Value) (s : Shared) (Q E : Value → Shared → Prop),
    Below A₀ base outer h₀ → Fr h₀ L s.heap m → (hd.heap_1 w.params).In h₀ → News h₀ L s.heap news → Top view looseN mean mg mb h₀ → cs.kind = .function → dp + 10 * lev < recursionLimit → un + 30 * lev < cLine →
    (∀ (news' : List (Addr × Obj)) (v : Value) (h' : Heap) (tk' : Nat), Fr h₀ L h' m → News h₀ L h' news' → R news' v → Q v { s with heap := h', toks := tk' }) →
    (∀ (e : Addr) (n : Int) (g h' : Heap) (tk' : Nat), Fr h₀ L g m → FlyF base (envX cn cs L a ccd cl :: outer) e n newsX h' → g.UpToSlots h' → X n → E (.ref e) { s with heap := h', toks := tk' }) →
    wpAny (model PySem.Challenge.pw_nu0158_01 w) (ktrTop dp un gd cn cs L a ccd cl outer) (call (.ref f) vs) Q E s

section
variable {lev dp un : Nat} {gd : Option (List Code)} {cn : Str} {cs : Scope} {a : Addr} {ccd : Value} {cl : List (Str × Addr)} {outer : List Env} {A₀ : Around} {base h₀ : Heap} {L : Addr} {m : Str → Option Value} {s : Shared} {Q E : Value → Shared → Prop}
  {w : World} {mean : ExcName → Option Value} {mg mb : Str → Option Value} {f : Addr} {vs : List Value} {news newsX : List (Addr × Obj)} {R : List (Addr × Obj) → Value → Prop} {X : Int → Prop}
theorem sx_use (B : Below A₀ base outer h₀) (F : Fr h₀ L s.heap m) (KX : (hd.heap_1 w.params).In h₀) (N : News h₀ L s.heap news) (T : Top view looseN mean mg mb h₀) (hk : cs.kind = .function)
    (S : SaysX lev w mean mg mb f vs news newsX R X) (hdp : dp + 10 * lev < recursionLimit) (hun : un + 30 * lev < cLine)
    (ret : ∀ (news' : List (Addr × Obj)) (v : Value) (h' : Heap) (tk' : Nat), Fr h₀ L h' m → News h₀ L h' news' → R news' v → Q v { s with heap := h', toks := tk' })
    (exc : ∀ (e : Addr) (n : Int) (g h' : Heap) (tk' : Nat), Fr h₀ L g m → FlyF base (envX cn cs L a ccd cl :: outer) e n newsX h' → g.UpToSlots h' → X n → E (.ref e) { s with heap := h', toks := tk' }) :
    wpAny (model PySem.Challenge.pw_nu0158_01 w) (ktrTop dp un gd cn cs L a ccd cl outer) (call (.ref f) vs) Q E s :=
  S _ _ _ _ _ _ _ _ _ _ _ _ _ _ _ _ _ B F KX N T hk hdp hun ret exc
theorem sr_use (B : Below A₀ base outer h₀) (F : Fr h₀ L s.heap m) (KX : (hd.heap_1 w.params).In h₀) (N : News h₀ L s.heap news) (T : Top view looseN mean mg mb h₀) (hk : cs.kind = .function)
    (S : SaysR lev w mean mg mb f vs news R) (hdp : dp + 10 * lev < recursionLimit) (hun : un + 30 * lev < cLine)
    (ret : ∀ (news' : List (Addr × Obj)) (v : Value) (h' : Heap) (tk' : Nat), Fr h₀ L h' m → News h₀ L h' news' → R news' v → Q v { s with heap := h', toks := tk' }) :
    wpAny (model PySem.Challenge.pw_nu0158_01 w) (ktrTop dp un gd cn cs L a ccd cl outer) (call (.ref f) vs) Q E s :=
  S _ _ _ _ _ _ _ _ _ _ _ _ _ _ _ _ _ B F KX N T hk hdp hun ret
end
section
variable {w : World} {A₀ A : Around} {E : Value → Shared → Prop} {s : Shared} {base h₀ : Heap} {env : Env} {outer : List Env} {L : Addr} {m : Str → Option Value} {news : List (Addr × Obj)} {mean : ExcName → Option Value} {mg mb : Str → Option Value}
/-- the call in «raise TableFault(..)» -/
theorem tf_raise {msg : Str} {n : Int} {t1 t2 : Tok} (B : Below A₀ base outer h₀) (F : Fr h₀ L s.heap m) (X : (hd.heap_1 w.params).In h₀) (N : News h₀ L s.heap news) (T : Top view looseN mean mg mb h₀)
    (hA : A.frames = some (env :: outer)) (hf : env.frame = some L) (hke : env.scope.kind = .function) (hdp : A.depth + 3 < recursionLimit)
    (hq : ∀ e d t od h' tk, Fr h₀ L h' m → News h₀ L h' ((e, fltObj (some d) t) :: (d, od) :: news) → d ≠ e → (∀ q ∈ news, q.1 ≠ e) → AtIs od n → E (.ref e) { s with heap := h', toks := tk }) :
    wpAny (model PySem.Challenge.pw_nu0158_01 w) A (call (.ref 61) [.str msg t1, .int n t2]) (RaisableF w E) E s :=
  tf_make B F X N T hA hf hke hdp fun e d t od h' tk F' N' h1 h2 h3 => ⟨e, d, t, rfl, X.keeps F'.keep, (N' _ (.head _)).1, hq e d t od h' tk F' N' h1 h2 h3⟩
end
section
variable {M : Model} {A : Around} {E : Value → Shared → Prop} {s' : Shared} {base g g₂ : Heap} {outer : List Env} {L a e : Addr} {n : Int} {m : Str → Option Value} {name : Str} {scope : Scope} {cd : Value} {Q : Unit → Shared → Prop} {news : List (Addr × Obj)}
theorem leaveF_on (K : Below A base outer g) (R : FlyF base (envOf name scope L a cd :: outer) e n news s'.heap) (hsm : g₂.UpToSlots s'.heap) (F : Fr g L g₂ m)
    (hQ : ∀ h', FlyF base outer e n news h' → g.UpToSlots h' → Q () { s' with heap := h' }) :
    wpAny M (A.deeper (envOf name scope L a cd)) (leaving (envOf name scope L a cd) (.ref e)) Q E s' := leaveF_next K F R hsm hQ
end
end Mine
end
section
open PySem PySem.W PyProof.Rows
namespace Mine
section
set_option maxRecDepth 100000 in
set_option maxHeartbeats 1000000 in
theorem room_says (w : World) (mean mg mb) (b : Array UInt8) (p : Int) (t1 t2 t3 : Tok) (news : List (Addr × Obj)) (hd1 : b.size ≤ 1000000) (hp : p ≤ 1000000) (hp0 : 0 ≤ p) :
    SaysX 1 w mean mg mb 70 [.bytes b t1, .int p t2, .int 2 t3] news news (fun news' v => news' = news ∧ v = .none ∧ p + 2 ≤ b.size) (fun n => n = p ∧ b.size < p + 2) := by
  w_on
  intro dp un gd cn cs a ccd cl outer A₀ base h₀ L m s Q E B F X N T hk hdp hun hret hexc
  refine wpAny_call ?_
  k_dflt cell_enter
  (repeat' (first | (k_unfold; (try dsimp only)) | (k_end; wrow_close) | ((with_reducible show wpAny _ _ (exec _ _) _ _ _); (try dsimp only); with_reducible refine atT1 ?_; intro tk) | ((with_reducible show wpAny _ _ (binaryOp _ _ _) _ _ _); (try dsimp only); with_reducible refine atT1 ?_; intro tk) | ((k_here; (with_reducible show wpAny _ _ (call (Value.ref 61) _) _ _ _); k_dflt (refine tf_raise (by k_asm) (by k_asm) (by k_asm) (by k_asm) (by k_asm) rfl rfl rfl (by ktr_room) ?_); intro e' d' t' od' h' tk' F' N' hde' hne' hat'; (try k_sweep); (try dsimp only))) | ((with_reducible show wpAny _ _ (exec (PySem.Stmt.Raise _ _ _) _) _ _ _); (k_here; k_dflt (refine Raise_flt (w := by assumption) rfl ?_))) | walk1 | (dsimp only; walk1) | (leave1; walk_say "STEP leave1"; try dsimp only) | fail "no step"))
  · refine leaveF_first (by assumption) (by assumption) (by assumption) (by assumption) (by assumption) (by assumption) (fun h' hf hu => ?_)
    exact hexc _ _ _ _ _ (by assumption) hf hu ⟨rfl, by omega⟩
  · exact hret _ _ _ _ (by assumption) (by assumption) ⟨rfl, rfl, by omega⟩
end
end Mine
end
section
open PySem PySem.W PyProof.Rows
namespace Mine
/-- the number of two octets -/
def word (ks : List Int) (p : Nat) : Int := ks.getD p 0 * 256 + ks.getD (p + 1) 0
theorem or_low {x c : Int} (hx : 0 ≤ x) (hc : 0 ≤ c) (hc2 : c < 256) : Builtin.bitOr (x * 2 ^ (8 : Int).toNat) c = x * 256 + c := by
  have e : x * 2 ^ (8 : Int).toNat = x * 256 := by rfl
  rw [e, bitOr_and, bitAnd_pp (by omega) hc]
  have z : (x * 256).toNat &&& c.toNat = 0 := by
    apply Nat.eq_of_testBit_eq
    intro i
    have e2 : (x * 256).toNat = x.toNat * 2 ^ 8 := by omega
    rw [Nat.testBit_and, Nat.zero_testBit, e2, Nat.testBit_mul_two_pow]
    by_cases hi : 8 ≤ i
    · have : c.toNat.testBit i = false := Nat.testBit_lt_two_pow (Nat.lt_of_lt_of_le (show c.toNat < 2 ^ 8 by omega) (Nat.pow_le_pow_right (by decide) hi))
      rw [this, Bool.and_false]
    · simp [hi]
  rw [z]; simp
theorem cut_two {ks : List Int} {c : Array UInt8} {p : Int} (hp : 0 ≤ p) (hz : p + 2 ≤ ks.length)
    (h : KBw.bInts c = (ks.drop ((some p).elim 0 (clipAt ks.length))).take ((some (p + 2)).elim ks.length (clipAt ks.length) - (some p).elim 0 (clipAt ks.length))) :
    KBw.bInts c = [ks.getD p.toNat 0, ks.getD (p.toNat + 1) 0] := by
  have e1 : clipAt ks.length p = p.toNat := by unfold clipAt; rw [if_neg (by omega)]; omega
  have e2 : clipAt ks.length (p + 2) = p.toNat + 2 := by unfold clipAt; rw [if_neg (by omega)]; omega
  rw [h]
  simp only [Option.elim]
  rw [e1, e2, show p.toNat + 2 - p.toNat = 2 by omega]
  have h1 : p.toNat < ks.length := by omega
  have h2 : p.toNat + 1 < ks.length := by omega
  rw [List.drop_eq_getElem_cons h1, List.drop_eq_getElem_cons h2, List.take_succ_cons, List.take_succ_cons, List.take_zero]
  simp [List.getD_eq_getElem?_getD, h1, h2]
section
variable {prog : Program} {w : World} {A : Around} {E : Value → Shared → Prop} {s : Shared} {h₀ : Heap} {L : Addr} {m : Str → Option Value} {news : List (Addr × Obj)} {b : Array UInt8} {ks : List Int} {p q : Int} {t u v : Tok} {value slice : PySem.Expr} {x c : Int}
theorem cut_K {Q : Value → Shared → Prop} (hF : Fr h₀ L s.heap m) (hN : News h₀ L s.heap news) (hk : KBw.bInts b = ks) (hz : ks.length ≤ 1000000) (hp : 0 ≤ p) (hq : q = p + 2) (hpz : p + 2 ≤ ks.length)
    (h : ∀ c h' t' k, Fr h₀ L h' m → News h₀ L h' news → KBw.bInts c = [ks.getD p.toNat 0, ks.getD (p.toNat + 1) 0] → Q (.bytes c t') { s with heap := h', toks := k })
    (hs : subscripted slice false (.bytes b t) (.ref s.heap.objs.size) = operate [.ref s.heap.objs.size, .bytes b t] (getItem (.bytes b t) (.ref s.heap.objs.size)) := by with_unfolding_all rfl)
    (ht : ∀ r, letTemporaryGo value (.bytes b t) r = pure () := by intro _; with_unfolding_all rfl) :
    wpAny (model prog w) A (subscriptTail value slice (.bytes b t) (.ref s.heap.objs.size)) Q E { s with heap := s.heap.push { cls := .type "slice", data := .fields #[.int p u, .int q v, .none] } } := by
  subst hq
  exact KBc.slice_K hF hN hk (IsPart.int p u) (IsPart.int (p + 2) v) (by omega) (fun h' t' k F' N' hb => h _ h' t' k F' N' (cut_two hp hpz hb)) hs ht
theorem shl8 {Q : Value → Shared → Prop} (ha : x.natAbs < 2 ^ 64) (h : Q (.int (x * 2 ^ (8 : Int).toNat) s.toks) { s with toks := s.toks + 1 }) : wpAny (model prog w) A (binaryOp .LShift (.int x t) (.int 8 u)) Q E s :=
  lshift_int_small (by decide) (by decide) ha h
theorem or8 {Q : Value → Shared → Prop} (hx : 0 ≤ x) (hc : 0 ≤ c) (hc2 : c < 256) (h : Q (.int (x * 256 + c) s.toks) { s with toks := s.toks + 1 }) : wpAny (model prog w) A (binaryOp .BitOr (.int (x * 2 ^ (8 : Int).toNat) t) (.int c u)) Q E s :=
  or_int (by rw [or_low hx hc hc2]; exact h)
end
section
set_option maxRecDepth 100000 in
set_option maxHeartbeats 1000000 in
theorem numAt_says (w : World) (mean mg mb) (b : Array UInt8) (ks : List Int) (p : Int) (t1 t2 t3 : Tok) (news : List (Addr × Obj)) (hk : KBw.bInts b = ks) (hz : ks.length ≤ 1000000) (hp : p ≤ 1000000) (hp0 : 0 ≤ p) :
    SaysX 2 w mean mg mb 77 [.bytes b t1, .int p t2, .int 2 t3] news news (fun news' v => news' = news ∧ p + 2 ≤ ks.length ∧ ∃ t, v = .int (word ks p.toNat) t) (fun n => n = p ∧ ks.length < p + 2) := by
  w_on
  have hbz : b.size = ks.length := by rw [← hk, KBw.ints_length]
  intro dp un gd cn cs a ccd cl outer A₀ base h₀ L m s Q E B F X N T hkk hdp hun hret hexc
  refine wpAny_call ?_
  k_dflt cell_enter
  (repeat' (first | (k_unfold; (try dsimp only)) | (k_end; wrow_close) | ((with_reducible show wpAny _ _ (exec _ _) _ _ _); (try dsimp only); with_reducible refine atT1 ?_; intro tk) | ((with_reducible show wpAny _ _ (binaryOp _ _ _) _ _ _); (try dsimp only); with_reducible refine atT1 ?_; intro tk) | ((with_reducible show wpAny _ _ (exec (PySem.Stmt.For (PySem.Expr.Name _ _) (PySem.Expr.Subscript _ _ _) _ _ _) _) _ _ _); (k_here; (rename Fr _ _ _ _ => lF'); (with_unfolding_all refine' For_invVF lF' ?k1 ?k2 ?_; (case k1 => exact rfl); (case k2 => exact rfl); k_whole))) | ((with_reducible show BytesRest _ _ _ _ _ _ _ _ _ _ _ _ _ _); (with_unfolding_all first | (refine BytesRest.succ (fun hc0' hc1' u' it' h' tk' F' N' => ?_)) | (refine BytesRest.zero (fun h' tk' F' N' => ?_)))) | ((with_reducible show UnrEnd _ _ _ _ _ _ _); (with_unfolding_all refine UnrEnd.intro (by assumption) (by assumption) _ (fun p hp => hp) (fun p hp => Nat.ne_of_lt ((by assumption : ∀ p ∈ _, p.1 < _) p hp)) ?_)) | (((with_reducible show wpAny _ _ (pyIter (Value.bytes _ _)) (fun it s₂ => LoopAtV _ _ _ _ _ _ _ _ _ it s₂) _ _); k_here; (rename Fr _ _ _ _ => lF'); (rename News _ _ _ _ => lN'); (with_unfolding_all refine iter_bytesUnr (by rfl) lF' lN' (by assumption) ?_); clear lF' lN'; intro i' l1; (try k_lt l1))) | ((with_reducible show wpAny _ _ (binaryOp Operator.BitOr (Value.int _ _) (Value.int _ _)) _ _ _); (k_here; k_dflt (refine or8 (by omega) (by assumption) (by assumption) ?_))) | ((with_reducible show wpAny _ _ (binaryOp Operator.LShift (Value.int _ _) (Value.int _ _)) _ _ _); (k_here; k_dflt (refine shl8 (by omega) ?_))) | ((k_here; (with_reducible show wpAny _ _ (subscriptTail _ (Expr.Slice _ _ none _) (Value.bytes _ _) (Value.ref _)) _ _ _); (with_reducible rename Fr _ _ _ _ => F'); (with_reducible rename News _ _ _ _ => N'); k_dflt (refine cut_K (s := ⟨_, _, _, _, _⟩) F' N' (by assumption) (by assumption) (by omega) rfl (by omega) ?_); intro _ _ _ _ _ _ hcut')) | ((with_reducible show wpAny _ _ (leaving _ (Value.ref _)) _ _ _); (k_here; k_dflt (refine leaveF_on (by assumption) (by assumption) (by assumption) (by assumption) ?_); intro h' hfly' hup'; (try dsimp only))) | ((k_here; (with_reducible show wpAny _ _ (call (Value.ref 70) _) _ _ _); k_dflt (refine (room_says _ _ _ _ _ _ _ _ _ _ (by omega) (by omega) (by omega)) _ _ _ _ _ _ _ _ _ _ _ _ _ _ _ _ _ (by k_asm) (by k_asm) (by k_asm) (by k_asm) (by k_asm) (by first | exact rfl | assumption) (by ktr_room) (by ktr_units) ?_ ?_); k_dflt (rotate_left; intro e' n' g2' h' tk' FG2' hfly' hup' hX'; (try dsimp only); (rotate_left; intro nw' v' h' tk' F' N' hR'; obtain ⟨hnw', hv', hsz'⟩ := hR'; subst hnw' hv'; (try k_sweep); (try dsimp only))))) | walk1 | (dsimp only; walk1) | (leave1; walk_say "STEP leave1"; try dsimp only) | fail "no step"))
  · exact hret _ _ _ _ (by assumption) (by assumption) ⟨rfl, by omega, _, congrArg (Value.int · _) (by unfold word; omega)⟩
  · exact hexc _ _ _ _ _ (by assumption) (by assumption) (by assumption) ⟨(by assumption : _ = p ∧ (b.size : Int) < p + 2).1, by omega⟩
end
end Mine
end
section
open PySem PySem.W PyProof.Rows
namespace Mine
/-- the dict of a reader of octets -/
abbrev octD (k1 k2 : Int) (t1 t2 td tp : Tok) (b : Array UInt8) (p : Int) : Obj := dictOf [⟨k1, .str "data" t1, .bytes b td⟩, ⟨k2, .str "at" t2, .int p tp⟩] 2
section
set_option maxRecDepth 100000 in
set_option maxHeartbeats 1000000 in
theorem number_says (w : World) (mean mg mb) (b : Array UInt8) (ks : List Int) (p : Int) (x dx : Addr) (k1 k2 : Int) (t1 t2 td tp t3 : Tok) (rest : List (Addr × Obj)) (hk : KBw.bInts b = ks) (hz : ks.length ≤ 1000000) (hp : p ≤ 1000000) (hp0 : 0 ≤ p) (hxd : x ≠ dx) (hoff : OwnOff rest [x, dx]) :
    SaysX 3 w mean mg mb 106 [.ref x, .int 2 t3] ((x, instObj 163 dx) :: (dx, octD k1 k2 t1 t2 td tp b p) :: rest) rest
      (fun news' v => p + 2 ≤ ks.length ∧ (∃ tp', news' = (x, instObj 163 dx) :: (dx, octD k1 k2 t1 t2 td tp' b (p + 2)) :: rest) ∧ ∃ t, v = .int (word ks p.toNat) t) (fun n => n = p ∧ ks.length < p + 2) := by
  w_on
  intro dp un gd cn cs a ccd cl outer A₀ base h₀ L m s Q E B F X N T hkk hdp hun hret hexc
  refine wpAny_call ?_
  k_dflt cell_enter
  (repeat' (first | (k_unfold; (try dsimp only)) | (k_end; wrow_close) | ((with_reducible show wpAny _ _ (exec _ _) _ _ _); (try dsimp only); with_reducible refine atT1 ?_; intro tk) | ((with_reducible show wpAny _ _ (binaryOp _ _ _) _ _ _); (try dsimp only); with_reducible refine atT1 ?_; intro tk) | ((with_reducible show wpAny _ _ (leaving _ (Value.ref _)) _ _ _); (k_here; k_dflt (refine leaveF_on (by assumption) (by assumption) (by assumption) (by assumption) ?_); intro h' hfly' hup'; (try dsimp only))) | ((k_here; (with_reducible show wpAny _ _ (call (Value.ref 77) _) _ _ _); k_dflt (refine (numAt_says _ _ _ _ _ _ _ _ _ _ _ (by assumption) (by omega) (by omega) (by omega)) _ _ _ _ _ _ _ _ _ _ _ _ _ _ _ _ _ (by k_asm) (by k_asm) (by k_asm) (by k_asm) (by k_asm) (by first | exact rfl | assumption) (by ktr_room) (by ktr_units) ?_ ?_); k_dflt (rotate_left; intro e' n' g2' h' tk' FG2' hfly' hup' hX'; (try dsimp only); (rotate_left; intro nw' v' h' tk' F' N' hR'; obtain ⟨hnw', hsz', t', hv'⟩ := hR'; subst hnw' hv'; (try k_sweep); (try dsimp only))))) | walk1 | (dsimp only; walk1) | (leave1; walk_say "STEP leave1"; try dsimp only) | fail "no step"))
  · exact hret _ _ _ _ (by assumption) (by assumption) ⟨by assumption, ⟨_, rfl⟩, _, rfl⟩
  · exact hexc _ _ _ _ _ (by assumption) ((by assumption : FlyF base (envX cn cs L a ccd cl :: outer) _ _ _ _).less (fun p hp => .tail _ (.tail _ hp))) (by assumption) (by assumption)
end
section
set_option maxRecDepth 100000 in
set_option maxHeartbeats 1000000 in
theorem u16_says (w : World) (mean mg mb) (b : Array UInt8) (ks : List Int) (p : Int) (x dx : Addr) (k1 k2 : Int) (t1 t2 td tp : Tok) (rest : List (Addr × Obj)) (hk : KBw.bInts b = ks) (hz : ks.length ≤ 1000000) (hp : p ≤ 1000000) (hp0 : 0 ≤ p) (hxd : x ≠ dx) (hoff : OwnOff rest [x, dx]) :
    SaysX 4 w mean mg mb 120 [.ref x] ((x, instObj 163 dx) :: (dx, octD k1 k2 t1 t2 td tp b p) :: rest) rest
      (fun news' v => p + 2 ≤ ks.length ∧ (∃ tp', news' = (x, instObj 163 dx) :: (dx, octD k1 k2 t1 t2 td tp' b (p + 2)) :: rest) ∧ ∃ t, v = .int (word ks p.toNat) t) (fun n => n = p ∧ ks.length < p + 2) := by
  w_on
  intro dp un gd cn cs a ccd cl outer A₀ base h₀ L m s Q E B F X N T hkk hdp hun hret hexc
  refine wpAny_call ?_
  k_dflt cell_enter
  (repeat' (first | (k_unfold; (try dsimp only)) | (k_end; wrow_close) | ((with_reducible show wpAny _ _ (exec _ _) _ _ _); (try dsimp only); with_reducible refine atT1 ?_; intro tk) | ((with_reducible show wpAny _ _ (binaryOp _ _ _) _ _ _); (try dsimp only); with_reducible refine atT1 ?_; intro tk) | ((with_reducible show wpAny _ _ (leaving _ (Value.ref _)) _ _ _); (k_here; k_dflt (refine leaveF_on (by assumption) (by assumption) (by assumption) (by assumption) ?_); intro h' hfly' hup'; (try dsimp only))) | ((k_here; (with_reducible show wpAny _ _ (call (Value.ref 106) _) _ _ _); k_dflt (refine sx_use (by k_asm) (by k_asm) (by k_asm) (by k_asm) (by k_asm) (by first | exact rfl | assumption) (number_says _ _ _ _ _ _ _ _ _ _ _ _ _ _ _ _ _ (by assumption) (by omega) (by omega) (by omega) (by assumption) (by assumption)) (by ktr_room) (by ktr_units) ?_ ?_); k_dflt (rotate_left; intro e' n' g2' h' tk' FG2' hfly' hup' hX'; (try dsimp only); (rotate_left; intro nw' v' h' tk' F' N' hR'; obtain ⟨hsz', ⟨tp', hnw'⟩, t', hv'⟩ := hR'; subst hnw' hv'; (try k_sweep); (try dsimp only))))) | walk1 | (dsimp only; walk1) | (leave1; walk_say "STEP leave1"; try dsimp only) | fail "no step"))
  · exact hret _ _ _ _ (by assumption) (by assumption) ⟨by assumption, ⟨_, rfl⟩, _, rfl⟩
  · exact hexc _ _ _ _ _ (by assumption) ((by assumption : FlyF base (envX cn cs L a ccd cl :: outer) _ _ _ _).less (fun p hp => hp)) (by assumption) (by assumption)
end
end Mine
end
section
open PySem PySem.W PyProof.Rows
namespace Mine
/-- where the walk stops and the hand goes on -/
def StopHere (p : Prop) : Prop := p
theorem stop_here {p : Prop} (h : StopHere p) : p := h
theorem off2 {rest : List (Addr × Obj)} {a b : Addr} (h1 : ∀ p ∈ rest, p.1 ≠ a) (h2 : ∀ p ∈ rest, p.1 ≠ b) : OwnOff rest [a, b] := fun p hp x hx => by
  rcases List.mem_cons.mp hx with h | h
  · rw [h]; exact h1 p hp
  · rw [List.mem_singleton.mp h]; exact h2 p hp
section
variable {lev : Nat} {w : World} {mean : ExcName → Option Value} {mg mb : Str → Option Value} {f : Addr} {vs : List Value} {news news₂ newsX rest : List (Addr × Obj)} {R : List (Addr × Obj) → Value → Prop} {X : Int → Prop} {a b q : Addr × Obj}
theorem SaysX.of_mem (S : SaysX lev w mean mg mb f vs news newsX R X) (h : ∀ p ∈ news, p ∈ news₂) : SaysX lev w mean mg mb f vs news₂ newsX R X :=
  fun _ _ _ _ _ _ _ _ _ _ _ _ _ _ _ _ _ B F KX N T hk hdp hun ret exc => S _ _ _ _ _ _ _ _ _ _ _ _ _ _ _ _ _ B F KX (fun p hp => N p (h p hp)) T hk hdp hun ret exc
theorem SaysX.of1 (S : SaysX lev w mean mg mb f vs (a :: b :: q :: rest) newsX R X) : SaysX lev w mean mg mb f vs (q :: a :: b :: rest) newsX R X :=
  S.of_mem fun p hp => by simp only [List.mem_cons] at hp ⊢; rcases hp with h | h | h | h <;> simp [h]
end
section
variable {prog : Program} {w : World} {A : Around} {E : Value → Shared → Prop} {s : Shared} {env : Env} {h₀ : Heap} {x : Str} {body : List Stmt} {Q : Flow → Shared → Prop}
/-- «for x in range(b):» with a state; y is an address that the state's ledger names -/
theorem range_loop {σ α : Type} {y : α} {r : Addr} {b₀ : Int} {t₀ u₀ v₀ : Tok} {m₀ : Str → Option Value} (Led : α → σ → List (Addr × Obj)) (ps : α → σ → List (Str × Value)) (Facts : σ → Prop) (stored : List Str) (P : Nat → σ → Prop) (c₀ : σ)
    (F : Fr h₀ env.locals s.heap m₀) (N : News h₀ env.locals s.heap (Led y c₀)) (hr : IsRange s.heap r 0 b₀ 1 t₀ u₀ v₀) (hh : A.handled = none) (hb0 : 0 ≤ b₀) (hb : b₀ ≤ 1000000) (hf : Facts c₀) (hk : ∀ p ∈ ps y c₀, m₀ p.1 = some p.2) (hp : P 0 c₀)
    (turn : ∀ (c : σ) (pre : List Int) (k : Int) t (u : Str → Option Value) h tk own, (pre.length : Int) < b₀ → OwnOff own ((Led y c₀).map (·.1)) → Facts c → P pre.length c →
      Fr h₀ env.locals h (fun z => if z = x then some (.int k t) else kstB (fun z => if stored.contains z then u z else m₀ z) (ps y c) z) → News h₀ env.locals h (Led y c ++ own) →
      wpAny (model prog w) A (execs body env) (InvPostN h₀ env.locals (KstS (Led y) (ps y) Facts x stored m₀ (fun pre c => P pre.length c) (pre ++ [k])) own ((Led y c₀).map (·.1)) { s with heap := h, toks := tk } Q) E { s with heap := h, toks := tk })
    (done : ∀ (c : σ) (u : Str → Option Value) h tk, Facts c → P b₀.toNat c → Fr h₀ env.locals h (fun z => if z = x then u z else kstB (fun z => if stored.contains z then u z else m₀ z) (ps y c) z) → News h₀ env.locals h (Led y c) → Q .next { s with heap := h, toks := tk }) :
    wpAny (model prog w) A (pyIter (.ref r)) (fun it s₂ => LoopAtV prog w A h₀ env x body Q E it s₂) E s := by
  refine kst_range (n := b₀.toNat) (Led y) (ps y) Facts stored (fun pre c => P pre.length c) c₀ hh hr (small_one (by omega) (by omega) (by omega) (by omega)) (by rw [rangeSize_nat]; congr 1; omega) F N hf hk hp ?_ ?_
  · intro c pre k t u h tk own _ hi hoff hf' hp' F' N'
    exact turn c pre k t u h tk own (by omega) hoff hf' hp' F' N'
  · intro c u h tk hf' hp' F' N'
    have hp2 : P b₀.toNat c := by simpa only [rangeKs_length] using hp'
    exact done c u h tk hf' hp2 F' N'
end
end Mine
end
section
open PySem PySem.W PySem.Calls PyProof.Rows
set_option maxRecDepth 100000
namespace Mine
/-- the end of a turn whose ledger may have got other addresses -/
def EndF {σ : Type} (h₀ : Heap) (L : Addr) (adr : List Addr) (Led : σ → List (Addr × Obj)) (ps : σ → List (Str × Value)) (Facts : σ → Prop) (x : Str) (stored : List Str) (m₀ : Str → Option Value) (P : σ → Prop) (own : List (Addr × Obj)) (s₁ s₂ : Shared) : Prop :=
  ∃ h' tk m' news' c, s₂ = { s₁ with heap := h', toks := tk } ∧ Fr h₀ L h' m' ∧ News h₀ L h' news' ∧ (∀ p ∈ Led c, p ∈ news') ∧ (∀ p ∈ own, p ∈ news') ∧ (∀ p ∈ Led c, p.1 ∈ adr ∨ p.2.cls ≠ .type "range_iterator") ∧
    Facts c ∧ (∀ p ∈ ps c, m' p.1 = some p.2) ∧ (∀ z, z ≠ x → (∀ p ∈ ps c, z ≠ p.1) → stored.contains z = false → m' z = m₀ z) ∧ P c
theorem endF {σ : Type} {Led : σ → List (Addr × Obj)} {ps : σ → List (Str × Value)} {Facts : σ → Prop} {x : Str} {stored : List Str} {m₀ : Str → Option Value} {P : σ → Prop} (c : σ) {h₀ h' : Heap} {L : Addr} {m' : Str → Option Value} {own news' : List (Addr × Obj)} {adr : List Addr} {s₁ : Shared} {tk : Nat}
    (F : Fr h₀ L h' m') (N : News h₀ L h' news') (hn : ∀ p ∈ Led c, p ∈ news') (ho : ∀ p ∈ own, p ∈ news') (ha : ∀ p ∈ Led c, p.1 ∈ adr ∨ p.2.cls ≠ .type "range_iterator") (hf : Facts c) (hk : ∀ p ∈ ps c, m' p.1 = some p.2)
    (hr : ∀ z, z ≠ x → (∀ p ∈ ps c, z ≠ p.1) → stored.contains z = false → m' z = m₀ z) (hp : P c) : EndF h₀ L adr Led ps Facts x stored m₀ P own s₁ { s₁ with heap := h', toks := tk } :=
  ⟨h', tk, m', news', c, rfl, F, N, hn, ho, ha, hf, hk, hr, hp⟩
section
variable {prog : Program} {w : World} {A : Around} {E : Value → Shared → Prop} {s : Shared} {env : Env} {h₀ : Heap} {x : Str} {body : List Stmt} {Q : Flow → Shared → Prop}
theorem range_loopF {σ : Type} {r : Addr} {b₀ : Int} {t₀ u₀ v₀ : Tok} {m₀ : Str → Option Value} (Led : σ → List (Addr × Obj)) (ps : σ → List (Str × Value)) (Facts : σ → Prop) (stored : List Str) (P : Nat → σ → Prop) (adr : List Addr) (c₀ : σ)
    (F : Fr h₀ env.locals s.heap m₀) (N : News h₀ env.locals s.heap (Led c₀)) (hr : IsRange s.heap r 0 b₀ 1 t₀ u₀ v₀) (hh : A.handled = none) (hb0 : 0 ≤ b₀) (hb : b₀ ≤ 1000000) (had : ∀ b ∈ adr, b < s.heap.objs.size) (hf : Facts c₀) (hk : ∀ p ∈ ps c₀, m₀ p.1 = some p.2) (hp : P 0 c₀)
    (turn : ∀ (c : σ) (i : Nat) (k : Int) t (u : Str → Option Value) h tk own, (i : Int) < b₀ → OwnOff own adr → Facts c → P i c →
      Fr h₀ env.locals h (fun z => if z = x then some (.int k t) else kstB (fun z => if stored.contains z then u z else m₀ z) (ps c) z) → News h₀ env.locals h (Led c ++ own) →
      wpAny (model prog w) A (execs body env) (fun f s₂ => match f with | .ret v => Q (.ret v) s₂ | .brk => Q .next s₂ | _ => EndF h₀ env.locals adr Led ps Facts x stored m₀ (P (i + 1)) own { s with heap := h, toks := tk } s₂) E { s with heap := h, toks := tk })
    (done : ∀ (c : σ) (u : Str → Option Value) h tk, Facts c → P b₀.toNat c → Fr h₀ env.locals h (fun z => if z = x then u z else kstB (fun z => if stored.contains z then u z else m₀ z) (ps c) z) → News h₀ env.locals h (Led c) → Q .next { s with heap := h, toks := tk }) :
    wpAny (model prog w) A (pyIter (.ref r)) (fun it s₂ => LoopAtV prog w A h₀ env x body Q E it s₂) E s := by
  have hn : Builtin.Range.rangeSize 0 b₀ 1 = (b₀.toNat : Int) := by rw [rangeSize_nat]; congr 1; omega
  refine wpAny_pyIter_range hr (small_one (by omega) (by omega) (by omega) (by omega)) ?_
  have W : Walks prog w A s.heap.objs.size [s.heap.objs.size] [s.heap.objs.size] b₀.toNat (fun i v => i < b₀.toNat ∧ ∃ t, v = .int (0 + i * 1) t)
      (fun i h => IsRangeIter h s.heap.objs.size (0 + (i : Nat) * 1) ((b₀.toNat : Int) - (i : Nat)) 1) := (Walks.range hh _ 0 1 b₀.toNat).bound
  have hI : ∀ p ∈ Led c₀, p.1 ∉ [s.heap.objs.size] := fun p hp hI => absurd (Heap.lt_size (N p hp).1) ((List.mem_singleton.mp hI) ▸ Nat.lt_irrefl _)
  refine ⟨_, _, _, b₀.toNat, _, _, m₀, Led c₀, fun i m nx => ∃ c, nx = Led c ∧ Facts c ∧ (∀ p ∈ ps c, m p.1 = some p.2) ∧ (∀ z, z ≠ x → (∀ p ∈ ps c, z ≠ p.1) → stored.contains z = false → m z = m₀ z) ∧ P i c, rfl, W, ?_, ?_, hI, ?_, F.push _, fun p hp => ⟨Heap.get?_push_of_some _ (N p hp).1, (N p hp).2⟩, ⟨c₀, rfl, hf, hk, fun _ _ _ _ => rfl, hp⟩, ?_, ?_⟩
  · intro hm
    exact absurd F.ns.lt ((List.mem_singleton.mp hm) ▸ Nat.lt_irrefl _)
  · intro b hb
    rw [List.mem_singleton.mp hb]
    exact next_is_new F
  · show IsRangeIter _ _ _ _ _
    rw [hn]
    simpa using Heap.get?_push_size _ rfl
  · rintro i v m₁ news₁ s₁ own ⟨hh', tk', rfl⟩ hin ⟨_, t, rfl⟩ ⟨c, rfl, hf', h1, h2, hp'⟩ hoff hown hget hall hst F₁ N₁
    have e1 : (0 : Int) + (i : Int) * 1 = (i : Int) := by omega
    have N₂ : News h₀ env.locals hh' (Led c ++ own) := fun p hp => N₁ p ((List.mem_append.mp hp).elim (fun h => List.mem_append.mpr (.inr h)) fun h => List.mem_append.mpr (.inl h))
    have hoffA : OwnOff own adr := fun p hp b hb e => by
      have e3 := List.mem_singleton.mp (hown p hp)
      exact absurd (had b hb) (by rw [← e, e3]; exact Nat.lt_irrefl _)
    obtain ⟨oI, hoI, hcI⟩ : ∃ oI, hh'.get? s.heap.objs.size = some oI ∧ oI.cls = .type "range_iterator" := ⟨_, hst, rfl⟩
    have hmI : (s.heap.objs.size, oI) ∈ own := hall _ (List.mem_singleton.mpr rfl) (next_is_new F) _ hoI
    refine wpAny_mono (turn c i _ t m₁ hh' tk' own (by omega) hoffA hf' hp' (kst_fr h1 h2 F₁) N₂) (fun f s₂ p => ?_) fun _ _ e => e
    have fin : EndF h₀ env.locals adr Led ps Facts x stored m₀ (P (i + 1)) own { s with heap := hh', toks := tk' } s₂ → LoopStepU h₀ env.locals [s.heap.objs.size] own (fun m nx => ∃ c, nx = Led c ∧ Facts c ∧ (∀ p ∈ ps c, m p.1 = some p.2) ∧ (∀ z, z ≠ x → (∀ p ∈ ps c, z ≠ p.1) → stored.contains z = false → m z = m₀ z) ∧ P (i + 1) c) { s with heap := hh', toks := tk' } .next s₂ := by
      rintro ⟨h', tk, m', news', c', e, F', N', hn', ho', ha', hf2, hk2, hr2, hp2⟩
      refine ⟨rfl, h', tk, m', Led c', e, F', fun p hp => N' p ((List.mem_append.mp hp).elim (ho' p) (hn' p)), fun p hp hq => ?_, c', rfl, hf2, hk2, hr2, hp2⟩
      have e4 := List.mem_singleton.mp hq
      rcases ha' p hp with h5 | h5
      · exact absurd (had _ h5) (by rw [e4]; exact Nat.lt_irrefl _)
      · have a1 := (N' p (hn' p hp)).1
        have a2 := (N' _ (ho' _ hmI)).1
        rw [e4] at a1
        rw [a1] at a2
        exact h5 ((Option.some.inj a2) ▸ hcI)
    cases f with
    | ret v => exact .ret p
    | brk => exact .brk p
    | next => exact .next (fin p)
    | cont => exact .cont (fin p)
  · rintro h' tk m' news' F' N' _ ⟨c, rfl, hf', h1, h2, hp'⟩
    exact done c m' h' tk hf' hp' (kst_frOut h1 h2 F') N'
end
end Mine
end
section
open PySem PySem.W PyProof.Rows
namespace Mine
/-- the glyphs of format 1, n more of them from p on -/
def ascSpec (ks : List Int) : Nat → Int → List Int → Except Int (List Int)
  | 0, _, found => .ok found
  | n + 1, p, found => if p + 2 ≤ ks.length then (if found ≠ [] ∧ word ks p.toNat ≤ found.getLastD 0 then .error p else ascSpec ks n (p + 2) (found ++ [word ks p.toNat])) else .error p
theorem asc_more {ks : List Int} {n i : Nat} {cp : Int} {ns : List Int} {X : Except Int (List Int)} (h : i < n) (hz : cp + 2 ≤ ks.length) (hg : ns ≠ [] → ns.getLastD 0 < word ks cp.toNat) (hs : ascSpec ks (n - i) cp ns = X) : ascSpec ks (n - (i + 1)) (cp + 2) (ns ++ [word ks cp.toNat]) = X := by
  have e : n - i = (n - (i + 1)) + 1 := by omega
  rw [e] at hs
  unfold ascSpec at hs
  rw [if_pos hz, if_neg (fun h => by have := hg h.1; omega)] at hs
  exact hs
theorem asc_low {ks : List Int} {n i : Nat} {cp : Int} {ns : List Int} {X : Except Int (List Int)} (h : i < n) (hz : cp + 2 ≤ ks.length) (h1 : ns ≠ []) (h2 : word ks cp.toNat ≤ ns.getLastD 0) (hs : ascSpec ks (n - i) cp ns = X) : X = .error cp := by
  have e : n - i = (n - (i + 1)) + 1 := by omega
  rw [e] at hs
  unfold ascSpec at hs
  rw [if_pos hz, if_pos ⟨h1, h2⟩] at hs
  exact hs.symm
theorem asc_short {ks : List Int} {n i : Nat} {cp : Int} {ns : List Int} {X : Except Int (List Int)} (h : i < n) (hz : ks.length < cp + 2) (hs : ascSpec ks (n - i) cp ns = X) : X = .error cp := by
  have e : n - i = (n - (i + 1)) + 1 := by omega
  rw [e] at hs
  unfold ascSpec at hs
  rw [if_neg (by omega)] at hs
  exact hs.symm
theorem word_lo {b : Array UInt8} {ks : List Int} (hk : KBw.bInts b = ks) (p : Nat) : 0 ≤ word ks p ∧ word ks p ≤ 65535 := by
  have h : ∀ j, 0 ≤ ks.getD j 0 ∧ ks.getD j 0 < 256 := fun j => KBw.getD_in (j := j) fun k hk' => KBw.ints_in (b := b) (by rw [hk]; exact hk')
  have h1 := h p
  have h2 := h (p + 1)
  unfold word
  omega
theorem ints_last {vs : List Value} {ns : List Int} (h : IntsAre vs ns) : (vs = [] ∧ ns = []) ∨ ∃ vi ni g t, vs = vi ++ [.int g t] ∧ ns = ni ++ [g] ∧ IntsAre vi ni := by
  induction h with
  | nil => exact .inl ⟨rfl, rfl⟩
  | cons g t _ ih =>
    refine .inr ?_
    rcases ih with ⟨rfl, rfl⟩ | ⟨vi, ni, g', t', rfl, rfl, hi⟩
    · exact ⟨[], [], _, _, rfl, rfl, .nil⟩
    · exact ⟨_ :: vi, _ :: ni, g', t', rfl, rfl, .cons _ _ hi⟩
theorem ints_snoc {vs : List Value} {ns : List Int} (h : IntsAre vs ns) (g : Int) (t : Tok) : IntsAre (vs ++ [.int g t]) (ns ++ [g]) := by
  induction h with
  | nil => exact .cons _ _ .nil
  | cons _ _ _ ih => exact .cons _ _ ih
section
variable {prog : Program} {w : World} {A : Around} {E : Value → Shared → Prop} {s : Shared} {h₀ : Heap} {L : Addr} {news : List (Addr × Obj)}
theorem item_end {l : Addr} {vi : List Value} {v : Value} {u : Tok} {n : Nat} {Q : Value → Shared → Prop} (N : News h₀ L s.heap news) (hm : (l, listOf (vi ++ [v]).toArray n) ∈ news) (h : Q v s) :
    wpAny (model prog w) A (getItem (.ref l) (.int (-1) u)) Q E s := by
  refine wpAny_getItem_list_neg (items := (vi ++ [v]).toArray) ⟨_, (N _ hm).1, rfl, n, rfl⟩ (by decide) (by simp only [List.size_toArray, List.length_append, List.length_singleton]; omega) (by decide) ?_ h
  have e : ((-1 : Int) + ((vi ++ [v]).toArray.size : Nat)).toNat = vi.length := by simp only [List.size_toArray, List.length_append, List.length_singleton]; omega
  rw [e]
  simp
theorem truthy_end {l : Addr} {vi : List Value} {v : Value} {n : Nat} {Q : Bool → Shared → Prop} (N : News h₀ L s.heap news) (hm : (l, listOf (vi ++ [v]).toArray n) ∈ news) (hz : (vi ++ [v]).length < 2 ^ 62) (h : Q true { s with toks := s.toks + 1 + 1 }) :
    wpAny (model prog w) A (truthy (.ref l)) Q E s :=
  kgr_truthy N hm rfl rfl hz (by have e : (!(vi ++ [v]).isEmpty) = true := by cases vi <;> rfl
                                 rw [e]; exact h)
theorem truthy_nil {l : Addr} {n : Nat} {Q : Bool → Shared → Prop} (N : News h₀ L s.heap news) (hm : (l, listOf #[] n) ∈ news) (h : Q false { s with toks := s.toks + 1 + 1 }) :
    wpAny (model prog w) A (truthy (.ref l)) Q E s :=
  kgr_truthy (vs := []) N hm rfl rfl (by decide) h
end
structure AscS where
  p : Int
  tp : Tok
  vs : List Value
  ns : List Int
  ep : Nat
section
local macro_rules | `(tactic| k_all) => `(tactic| ((with_reducible refine List.forall_mem_append.mpr ⟨?_, ?_⟩) <;> k_all))
set_option maxRecDepth 100000 in
set_option maxHeartbeats 1000000 in
def ascS : {P : EntP // P.all → ∀ (w : World) (mean mg mb) (b : Array UInt8) (ks : List Int) (p : Int) (x dx : Addr) (k1 k2 : Int) (t1 t2 td tp : Tok) (rest : List (Addr × Obj)) (hk : KBw.bInts b = ks) (hz : ks.length ≤ 900000) (hp : p ≤ 900000) (hp0 : 0 ≤ p) (hxd : x ≠ dx) (hoff : OwnOff rest [x, dx]), SaysX 5 w mean mg mb 216 [.ref x] ((x, instObj 163 dx) :: (dx, octD k1 k2 t1 t2 td tp b p) :: rest) rest
      (fun news' v => p + 2 ≤ ks.length ∧ ∃ l vs ns n, v = .ref l ∧ IntsAre vs ns ∧ ns.length ≤ 65535 ∧ news' = (l, listOf vs.toArray n) :: rest ∧ ascSpec ks (word ks p.toNat).toNat (p + 2) [] = .ok ns)
      (fun n => (n = p ∧ ks.length < p + 2) ∨ (p + 2 ≤ ks.length ∧ ascSpec ks (word ks p.toNat).toNat (p + 2) [] = .error n))} := ⟨_, fun H => by
  w_on
  intro w mean mg mb b ks p x dx k1 k2 t1 t2 td tp rest hk hz hp hp0 hxd hoff dp un gd cn cs a ccd cl outer A₀ base h₀ L m s Q E B F X N T hkk hdp hun hret hexc
  refine wpAny_call ?_
  k_dflt (refine' code_def ?k1 ?k2 ?k3 ?k4 ?k5 ?kA ?kF ?kK ?k6 ?k7 ?k8 ?k9 ?kB ?_ ?c2 ?c3 ?c4 ?c5; (case kA => exact rfl); (case kF => exact rfl); (case kK => assumption); (case k1 => k_asm); (case k2 => k_asm); (case k3 => k_asm); (case k4 => k_asm); (case k5 => k_asm); (case k6 => k_is); (case k7 => k_is); (case k8 => ktr_room); (case k9 => exact BindsTo.of_eq rfl); (case c5 => decide); (case kB => exact locs rfl); (case c2 => exact rfl); (case c3 => exact rfl); (case c4 => exact rfl); k_whole)
  intro g₁ L₁ h₁ FG' F' N' B' X' T'
  (try dsimp only)
  revert b ks p x dx k1 k2 t1 t2 td tp rest hk hz hp hp0 hxd hoff B F X N T hkk hdp hun hret hexc FG' F' N' B' X' T'
  exact H w mean mg mb dp un gd cn cs a ccd cl outer A₀ base h₀ L m s Q E g₁ L₁ h₁⟩
theorem ascX : ∃ e, ascS.1.on e → ∀ x, ascS.1.on x := ent_ex _
@[irreducible] noncomputable def ascK : Ent := Classical.choose ascX
theorem ascA : ascS.1.on ascK → ∀ x, ascS.1.on x := by
  unfold ascK
  exact Classical.choose_spec ascX
set_option maxRecDepth 100000 in
set_option maxHeartbeats 1000000 in
theorem ascC : ascS.1.on ascK := by
  w_on
  unfold EntP.on ascS
  dsimp only
  intro b ks p x dx k1 k2 t1 t2 td tp rest hk hz hp hp0 hxd hoff B F X N T hkk hdp hun hret hexc FG' F' N' B' X' T'
  have hw := word_lo hk
  (repeat' (first | (k_unfold; (try dsimp only)) | (k_end; wrow_close) | ((with_reducible show wpAny _ _ (exec _ _) _ _ _); (try dsimp only); with_reducible refine atT1 ?_; intro tk) | ((with_reducible show wpAny _ _ (binaryOp _ _ _) _ _ _); (try dsimp only); with_reducible refine atT1 ?_; intro tk) | ((k_here; (try dsimp only [List.cons_append, List.nil_append]); (with_reducible show wpAny _ _ (call (Value.builtin _) [Value.ref _, _]) _ _ _); k_dflt (refine append_K (by k_asm) (by k_asm) (by k_upd) ?_ (by first | size_fits | (simp only [List.size_toArray, sizeLine]; omega))); intro h' F' N'; (try k_sweep))) | ((k_here; (with_reducible show wpAny _ _ (getItem (Value.ref _) (Value.int (-1) _)) _ _ _); k_dflt (refine item_end (by k_asm) (by k_memK) ?_))) | ((k_here; (with_reducible show wpAny _ _ (truthy (Value.ref _)) _ _ _); k_dflt (first | refine truthy_end (by k_asm) (by k_memK) (by omega) ?_ | refine truthy_nil (by k_asm) (by k_memK) ?_))) | ((with_reducible show wpAny _ _ (exec (PySem.Stmt.For (PySem.Expr.Name _ _) (PySem.Expr.Call _ _ _ _) _ _ _) _) _ _ _); (k_here; (rename Fr _ _ _ _ => lF'); (with_unfolding_all refine' For_invVF lF' ?k1 ?k2 ?_; (case k1 => exact rfl); (case k2 => exact rfl); k_whole))) | (((with_reducible show wpAny _ _ (pyIter (Value.ref _)) (fun it s₂ => LoopAtV _ _ _ _ _ _ _ _ _ it s₂) _ _); k_here; refine stop_here ?_)) | ((with_reducible show InvEndN _ _ _ _ _ _ _); (refine stop_here ?_)) | ((k_here; (with_reducible show wpAny _ _ (call (Value.ref 61) _) _ _ _); k_dflt (refine tf_raise (by k_asm) (by k_asm) (by k_asm) (by k_asm) (by k_asm) rfl rfl rfl (by ktr_room) ?_); intro e' d' t' od' h' tk' F' N' hde' hne' hat'; (try k_sweep); (try dsimp only))) | ((with_reducible show wpAny _ _ (exec (PySem.Stmt.Raise _ _ _) _) _ _ _); (k_here; k_dflt (refine Raise_flt (w := ascK.w) rfl ?_))) | ((with_reducible show wpAny _ _ (leaving _ (Value.ref _)) _ _ _); (k_here; k_dflt (first | refine leaveF_on (by assumption) (by assumption) (by assumption) (by assumption) ?_ | refine leaveF_first (by assumption) (by assumption) (by assumption) (by assumption) (by assumption) (by assumption) ?_); intro h' hfly' hup'; (try dsimp only))) | ((k_here; (try dsimp only [List.append_nil, List.nil_append, List.cons_append]); (with_reducible show wpAny _ _ (call (Value.ref 120) _) _ _ _); k_dflt (first | refine sx_use (by k_asm) (by k_asm) (by k_asm) (by k_asm) (by k_asm) (by first | exact rfl | assumption) (u16_says _ _ _ _ _ _ _ _ _ _ _ _ _ _ _ _ (by assumption) (by omega) (by omega) (by omega) (by assumption) (off2 (by k_all) (by k_all))) (by ktr_room) (by ktr_units) ?_ ?_ | refine sx_use (by k_asm) (by k_asm) (by k_asm) (by k_asm) (by k_asm) (by first | exact rfl | assumption) (SaysX.of1 (u16_says _ _ _ _ _ _ _ _ _ _ _ _ _ _ _ _ (by assumption) (by omega) (by omega) (by omega) (by assumption) (off2 (by k_all) (by k_all)))) (by ktr_room) (by ktr_units) ?_ ?_); k_dflt (rotate_left; intro e' n' g2' h' tk' FG2' hfly' hup' hX'; (try dsimp only); (rotate_left; intro nw' v' h' tk' F' N' hR'; obtain ⟨hsz', ⟨tp', hnw'⟩, t', hv'⟩ := hR'; subst hnw' hv'; (try k_sweep); (try dsimp only))))) | walk1 | (dsimp only; walk1) | (leave1; walk_say "STEP leave1"; try dsimp only) | fail "no step"))
  · -- the loop
    unfold StopHere
    rename IsRange _ _ _ _ _ _ _ _ => rgX
    rename News _ _ _ _ => lN
    rename Fr _ _ _ _ => lF
    refine range_loop (σ := AscS) (fun l c => [(x, instObj 163 dx), (dx, octD k1 k2 t1 t2 td c.tp b c.p), (l, listOf c.vs.toArray c.ep)] ++ rest) (fun l c => [("found", .ref l)]) (fun c => IntsAre c.vs c.ns) ["spot", "glyph"]
      (fun i c => 0 ≤ c.p ∧ c.p ≤ ks.length ∧ c.ns.length = i ∧ ascSpec ks ((word ks p.toNat).toNat - i) c.p c.ns = ascSpec ks (word ks p.toNat).toNat (p + 2) [])
      ⟨p + 2, _, [], [], 0⟩ lF lN rgX rfl (hw p.toNat).1 (by have := hw p.toNat; omega) .nil ?_ ?_ ?_ ?_
    · kst_all
    · exact ⟨by show 0 ≤ p + 2; omega, by assumption, rfl, by rw [Nat.sub_zero]⟩
    · intro c pre k t u h tk own hi hoff hf hp' F' N'
      obtain ⟨cp, ctp, cvs, cns, cep⟩ := c
      dsimp only at hf hp' F' N'
      obtain ⟨hc0, hcz, hcl, hcs⟩ := hp'
      clear lF lN rgX
      have kM := kstMark
      have hcw := hw cp.toNat
      have hvl : cvs.length ≤ 65535 := by rw [hf.length, hcl]; have := hw p.toNat; omega
      (try dsimp only [kstB, List.map_cons, List.map_nil] at F' hoff)
      (try simp only [List.cons_append, List.nil_append, List.append_assoc, List.map_cons] at N' hoff)
      (try k_fold)
      rcases ints_last hf with ⟨h1, h2⟩ | ⟨vi, ni, g, tg, h1, h2, hvi⟩
      · subst h1 h2
        (repeat' (first | (k_unfold; (try dsimp only)) | (k_end; wrow_close) | ((with_reducible show wpAny _ _ (exec _ _) _ _ _); (try dsimp only); with_reducible refine atT1 ?_; intro tk) | ((with_reducible show wpAny _ _ (binaryOp _ _ _) _ _ _); (try dsimp only); with_reducible refine atT1 ?_; intro tk) | ((k_here; (try dsimp only [List.cons_append, List.nil_append]); (with_reducible show wpAny _ _ (call (Value.builtin _) [Value.ref _, _]) _ _ _); k_dflt (refine append_K (by k_asm) (by k_asm) (by k_upd) ?_ (by first | size_fits | (simp only [List.size_toArray, sizeLine]; omega))); intro h' F' N'; (try k_sweep))) | ((k_here; (with_reducible show wpAny _ _ (getItem (Value.ref _) (Value.int (-1) _)) _ _ _); k_dflt (refine item_end (by k_asm) (by k_memK) ?_))) | ((k_here; (with_reducible show wpAny _ _ (truthy (Value.ref _)) _ _ _); k_dflt (first | refine truthy_end (by k_asm) (by k_memK) (by omega) ?_ | refine truthy_nil (by k_asm) (by k_memK) ?_))) | ((with_reducible show wpAny _ _ (exec (PySem.Stmt.For (PySem.Expr.Name _ _) (PySem.Expr.Call _ _ _ _) _ _ _) _) _ _ _); (k_here; (rename Fr _ _ _ _ => lF'); (with_unfolding_all refine' For_invVF lF' ?k1 ?k2 ?_; (case k1 => exact rfl); (case k2 => exact rfl); k_whole))) | (((with_reducible show wpAny _ _ (pyIter (Value.ref _)) (fun it s₂ => LoopAtV _ _ _ _ _ _ _ _ _ it s₂) _ _); k_here; refine stop_here ?_)) | ((with_reducible show InvEndN _ _ _ _ _ _ _); (refine stop_here ?_)) | ((k_here; (with_reducible show wpAny _ _ (call (Value.ref 61) _) _ _ _); k_dflt (refine tf_raise (by k_asm) (by k_asm) (by k_asm) (by k_asm) (by k_asm) rfl rfl rfl (by ktr_room) ?_); intro e' d' t' od' h' tk' F' N' hde' hne' hat'; (try k_sweep); (try dsimp only))) | ((with_reducible show wpAny _ _ (exec (PySem.Stmt.Raise _ _ _) _) _ _ _); (k_here; k_dflt (refine Raise_flt (w := ascK.w) rfl ?_))) | ((with_reducible show wpAny _ _ (leaving _ (Value.ref _)) _ _ _); (k_here; k_dflt (first | refine leaveF_on (by assumption) (by assumption) (by assumption) (by assumption) ?_ | refine leaveF_first (by assumption) (by assumption) (by assumption) (by assumption) (by assumption) (by assumption) ?_); intro h' hfly' hup'; (try dsimp only))) | ((k_here; (try dsimp only [List.append_nil, List.nil_append, List.cons_append]); (with_reducible show wpAny _ _ (call (Value.ref 120) _) _ _ _); k_dflt (first | refine sx_use (by k_asm) (by k_asm) (by k_asm) (by k_asm) (by k_asm) (by first | exact rfl | assumption) (u16_says _ _ _ _ _ _ _ _ _ _ _ _ _ _ _ _ (by assumption) (by omega) (by omega) (by omega) (by assumption) (off2 (by k_all) (by k_all))) (by ktr_room) (by ktr_units) ?_ ?_ | refine sx_use (by k_asm) (by k_asm) (by k_asm) (by k_asm) (by k_asm) (by first | exact rfl | assumption) (SaysX.of1 (u16_says _ _ _ _ _ _ _ _ _ _ _ _ _ _ _ _ (by assumption) (by omega) (by omega) (by omega) (by assumption) (off2 (by k_all) (by k_all)))) (by ktr_room) (by ktr_units) ?_ ?_); k_dflt (rotate_left; intro e' n' g2' h' tk' FG2' hfly' hup' hX'; (try dsimp only); (rotate_left; intro nw' v' h' tk' F' N' hR'; obtain ⟨hsz', ⟨tp', hnw'⟩, t', hv'⟩ := hR'; subst hnw' hv'; (try k_sweep); (try dsimp only))))) | walk1 | (dsimp only; walk1) | (leave1; walk_say "STEP leave1"; try dsimp only) | fail "no step"))
        · unfold StopHere
          rename News _ _ _ _ => nE
          (try simp only [List.push_toArray] at nE)
          refine kst_end ⟨cp + 2, _, _, _, _⟩ (by assumption) nE (by first | kst_in | kst_inAny) (by first | (intro p hp; kst_mem) | kst_anyIn) (by rfl) (ints_snoc hf (word ks cp.toNat) _) (by kst_all) (by kst_same) ?_
          refine ⟨(by show 0 ≤ cp + 2; omega), (by assumption), (by simp only [List.length_append, List.length_cons, List.length_nil] at hcl ⊢; omega), ?_⟩
          rw [List.length_append]
          exact asc_more (by omega) (by assumption) (fun h => absurd rfl h) hcs
        · rename _ ∧ _ => hX2
          obtain ⟨rfl, hX3⟩ := hX2
          exact hexc _ _ _ _ _ (by assumption) ((by assumption : FlyF _ _ _ _ _ _).less (fun p hp => .tail _ (List.mem_append.mpr (.inl hp)))) (by assumption) (.inr ⟨by assumption, asc_short (by omega) hX3 hcs⟩)
      · subst h1 h2
        (repeat' (first | (k_unfold; (try dsimp only)) | (k_end; wrow_close) | ((with_reducible show wpAny _ _ (exec _ _) _ _ _); (try dsimp only); with_reducible refine atT1 ?_; intro tk) | ((with_reducible show wpAny _ _ (binaryOp _ _ _) _ _ _); (try dsimp only); with_reducible refine atT1 ?_; intro tk) | ((k_here; (try dsimp only [List.cons_append, List.nil_append]); (with_reducible show wpAny _ _ (call (Value.builtin _) [Value.ref _, _]) _ _ _); k_dflt (refine append_K (by k_asm) (by k_asm) (by k_upd) ?_ (by first | size_fits | (simp only [List.size_toArray, sizeLine]; omega))); intro h' F' N'; (try k_sweep))) | ((k_here; (with_reducible show wpAny _ _ (getItem (Value.ref _) (Value.int (-1) _)) _ _ _); k_dflt (refine item_end (by k_asm) (by k_memK) ?_))) | ((k_here; (with_reducible show wpAny _ _ (truthy (Value.ref _)) _ _ _); k_dflt (first | refine truthy_end (by k_asm) (by k_memK) (by omega) ?_ | refine truthy_nil (by k_asm) (by k_memK) ?_))) | ((with_reducible show wpAny _ _ (exec (PySem.Stmt.For (PySem.Expr.Name _ _) (PySem.Expr.Call _ _ _ _) _ _ _) _) _ _ _); (k_here; (rename Fr _ _ _ _ => lF'); (with_unfolding_all refine' For_invVF lF' ?k1 ?k2 ?_; (case k1 => exact rfl); (case k2 => exact rfl); k_whole))) | (((with_reducible show wpAny _ _ (pyIter (Value.ref _)) (fun it s₂ => LoopAtV _ _ _ _ _ _ _ _ _ it s₂) _ _); k_here; refine stop_here ?_)) | ((with_reducible show InvEndN _ _ _ _ _ _ _); (refine stop_here ?_)) | ((k_here; (with_reducible show wpAny _ _ (call (Value.ref 61) _) _ _ _); k_dflt (refine tf_raise (by k_asm) (by k_asm) (by k_asm) (by k_asm) (by k_asm) rfl rfl rfl (by ktr_room) ?_); intro e' d' t' od' h' tk' F' N' hde' hne' hat'; (try k_sweep); (try dsimp only))) | ((with_reducible show wpAny _ _ (exec (PySem.Stmt.Raise _ _ _) _) _ _ _); (k_here; k_dflt (refine Raise_flt (w := ascK.w) rfl ?_))) | ((with_reducible show wpAny _ _ (leaving _ (Value.ref _)) _ _ _); (k_here; k_dflt (first | refine leaveF_on (by assumption) (by assumption) (by assumption) (by assumption) ?_ | refine leaveF_first (by assumption) (by assumption) (by assumption) (by assumption) (by assumption) (by assumption) ?_); intro h' hfly' hup'; (try dsimp only))) | ((k_here; (try dsimp only [List.append_nil, List.nil_append, List.cons_append]); (with_reducible show wpAny _ _ (call (Value.ref 120) _) _ _ _); k_dflt (first | refine sx_use (by k_asm) (by k_asm) (by k_asm) (by k_asm) (by k_asm) (by first | exact rfl | assumption) (u16_says _ _ _ _ _ _ _ _ _ _ _ _ _ _ _ _ (by assumption) (by omega) (by omega) (by omega) (by assumption) (off2 (by k_all) (by k_all))) (by ktr_room) (by ktr_units) ?_ ?_ | refine sx_use (by k_asm) (by k_asm) (by k_asm) (by k_asm) (by k_asm) (by first | exact rfl | assumption) (SaysX.of1 (u16_says _ _ _ _ _ _ _ _ _ _ _ _ _ _ _ _ (by assumption) (by omega) (by omega) (by omega) (by assumption) (off2 (by k_all) (by k_all)))) (by ktr_room) (by ktr_units) ?_ ?_); k_dflt (rotate_left; intro e' n' g2' h' tk' FG2' hfly' hup' hX'; (try dsimp only); (rotate_left; intro nw' v' h' tk' F' N' hR'; obtain ⟨hsz', ⟨tp', hnw'⟩, t', hv'⟩ := hR'; subst hnw' hv'; (try k_sweep); (try dsimp only))))) | walk1 | (dsimp only; walk1) | (leave1; walk_say "STEP leave1"; try dsimp only) | fail "no step"))
        · exact hexc _ _ _ _ _ (by assumption) ((by assumption : FlyF _ _ _ _ _ _).less (fun p hp => .tail _ (.tail _ (.tail _ (List.mem_append.mpr (.inl hp)))))) (by assumption) (.inr ⟨by assumption, asc_low (by omega) (by assumption) (by simp) (by simpa using (by assumption : word ks cp.toNat ≤ g)) hcs⟩)
        · unfold StopHere
          rename News _ _ _ _ => nE
          (try simp only [List.push_toArray] at nE)
          refine kst_end ⟨cp + 2, _, _, _, _⟩ (by assumption) nE (by first | kst_in | kst_inAny) (by first | (intro p hp; kst_mem) | kst_anyIn) (by rfl) (ints_snoc hf (word ks cp.toNat) _) (by kst_all) (by kst_same) ?_
          refine ⟨(by show 0 ≤ cp + 2; omega), (by assumption), (by simp only [List.length_append, List.length_cons, List.length_nil] at hcl ⊢; omega), ?_⟩
          rw [List.length_append]
          exact asc_more (by omega) (by assumption) (fun h => by simp only [List.getLastD_concat]; omega) hcs
        · rename _ ∧ _ => hX2
          obtain ⟨rfl, hX3⟩ := hX2
          exact hexc _ _ _ _ _ (by assumption) ((by assumption : FlyF _ _ _ _ _ _).less (fun p hp => .tail _ (List.mem_append.mpr (.inl hp)))) (by assumption) (.inr ⟨by assumption, asc_short (by omega) hX3 hcs⟩)
    · intro c u h tk hf hp' F' N'
      obtain ⟨cp, ctp, cvs, cns, cep⟩ := c
      dsimp only at hf hp' F' N'
      obtain ⟨hc0, hcz, hcl, hcs⟩ := hp'
      clear lF lN rgX
      have kM := kstMark
      (try dsimp only [kstB, List.map_cons, List.map_nil] at F')
      (try simp only [List.cons_append, List.nil_append, List.append_assoc] at N')
      (try k_fold)
      (repeat' (first | (k_unfold; (try dsimp only)) | (k_end; wrow_close) | ((with_reducible show wpAny _ _ (exec _ _) _ _ _); (try dsimp only); with_reducible refine atT1 ?_; intro tk) | ((with_reducible show wpAny _ _ (binaryOp _ _ _) _ _ _); (try dsimp only); with_reducible refine atT1 ?_; intro tk) | ((k_here; (try dsimp only [List.cons_append, List.nil_append]); (with_reducible show wpAny _ _ (call (Value.builtin _) [Value.ref _, _]) _ _ _); k_dflt (refine append_K (by k_asm) (by k_asm) (by k_upd) ?_ (by first | size_fits | (simp only [List.size_toArray, sizeLine]; omega))); intro h' F' N'; (try k_sweep))) | ((k_here; (with_reducible show wpAny _ _ (getItem (Value.ref _) (Value.int (-1) _)) _ _ _); k_dflt (refine item_end (by k_asm) (by k_memK) ?_))) | ((k_here; (with_reducible show wpAny _ _ (truthy (Value.ref _)) _ _ _); k_dflt (first | refine truthy_end (by k_asm) (by k_memK) (by omega) ?_ | refine truthy_nil (by k_asm) (by k_memK) ?_))) | ((with_reducible show wpAny _ _ (exec (PySem.Stmt.For (PySem.Expr.Name _ _) (PySem.Expr.Call _ _ _ _) _ _ _) _) _ _ _); (k_here; (rename Fr _ _ _ _ => lF'); (with_unfolding_all refine' For_invVF lF' ?k1 ?k2 ?_; (case k1 => exact rfl); (case k2 => exact rfl); k_whole))) | (((with_reducible show wpAny _ _ (pyIter (Value.ref _)) (fun it s₂ => LoopAtV _ _ _ _ _ _ _ _ _ it s₂) _ _); k_here; refine stop_here ?_)) | ((with_reducible show InvEndN _ _ _ _ _ _ _); (refine stop_here ?_)) | ((k_here; (with_reducible show wpAny _ _ (call (Value.ref 61) _) _ _ _); k_dflt (refine tf_raise (by k_asm) (by k_asm) (by k_asm) (by k_asm) (by k_asm) rfl rfl rfl (by ktr_room) ?_); intro e' d' t' od' h' tk' F' N' hde' hne' hat'; (try k_sweep); (try dsimp only))) | ((with_reducible show wpAny _ _ (exec (PySem.Stmt.Raise _ _ _) _) _ _ _); (k_here; k_dflt (refine Raise_flt (w := ascK.w) rfl ?_))) | ((with_reducible show wpAny _ _ (leaving _ (Value.ref _)) _ _ _); (k_here; k_dflt (first | refine leaveF_on (by assumption) (by assumption) (by assumption) (by assumption) ?_ | refine leaveF_first (by assumption) (by assumption) (by assumption) (by assumption) (by assumption) (by assumption) ?_); intro h' hfly' hup'; (try dsimp only))) | ((k_here; (try dsimp only [List.append_nil, List.nil_append, List.cons_append]); (with_reducible show wpAny _ _ (call (Value.ref 120) _) _ _ _); k_dflt (first | refine sx_use (by k_asm) (by k_asm) (by k_asm) (by k_asm) (by k_asm) (by first | exact rfl | assumption) (u16_says _ _ _ _ _ _ _ _ _ _ _ _ _ _ _ _ (by assumption) (by omega) (by omega) (by omega) (by assumption) (off2 (by k_all) (by k_all))) (by ktr_room) (by ktr_units) ?_ ?_ | refine sx_use (by k_asm) (by k_asm) (by k_asm) (by k_asm) (by k_asm) (by first | exact rfl | assumption) (SaysX.of1 (u16_says _ _ _ _ _ _ _ _ _ _ _ _ _ _ _ _ (by assumption) (by omega) (by omega) (by omega) (by assumption) (off2 (by k_all) (by k_all)))) (by ktr_room) (by ktr_units) ?_ ?_); k_dflt (rotate_left; intro e' n' g2' h' tk' FG2' hfly' hup' hX'; (try dsimp only); (rotate_left; intro nw' v' h' tk' F' N' hR'; obtain ⟨hsz', ⟨tp', hnw'⟩, t', hv'⟩ := hR'; subst hnw' hv'; (try k_sweep); (try dsimp only))))) | walk1 | (dsimp only; walk1) | (leave1; walk_say "STEP leave1"; try dsimp only) | fail "no step"))
      rename News _ _ _ _ => lN2
      refine hret _ _ _ _ (by assumption) (fun q hq => lN2 q (.tail _ (.tail _ hq))) ⟨by assumption, _, _, _, _, rfl, hf, (by rw [hcl]; have := hw p.toNat; omega), rfl, (by rw [← hcs, Nat.sub_self]; rfl)⟩
  · rename _ ∧ _ => hX2
    obtain ⟨rfl, hX3⟩ := hX2
    exact hexc _ _ _ _ _ (by assumption) ((by assumption : FlyF _ _ _ _ _ _).less (fun p hp => .tail _ hp)) (by assumption) (.inl ⟨rfl, hX3⟩)
set_option maxRecDepth 100000 in
set_option maxHeartbeats 1000000 in
theorem asc_says (w : World) (mean mg mb) (b : Array UInt8) (ks : List Int) (p : Int) (x dx : Addr) (k1 k2 : Int) (t1 t2 td tp : Tok) (rest : List (Addr × Obj)) (hk : KBw.bInts b = ks) (hz : ks.length ≤ 900000) (hp : p ≤ 900000) (hp0 : 0 ≤ p) (hxd : x ≠ dx) (hoff : OwnOff rest [x, dx]) : SaysX 5 w mean mg mb 216 [.ref x] ((x, instObj 163 dx) :: (dx, octD k1 k2 t1 t2 td tp b p) :: rest) rest
      (fun news' v => p + 2 ≤ ks.length ∧ ∃ l vs ns n, v = .ref l ∧ IntsAre vs ns ∧ ns.length ≤ 65535 ∧ news' = (l, listOf vs.toArray n) :: rest ∧ ascSpec ks (word ks p.toNat).toNat (p + 2) [] = .ok ns)
      (fun n => (n = p ∧ ks.length < p + 2) ∨ (p + 2 ≤ ks.length ∧ ascSpec ks (word ks p.toNat).toNat (p + 2) [] = .error n)) := ascS.2 (EntP.all_of (ascA ascC)) w mean mg mb b ks p x dx k1 k2 t1 t2 td tp rest hk hz hp hp0 hxd hoff
end
end Mine
end
section
open PySem PySem.W PyProof.Rows
namespace Mine
section
variable {lev : Nat} {w : World} {mean : ExcName → Option Value} {mg mb : Str → Option Value} {f : Addr} {vs : List Value} {news news₂ rest : List (Addr × Obj)} {R : List (Addr × Obj) → Value → Prop} {a b q q₂ : Addr × Obj}
theorem SaysR.of_mem (S : SaysR lev w mean mg mb f vs news R) (h : ∀ p ∈ news, p ∈ news₂) : SaysR lev w mean mg mb f vs news₂ R :=
  fun _ _ _ _ _ _ _ _ _ _ _ _ _ _ _ _ _ B F KX N T hk hdp hun ret => S _ _ _ _ _ _ _ _ _ _ _ _ _ _ _ _ _ B F KX (fun p hp => N p (h p hp)) T hk hdp hun ret
theorem SaysR.of1 (S : SaysR lev w mean mg mb f vs (a :: b :: q :: rest) R) : SaysR lev w mean mg mb f vs (q :: a :: b :: rest) R :=
  S.of_mem fun p hp => by simp only [List.mem_cons] at hp ⊢; rcases hp with h | h | h | h <;> simp [h]
theorem SaysR.of2 (S : SaysR lev w mean mg mb f vs (a :: b :: q :: q₂ :: rest) R) : SaysR lev w mean mg mb f vs (q :: q₂ :: a :: b :: rest) R :=
  S.of_mem fun p hp => by simp only [List.mem_cons] at hp ⊢; rcases hp with h | h | h | h | h <;> simp [h]
end
theorem drop4th {h₀ h : Heap} {L : Addr} {a b c d : Addr × Obj} {rest : List (Addr × Obj)} (N : News h₀ L h (a :: b :: c :: d :: rest)) : News h₀ L h ([a, b, c] ++ rest) := fun q hq => N q (by
  simp only [List.mem_cons, List.cons_append, List.nil_append] at hq ⊢
  rcases hq with h | h | h | h <;> simp [h])
theorem fdiv_in {a k : Int} (h0 : 0 ≤ a) (hk : 0 < k) : 0 ≤ a.fdiv k ∧ a.fdiv k ≤ a := by
  rw [Int.fdiv_eq_ediv_of_nonneg _ (by omega)]
  exact ⟨Int.ediv_nonneg h0 (by omega), Int.ediv_le_self _ h0⟩
theorem drop5 {h₀ h : Heap} {L : Addr} {a b c d e : Addr × Obj} {rest : List (Addr × Obj)} (N : News h₀ L h (a :: b :: c :: d :: e :: rest)) : News h₀ L h (a :: c :: d :: rest) := fun q hq => N q (by
  simp only [List.mem_cons] at hq ⊢
  rcases hq with h | h | h | h <;> simp [h])
theorem getD_bound {ns : List Int} {k : Nat} {d lo hi : Int} (h : ∀ x ∈ ns, lo ≤ x ∧ x ≤ hi) (hd : lo ≤ d ∧ d ≤ hi) : lo ≤ ns.getD k d ∧ ns.getD k d ≤ hi := by
  rw [List.getD_eq_getElem?_getD]
  cases q : ns[k]? with
  | none => exact hd
  | some v => exact h v (List.mem_of_getElem? q)
section
variable {prog : Program} {w : World} {A : Around} {E : Value → Shared → Prop} {s : Shared} {h₀ : Heap} {L : Addr} {m : Str → Option Value} {news : List (Addr × Obj)} {a b : Int} {t u : Tok} {Q : Value → Shared → Prop}
theorem min_named (hh : A.handled = none) (F : Fr h₀ L s.heap m) (N : News h₀ L s.heap news) (h : ∀ x v h' tk, Fr h₀ L h' m → News h₀ L h' news → x ≤ a → x ≤ b → (x = a ∨ x = b) → Q (.int x v) { s with heap := h', toks := tk }) :
    wpAny (model prog w) A (call (.builtin "min") [.int a t, .int b u]) Q E s :=
  min_two_ints hh fun h' tk hk => by
    by_cases hc : b < a
    · rw [if_pos hc]; exact h _ _ _ _ (F.kept hk) (N.grown hk) (by omega) (by omega) (.inr rfl)
    · rw [if_neg hc]; exact h _ _ _ _ (F.kept hk) (N.grown hk) (by omega) (by omega) (.inl rfl)
theorem max_named (hh : A.handled = none) (F : Fr h₀ L s.heap m) (N : News h₀ L s.heap news) (h : ∀ x v h' tk, Fr h₀ L h' m → News h₀ L h' news → a ≤ x → b ≤ x → (x = a ∨ x = b) → Q (.int x v) { s with heap := h', toks := tk }) :
    wpAny (model prog w) A (call (.builtin "max") [.int a t, .int b u]) Q E s :=
  max_two_ints hh fun h' tk hk => by
    by_cases hc : a < b
    · rw [if_pos hc]; exact h _ _ _ _ (F.kept hk) (N.grown hk) (by omega) (by omega) (.inr rfl)
    · rw [if_neg hc]; exact h _ _ _ _ (F.kept hk) (N.grown hk) (by omega) (by omega) (.inl rfl)
end
structure NumS where
  seat : Int
  great : Int
  ts : Tok
  tg : Tok
  glyph : Int
  tgl : Tok
  vs : List Value
  ns : List Int
  en : Nat
  many : Int
  tm : Tok
section
local macro_rules | `(tactic| k_all) => `(tactic| ((with_reducible refine List.forall_mem_append.mpr ⟨?_, ?_⟩) <;> k_all))
set_option maxRecDepth 100000 in
set_option maxHeartbeats 2000000 in
def numbersS : {P : EntP // P.all → ∀ (w : World) (mean mg mb) (pen c : Addr) (vs : List Value) (ns : List Int) (seat great : Int) (ts tg : Tok) (ep ec : Nat) (rest : List (Addr × Obj))
   (hI : IntsAre vs ns) (hlen : ns.length ≤ 40) (hs0 : 0 ≤ seat) (hs1 : seat ≤ 900000) (hg0 : 0 ≤ great) (hpc : pen ≠ c) (hcp : c ≠ pen) (hr1 : OwnOff rest [pen, c]), SaysR 3 w mean mg mb 251 [.ref pen] ((pen, listOf [.ref c, .int seat ts, .int great tg].toArray ep) :: (c, listOf vs.toArray ec) :: rest)
     (fun news' v => ∃ seat' great' ts' tg' l us xs n, 0 ≤ seat' ∧ seat' ≤ seat + 30 ∧ 0 ≤ great' ∧ v = .ref l ∧ IntsAre us xs ∧ 2 ≤ xs.length ∧ xs.length ≤ 20 ∧ (∀ x ∈ xs, 0 ≤ x ∧ x ≤ 65535) ∧ (pen < l ∧ c < l ∧ AllLt l rest) ∧
       news' = (l, listOf us.toArray n) :: (pen, listOf [.ref c, .int seat' ts', .int great' tg'].toArray ep) :: (c, listOf vs.toArray ec) :: rest)} := ⟨_, fun H => by
  w_on
  intro w mean mg mb pen c vs ns seat great ts tg ep ec rest hI hlen hs0 hs1 hg0 hpc hcp hr1 dp un gd cn cs a ccd cl outer A₀ base h₀ L m s Q E B F X N T hkk hdp hun hret
  refine wpAny_call ?_
  k_dflt (refine' code_def ?k1 ?k2 ?k3 ?k4 ?k5 ?kA ?kF ?kK ?k6 ?k7 ?k8 ?k9 ?kB ?_ ?c2 ?c3 ?c4 ?c5; (case kA => exact rfl); (case kF => exact rfl); (case kK => assumption); (case k1 => k_asm); (case k2 => k_asm); (case k3 => k_asm); (case k4 => k_asm); (case k5 => k_asm); (case k6 => k_is); (case k7 => k_is); (case k8 => ktr_room); (case k9 => exact BindsTo.of_eq rfl); (case c5 => decide); (case kB => exact locs rfl); (case c2 => exact rfl); (case c3 => exact rfl); (case c4 => exact rfl); k_whole)
  intro g₁ L₁ h₁ FG' F' N' B' X' T'
  (try dsimp only)
  revert pen c vs ns seat great ts tg ep ec rest hI hlen hs0 hs1 hg0 hpc hcp hr1 B F X N T hkk hdp hun hret FG' F' N' B' X' T'
  exact H w mean mg mb dp un gd cn cs a ccd cl outer A₀ base h₀ L m s Q E g₁ L₁ h₁⟩
theorem numbersX : ∃ e, numbersS.1.on e → ∀ x, numbersS.1.on x := ent_ex _
@[irreducible] noncomputable def numbersK : Ent := Classical.choose numbersX
theorem numbersA : numbersS.1.on numbersK → ∀ x, numbersS.1.on x := by
  unfold numbersK
  exact Classical.choose_spec numbersX
set_option maxRecDepth 100000 in
set_option maxHeartbeats 2000000 in
theorem numbersC : numbersS.1.on numbersK := by
  w_on
  unfold EntP.on numbersS
  dsimp only
  intro pen c vs ns seat great ts tg ep ec rest hI hlen hs0 hs1 hg0 hpc hcp hr1 B F X N T hkk hdp hun hret FG' F' N' B' X' T'
  have hexc : True := trivial
  have hg := fun k => getD_bound (ns := [0, 1, 7, 300]) (k := k) (d := 0) (lo := 0) (hi := 300) (by decide) ⟨by decide, by decide⟩
  (repeat' (first | (k_unfold; (try dsimp only)) | (k_end; wrow_close) | ((with_reducible show wpAny _ _ (exec _ _) _ _ _); (try dsimp only); with_reducible refine atT1 ?_; intro tk) | ((with_reducible show wpAny _ _ (binaryOp _ _ _) _ _ _); (try dsimp only); with_reducible refine atT1 ?_; intro tk) | ((k_here; (try dsimp only [List.cons_append, List.nil_append]); (with_reducible show wpAny _ _ (call (Value.builtin _) [Value.ref _, Value.ref _]) _ _ _); k_dflt (refine extend_in_ints (own := [_, _, _]) (by assumption) (by assumption) (by k_all) (by k_all) (News.get (by assumption) (.head _)) (by assumption) (IntsAre.cons _ _ (.cons _ _ (.cons _ _ .nil))) ?_ (by rw [sizeLine_eq]; show _ + 3 ≤ _; omega)); intro h' c' F' N' hi'; (try dsimp only [List.cons_append, List.nil_append] at N'); (try k_sweep))) | ((k_here; (try dsimp only [List.cons_append, List.nil_append]); (with_reducible show wpAny _ _ (call (Value.builtin _) [Value.ref _, _]) _ _ _); k_dflt (refine append_K (by k_asm) (by k_asm) (by k_upd) ?_ (by first | size_fits | (simp only [List.size_toArray, sizeLine]; omega))); intro h' F' N'; (try k_sweep))) | ((k_here; (with_reducible show wpAny _ _ (call (Value.builtin "min") [Value.int _ _, Value.int _ _]) _ _ _); k_dflt (refine min_named rfl (by assumption) (by assumption) ?_); intro m' u' h' tk' F' N' hm1 hm2 hm3; (try k_sweep))) | ((k_here; (with_reducible show wpAny _ _ (call _ [Value.int _ _]) _ _ _); (rename Fr _ _ _ _ => F'); (rename News _ _ _ _ => N'); with_unfolding_all refine range1_rows F' N' ?_; intro _ _ _ _ _ _ _ _ _)) | ((with_reducible show wpAny _ _ (exec (PySem.Stmt.For (PySem.Expr.Name _ _) (PySem.Expr.Call _ _ _ _) _ _ _) _) _ _ _); (k_here; (rename Fr _ _ _ _ => lF'); (with_unfolding_all refine' For_invVF lF' ?k1 ?k2 ?_; (case k1 => exact rfl); (case k2 => exact rfl); k_whole))) | (((with_reducible show wpAny _ _ (pyIter (Value.ref _)) (fun it s₂ => LoopAtV _ _ _ _ _ _ _ _ _ it s₂) _ _); k_here; refine stop_here ?_)) | ((with_reducible show InvEndN _ _ _ _ _ _ _); (refine stop_here ?_)) | ((k_here; (try dsimp only [List.append_nil, List.nil_append, List.cons_append]); (with_reducible show wpAny _ _ (call (Value.ref 244) _) _ _ _); k_dflt (first | refine sr_use (by k_asm) (by k_asm) (by k_asm) (by k_asm) (by k_asm) (by first | exact rfl | assumption) (draw_says _ _ _ _ _ _ _ _ _ _ _ _ _ _ _ _ _ (by assumption) (by assumption) (by omega) (by omega) (by omega) (by omega) (by omega) (by assumption) (by assumption) (by first | assumption | exact off2 (by k_all) (by k_all))) (by ktr_room) (by ktr_units) ?_ | refine sr_use (by k_asm) (by k_asm) (by k_asm) (by k_asm) (by k_asm) (by first | exact rfl | assumption) (SaysR.of1 (draw_says _ _ _ _ _ _ _ _ _ _ _ _ _ _ _ _ _ (by assumption) (by assumption) (by omega) (by omega) (by omega) (by omega) (by omega) (by assumption) (by assumption) (off2 (by k_all) (by k_all)))) (by ktr_room) (by ktr_units) ?_); k_dflt (intro nw' v' h' tk' F' N' hR'; obtain ⟨seat', great', ts', tg', d', td', hd1', hd2', hd3', hd4', hd5', hv', hnw'⟩ := hR'; subst hnw' hv'; (try k_sweep); (try dsimp only)))) | walk1 | (dsimp only; walk1) | (leave1; walk_say "STEP leave1"; try dsimp only) | fail "no step"))
  all_goals unfold StopHere
  all_goals rename IsRange _ _ _ _ _ _ _ _ => rgX
  all_goals rename News _ _ _ _ => lN
  all_goals rename Fr _ _ _ _ => lF
  all_goals
    refine range_loop (σ := NumS) (fun l s => [(pen, listOf [.ref c, .int s.seat s.ts, .int s.great s.tg].toArray ep), (c, listOf vs.toArray ec), (l, listOf s.vs.toArray s.en)] ++ rest) (fun l s => [("rows", .ref l), ("glyph", .int s.glyph s.tgl), ("many", .int s.many s.tm)]) (fun s => IntsAre s.vs s.ns) ["last"]
      (fun i s => 0 ≤ s.seat ∧ s.seat ≤ seat + 4 + 2 * i ∧ 0 ≤ s.great ∧ 0 ≤ s.glyph ∧ s.glyph ≤ 65540 ∧ 0 ≤ s.many ∧ s.many ≤ 4 * i ∧ s.ns.length ≤ 3 * i ∧ ∀ x ∈ s.ns, 0 ≤ x ∧ x ≤ 65535)
      ⟨_, _, _, _, _, _, [], [], 0, 0, _⟩ lF (drop4th lN) rgX rfl (by assumption) (by omega) .nil (by kst_all) ?_ ?_ ?_
    · refine ⟨?_, ?_, ?_, ?_, ?_, (by show (0 : Int) ≤ 0; decide), (by show (0 : Int) ≤ 4 * 0; decide), Nat.le_refl 0, fun _ h => nomatch h⟩ <;> dsimp only <;> first | omega | exact (hg _).1 | exact Int.le_trans (hg _).2 (by decide)
    · intro cc pre k t u h tk own hi hoff hf hp' F' N'
      obtain ⟨cseat, cgreat, cts, ctg, cglyph, ctgl, cvs, cns, cen, cmany, ctm⟩ := cc
      dsimp only at hf hp' F' N'
      obtain ⟨hc1, hc2, hc3, hc4, hc5, hc6, hc7, hc8, hc9⟩ := hp'
      clear lF lN rgX
      have kM := kstMark
      have hvl := hf.length
      (try dsimp only [kstB, List.map_cons, List.map_nil] at F' hoff)
      (try simp only [List.cons_append, List.nil_append, List.append_assoc, List.map_cons] at N' hoff)
      (try k_fold)
      (repeat' (first | (k_unfold; (try dsimp only)) | (k_end; wrow_close) | ((with_reducible show wpAny _ _ (exec _ _) _ _ _); (try dsimp only); with_reducible refine atT1 ?_; intro tk) | ((with_reducible show wpAny _ _ (binaryOp _ _ _) _ _ _); (try dsimp only); with_reducible refine atT1 ?_; intro tk) | ((k_here; (try dsimp only [List.cons_append, List.nil_append]); (with_reducible show wpAny _ _ (call (Value.builtin _) [Value.ref _, Value.ref _]) _ _ _); k_dflt (refine extend_in_ints (own := [_, _, _]) (by assumption) (by assumption) (by k_all) (by k_all) (News.get (by assumption) (.head _)) (by assumption) (IntsAre.cons _ _ (.cons _ _ (.cons _ _ .nil))) ?_ (by rw [sizeLine_eq]; show _ + 3 ≤ _; omega)); intro h' c' F' N' hi'; (try dsimp only [List.cons_append, List.nil_append] at N'); (try k_sweep))) | ((k_here; (try dsimp only [List.cons_append, List.nil_append]); (with_reducible show wpAny _ _ (call (Value.builtin _) [Value.ref _, _]) _ _ _); k_dflt (refine append_K (by k_asm) (by k_asm) (by k_upd) ?_ (by first | size_fits | (simp only [List.size_toArray, sizeLine]; omega))); intro h' F' N'; (try k_sweep))) | ((k_here; (with_reducible show wpAny _ _ (call (Value.builtin "min") [Value.int _ _, Value.int _ _]) _ _ _); k_dflt (refine min_named rfl (by assumption) (by assumption) ?_); intro m' u' h' tk' F' N' hm1 hm2 hm3; (try k_sweep))) | ((k_here; (with_reducible show wpAny _ _ (call _ [Value.int _ _]) _ _ _); (rename Fr _ _ _ _ => F'); (rename News _ _ _ _ => N'); with_unfolding_all refine range1_rows F' N' ?_; intro _ _ _ _ _ _ _ _ _)) | ((with_reducible show wpAny _ _ (exec (PySem.Stmt.For (PySem.Expr.Name _ _) (PySem.Expr.Call _ _ _ _) _ _ _) _) _ _ _); (k_here; (rename Fr _ _ _ _ => lF'); (with_unfolding_all refine' For_invVF lF' ?k1 ?k2 ?_; (case k1 => exact rfl); (case k2 => exact rfl); k_whole))) | (((with_reducible show wpAny _ _ (pyIter (Value.ref _)) (fun it s₂ => LoopAtV _ _ _ _ _ _ _ _ _ it s₂) _ _); k_here; refine stop_here ?_)) | ((with_reducible show InvEndN _ _ _ _ _ _ _); (refine stop_here ?_)) | ((k_here; (try dsimp only [List.append_nil, List.nil_append, List.cons_append]); (with_reducible show wpAny _ _ (call (Value.ref 244) _) _ _ _); k_dflt (first | refine sr_use (by k_asm) (by k_asm) (by k_asm) (by k_asm) (by k_asm) (by first | exact rfl | assumption) (draw_says _ _ _ _ _ _ _ _ _ _ _ _ _ _ _ _ _ (by assumption) (by assumption) (by omega) (by omega) (by omega) (by omega) (by omega) (by assumption) (by assumption) (by first | assumption | exact off2 (by k_all) (by k_all))) (by ktr_room) (by ktr_units) ?_ | refine sr_use (by k_asm) (by k_asm) (by k_asm) (by k_asm) (by k_asm) (by first | exact rfl | assumption) (SaysR.of1 (draw_says _ _ _ _ _ _ _ _ _ _ _ _ _ _ _ _ _ (by assumption) (by assumption) (by omega) (by omega) (by omega) (by omega) (by omega) (by assumption) (by assumption) (off2 (by k_all) (by k_all)))) (by ktr_room) (by ktr_units) ?_); k_dflt (intro nw' v' h' tk' F' N' hR'; obtain ⟨seat', great', ts', tg', d', td', hd1', hd2', hd3', hd4', hd5', hv', hnw'⟩ := hR'; subst hnw' hv'; (try k_sweep); (try dsimp only)))) | walk1 | (dsimp only; walk1) | (leave1; walk_say "STEP leave1"; try dsimp only) | fail "no step"))
      · unfold StopHere
        rename News _ _ _ _ => nE
        (try simp only [List.push_toArray] at nE)
        refine kst_end ⟨_, _, _, _, _, _, _, cns ++ [cglyph], _, _, _⟩ (by assumption) nE (by first | kst_in | kst_inAny) (by first | (intro p hp; kst_mem) | kst_anyIn) (by rfl) (ints_snoc (by assumption : IntsAre cvs cns) cglyph _) (by kst_all) (by kst_same) ?_
        simp only [List.length_append, List.length_cons, List.length_nil]
        refine ⟨?_, ?_, ?_, ?_, ?_, ?_, ?_, ?_, ?_⟩ <;> first | omega | (exact List.forall_mem_append.mpr ⟨hc9, fun x hx => by simp only [List.mem_cons, List.not_mem_nil, or_false] at hx; omega⟩)
      · unfold StopHere
        rename News _ _ _ _ => nE
        (try simp only [List.push_toArray] at nE)
        refine kst_end ⟨_, _, _, _, _, _, _, _, _, _, _⟩ (by assumption) nE (by first | kst_in | kst_inAny) (by first | (intro p hp; kst_mem) | kst_anyIn) (by rfl) (by assumption : IntsAre _ (_ ++ [_, _, _])) (by kst_all) (by kst_same) ?_
        simp only [List.length_append, List.length_cons, List.length_nil]
        refine ⟨?_, ?_, ?_, ?_, ?_, ?_, ?_, ?_, ?_⟩ <;> first | omega | (exact List.forall_mem_append.mpr ⟨hc9, fun x hx => by simp only [List.mem_cons, List.not_mem_nil, or_false] at hx; omega⟩)
      · unfold StopHere
        rename News _ _ _ _ => nE
        (try simp only [List.push_toArray] at nE)
        refine kst_end ⟨_, _, _, _, _, _, _, cns, _, _, _⟩ (by assumption) nE (by first | kst_in | kst_inAny) (by first | (intro p hp; kst_mem) | kst_anyIn) (by rfl) hf (by kst_all) (by kst_same) ?_
        simp only [List.length_append, List.length_cons, List.length_nil]
        refine ⟨?_, ?_, ?_, ?_, ?_, ?_, ?_, ?_, ?_⟩ <;> first | omega | (exact hc9)
    · intro cc u h tk hf hp' F' N'
      obtain ⟨cseat, cgreat, cts, ctg, cglyph, ctgl, cvs, cns, cen, cmany, ctm⟩ := cc
      dsimp only at hf hp' F' N'
      obtain ⟨hc1, hc2, hc3, hc4, hc5, hc6, hc7, hc8, hc9⟩ := hp'
      clear lF lN rgX
      have kM := kstMark
      have hvl := hf.length
      (try dsimp only [kstB, List.map_cons, List.map_nil] at F')
      (try simp only [List.cons_append, List.nil_append, List.append_assoc] at N')
      (try k_fold)
      (repeat' (first | (k_unfold; (try dsimp only)) | (k_end; wrow_close) | ((with_reducible show wpAny _ _ (exec _ _) _ _ _); (try dsimp only); with_reducible refine atT1 ?_; intro tk) | ((with_reducible show wpAny _ _ (binaryOp _ _ _) _ _ _); (try dsimp only); with_reducible refine atT1 ?_; intro tk) | ((k_here; (try dsimp only [List.cons_append, List.nil_append]); (with_reducible show wpAny _ _ (call (Value.builtin _) [Value.ref _, Value.ref _]) _ _ _); k_dflt (refine extend_in_ints (own := [_, _, _]) (by assumption) (by assumption) (by k_all) (by k_all) (News.get (by assumption) (.head _)) (by assumption) (IntsAre.cons _ _ (.cons _ _ (.cons _ _ .nil))) ?_ (by rw [sizeLine_eq]; show _ + 3 ≤ _; omega)); intro h' c' F' N' hi'; (try dsimp only [List.cons_append, List.nil_append] at N'); (try k_sweep))) | ((k_here; (try dsimp only [List.cons_append, List.nil_append]); (with_reducible show wpAny _ _ (call (Value.builtin _) [Value.ref _, _]) _ _ _); k_dflt (refine append_K (by k_asm) (by k_asm) (by k_upd) ?_ (by first | size_fits | (simp only [List.size_toArray, sizeLine]; omega))); intro h' F' N'; (try k_sweep))) | ((k_here; (with_reducible show wpAny _ _ (call (Value.builtin "min") [Value.int _ _, Value.int _ _]) _ _ _); k_dflt (refine min_named rfl (by assumption) (by assumption) ?_); intro m' u' h' tk' F' N' hm1 hm2 hm3; (try k_sweep))) | ((k_here; (with_reducible show wpAny _ _ (call _ [Value.int _ _]) _ _ _); (rename Fr _ _ _ _ => F'); (rename News _ _ _ _ => N'); with_unfolding_all refine range1_rows F' N' ?_; intro _ _ _ _ _ _ _ _ _)) | ((with_reducible show wpAny _ _ (exec (PySem.Stmt.For (PySem.Expr.Name _ _) (PySem.Expr.Call _ _ _ _) _ _ _) _) _ _ _); (k_here; (rename Fr _ _ _ _ => lF'); (with_unfolding_all refine' For_invVF lF' ?k1 ?k2 ?_; (case k1 => exact rfl); (case k2 => exact rfl); k_whole))) | (((with_reducible show wpAny _ _ (pyIter (Value.ref _)) (fun it s₂ => LoopAtV _ _ _ _ _ _ _ _ _ it s₂) _ _); k_here; refine stop_here ?_)) | ((with_reducible show InvEndN _ _ _ _ _ _ _); (refine stop_here ?_)) | ((k_here; (try dsimp only [List.append_nil, List.nil_append, List.cons_append]); (with_reducible show wpAny _ _ (call (Value.ref 244) _) _ _ _); k_dflt (first | refine sr_use (by k_asm) (by k_asm) (by k_asm) (by k_asm) (by k_asm) (by first | exact rfl | assumption) (draw_says _ _ _ _ _ _ _ _ _ _ _ _ _ _ _ _ _ (by assumption) (by assumption) (by omega) (by omega) (by omega) (by omega) (by omega) (by assumption) (by assumption) (by first | assumption | exact off2 (by k_all) (by k_all))) (by ktr_room) (by ktr_units) ?_ | refine sr_use (by k_asm) (by k_asm) (by k_asm) (by k_asm) (by k_asm) (by first | exact rfl | assumption) (SaysR.of1 (draw_says _ _ _ _ _ _ _ _ _ _ _ _ _ _ _ _ _ (by assumption) (by assumption) (by omega) (by omega) (by omega) (by omega) (by omega) (by assumption) (by assumption) (off2 (by k_all) (by k_all)))) (by ktr_room) (by ktr_units) ?_); k_dflt (intro nw' v' h' tk' F' N' hR'; obtain ⟨seat', great', ts', tg', d', td', hd1', hd2', hd3', hd4', hd5', hv', hnw'⟩ := hR'; subst hnw' hv'; (try k_sweep); (try dsimp only)))) | walk1 | (dsimp only; walk1) | (leave1; walk_say "STEP leave1"; try dsimp only) | fail "no step"))
      all_goals
        have hf1 := fdiv_in (a := (cns.length : Int)) (k := 1) (by omega) (by decide)
        have hf3 := fdiv_in (a := (cns.length : Int)) (k := 3) (by omega) (by decide)
        refine hret _ _ _ _ (by assumption) (drop5 (by assumption)) ⟨_, _, _, _, _, _, _, _, by omega, by omega, by omega, rfl, by assumption, ?_, ?_, ?_, by (rename _ < _ ∧ _ < _ ∧ _ < _ ∧ _ < _ ∧ _ => hl; exact ⟨hl.2.1, hl.2.2.1, hl.2.2.2.2⟩), rfl⟩
        · simp only [List.length_append, List.length_cons, List.length_nil]; omega
        · simp only [List.length_append, List.length_cons, List.length_nil]; omega
        · exact List.forall_mem_append.mpr ⟨fun x hx => by simp only [List.mem_cons, List.not_mem_nil, or_false] at hx; omega, hc9⟩
set_option maxRecDepth 100000 in
set_option maxHeartbeats 2000000 in
theorem numbers_says (w : World) (mean mg mb) (pen c : Addr) (vs : List Value) (ns : List Int) (seat great : Int) (ts tg : Tok) (ep ec : Nat) (rest : List (Addr × Obj))
   (hI : IntsAre vs ns) (hlen : ns.length ≤ 40) (hs0 : 0 ≤ seat) (hs1 : seat ≤ 900000) (hg0 : 0 ≤ great) (hpc : pen ≠ c) (hcp : c ≠ pen) (hr1 : OwnOff rest [pen, c]) : SaysR 3 w mean mg mb 251 [.ref pen] ((pen, listOf [.ref c, .int seat ts, .int great tg].toArray ep) :: (c, listOf vs.toArray ec) :: rest)
     (fun news' v => ∃ seat' great' ts' tg' l us xs n, 0 ≤ seat' ∧ seat' ≤ seat + 30 ∧ 0 ≤ great' ∧ v = .ref l ∧ IntsAre us xs ∧ 2 ≤ xs.length ∧ xs.length ≤ 20 ∧ (∀ x ∈ xs, 0 ≤ x ∧ x ≤ 65535) ∧ (pen < l ∧ c < l ∧ AllLt l rest) ∧
       news' = (l, listOf us.toArray n) :: (pen, listOf [.ref c, .int seat' ts', .int great' tg'].toArray ep) :: (c, listOf vs.toArray ec) :: rest) := numbersS.2 (EntP.all_of (numbersA numbersC)) w mean mg mb pen c vs ns seat great ts tg ep ec rest hI hlen hs0 hs1 hg0 hpc hcp hr1
end
end Mine
end
section
open PySem PySem.W PyProof.Rows
namespace Mine
section
local macro_rules | `(tactic| k_all) => `(tactic| ((with_reducible refine List.forall_mem_append.mpr ⟨?_, ?_⟩) <;> k_all))
set_option maxRecDepth 100000 in
set_option maxHeartbeats 1000000 in
def spanS : {P : EntP // P.all → ∀ (w : World) (mean mg mb) (b : Array UInt8) (ks : List Int) (p least : Int) (x dx : Addr) (k1 k2 : Int) (t1 t2 td tp t3 : Tok) (rest : List (Addr × Obj)) (hk : KBw.bInts b = ks) (hz : ks.length ≤ 900000) (hp : p ≤ 900000) (hp0 : 0 ≤ p) (hl0 : 0 ≤ least) (hl1 : least ≤ 65536) (hxd : x ≠ dx) (hoff : OwnOff rest [x, dx]), SaysX 5 w mean mg mb 223 [.ref x, .int least t3] ((x, instObj 163 dx) :: (dx, octD k1 k2 t1 t2 td tp b p) :: rest) rest
      (fun news' v => p + 4 ≤ ks.length ∧ least ≤ word ks p.toNat ∧ word ks p.toNat ≤ word ks (p + 2).toNat ∧ ∃ l ta tb tp', (x < l ∧ dx < l ∧ AllLt l rest) ∧ v = .ref l ∧ news' = (l, ({ cls := .type "tuple", data := .seq #[.int (word ks p.toNat) ta, .int (word ks (p + 2).toNat) tb] } : Obj)) :: (x, instObj 163 dx) :: (dx, octD k1 k2 t1 t2 td tp' b (p + 4)) :: rest)
      (fun n => (n = p ∧ (ks.length < p + 2 ∨ word ks p.toNat < least)) ∨ (n = p + 2 ∧ p + 2 ≤ ks.length ∧ least ≤ word ks p.toNat ∧ (ks.length < p + 4 ∨ word ks (p + 2).toNat < word ks p.toNat)))} := ⟨_, fun H => by
  w_on
  intro w mean mg mb b ks p least x dx k1 k2 t1 t2 td tp t3 rest hk hz hp hp0 hl0 hl1 hxd hoff dp un gd cn cs a ccd cl outer A₀ base h₀ L m s Q E B F X N T hkk hdp hun hret hexc
  refine wpAny_call ?_
  k_dflt (refine' code_def ?k1 ?k2 ?k3 ?k4 ?k5 ?kA ?kF ?kK ?k6 ?k7 ?k8 ?k9 ?kB ?_ ?c2 ?c3 ?c4 ?c5; (case kA => exact rfl); (case kF => exact rfl); (case kK => assumption); (case k1 => k_asm); (case k2 => k_asm); (case k3 => k_asm); (case k4 => k_asm); (case k5 => k_asm); (case k6 => k_is); (case k7 => k_is); (case k8 => ktr_room); (case k9 => exact BindsTo.of_eq rfl); (case c5 => decide); (case kB => exact locs rfl); (case c2 => exact rfl); (case c3 => exact rfl); (case c4 => exact rfl); k_whole)
  intro g₁ L₁ h₁ FG' F' N' B' X' T'
  (try dsimp only)
  revert b ks p least x dx k1 k2 t1 t2 td tp t3 rest hk hz hp hp0 hl0 hl1 hxd hoff B F X N T hkk hdp hun hret hexc FG' F' N' B' X' T'
  exact H w mean mg mb dp un gd cn cs a ccd cl outer A₀ base h₀ L m s Q E g₁ L₁ h₁⟩
theorem spanX : ∃ e, spanS.1.on e → ∀ x, spanS.1.on x := ent_ex _
@[irreducible] noncomputable def spanK : Ent := Classical.choose spanX
theorem spanA : spanS.1.on spanK → ∀ x, spanS.1.on x := by
  unfold spanK
  exact Classical.choose_spec spanX
set_option maxRecDepth 100000 in
set_option maxHeartbeats 1000000 in
theorem spanC : spanS.1.on spanK := by
  w_on
  unfold EntP.on spanS
  dsimp only
  intro b ks p least x dx k1 k2 t1 t2 td tp t3 rest hk hz hp hp0 hl0 hl1 hxd hoff B F X N T hkk hdp hun hret hexc FG' F' N' B' X' T'
  have hw := word_lo hk
  have hw1 := hw p.toNat
  have hw2 := hw (p + 2).toNat
  (repeat' (first | (k_unfold; (try dsimp only)) | (k_end; wrow_close) | ((with_reducible show wpAny _ _ (exec _ _) _ _ _); (try dsimp only); with_reducible refine atT1 ?_; intro tk) | ((with_reducible show wpAny _ _ (binaryOp _ _ _) _ _ _); (try dsimp only); with_reducible refine atT1 ?_; intro tk) | ((k_here; (with_reducible show wpAny _ _ (call (Value.ref 61) _) _ _ _); k_dflt (refine tf_raise (by k_asm) (by k_asm) (by k_asm) (by k_asm) (by k_asm) rfl rfl rfl (by ktr_room) ?_); intro e' d' t' od' h' tk' F' N' hde' hne' hat'; (try k_sweep); (try dsimp only))) | ((with_reducible show wpAny _ _ (exec (PySem.Stmt.Raise _ _ _) _) _ _ _); (k_here; k_dflt (refine Raise_flt (w := spanK.w) rfl ?_))) | ((with_reducible show wpAny _ _ (leaving _ (Value.ref _)) _ _ _); (k_here; k_dflt (first | refine leaveF_on (by assumption) (by assumption) (by assumption) (by assumption) ?_ | refine leaveF_first (by assumption) (by assumption) (by assumption) (by assumption) (by assumption) (by assumption) ?_); intro h' hfly' hup'; (try dsimp only))) | ((k_here; (try dsimp only [List.append_nil, List.nil_append, List.cons_append]); (with_reducible show wpAny _ _ (call (Value.ref 120) _) _ _ _); k_dflt (refine sx_use (by k_asm) (by k_asm) (by k_asm) (by k_asm) (by k_asm) (by first | exact rfl | assumption) (u16_says _ _ _ _ _ _ _ _ _ _ _ _ _ _ _ _ (by assumption) (by omega) (by omega) (by omega) (by assumption) (off2 (by k_all) (by k_all))) (by ktr_room) (by ktr_units) ?_ ?_); k_dflt (rotate_left; intro e' n' g2' h' tk' FG2' hfly' hup' hX'; (try dsimp only); (rotate_left; intro nw' v' h' tk' F' N' hR'; obtain ⟨hsz', ⟨tp', hnw'⟩, t', hv'⟩ := hR'; subst hnw' hv'; (try k_sweep); (try dsimp only))))) | walk1 | (dsimp only; walk1) | (leave1; walk_say "STEP leave1"; try dsimp only) | fail "no step"))
  · exact hexc _ _ _ _ _ (by assumption) ((by assumption : FlyF _ _ _ _ _ _).less (fun p hp => .tail _ (.tail _ hp))) (by assumption) (.inl ⟨rfl, .inr (by assumption)⟩)
  · exact hexc _ _ _ _ _ (by assumption) ((by assumption : FlyF _ _ _ _ _ _).less (fun p hp => .tail _ (.tail _ hp))) (by assumption) (.inr ⟨rfl, by assumption, by omega, .inr (by assumption)⟩)
  · have e4 : p + 2 + 2 = p + 4 := by omega
    simp only [e4] at *
    exact hret _ _ _ _ (by assumption) (by assumption) ⟨by assumption, by omega, by omega, _, _, _, _, by assumption, rfl, rfl⟩
  · rename _ ∧ _ => hX2
    obtain ⟨rfl, hX3⟩ := hX2
    exact hexc _ _ _ _ _ (by assumption) ((by assumption : FlyF _ _ _ _ _ _).less (fun p hp => hp)) (by assumption) (.inr ⟨rfl, by assumption, by omega, .inl (by omega)⟩)
  · rename _ ∧ _ => hX2
    obtain ⟨rfl, hX3⟩ := hX2
    exact hexc _ _ _ _ _ (by assumption) ((by assumption : FlyF _ _ _ _ _ _).less (fun p hp => hp)) (by assumption) (.inl ⟨rfl, .inl hX3⟩)
set_option maxRecDepth 100000 in
set_option maxHeartbeats 1000000 in
theorem span_says (w : World) (mean mg mb) (b : Array UInt8) (ks : List Int) (p least : Int) (x dx : Addr) (k1 k2 : Int) (t1 t2 td tp t3 : Tok) (rest : List (Addr × Obj)) (hk : KBw.bInts b = ks) (hz : ks.length ≤ 900000) (hp : p ≤ 900000) (hp0 : 0 ≤ p) (hl0 : 0 ≤ least) (hl1 : least ≤ 65536) (hxd : x ≠ dx) (hoff : OwnOff rest [x, dx]) : SaysX 5 w mean mg mb 223 [.ref x, .int least t3] ((x, instObj 163 dx) :: (dx, octD k1 k2 t1 t2 td tp b p) :: rest) rest
      (fun news' v => p + 4 ≤ ks.length ∧ least ≤ word ks p.toNat ∧ word ks p.toNat ≤ word ks (p + 2).toNat ∧ ∃ l ta tb tp', (x < l ∧ dx < l ∧ AllLt l rest) ∧ v = .ref l ∧ news' = (l, ({ cls := .type "tuple", data := .seq #[.int (word ks p.toNat) ta, .int (word ks (p + 2).toNat) tb] } : Obj)) :: (x, instObj 163 dx) :: (dx, octD k1 k2 t1 t2 td tp' b (p + 4)) :: rest)
      (fun n => (n = p ∧ (ks.length < p + 2 ∨ word ks p.toNat < least)) ∨ (n = p + 2 ∧ p + 2 ≤ ks.length ∧ least ≤ word ks p.toNat ∧ (ks.length < p + 4 ∨ word ks (p + 2).toNat < word ks p.toNat))) := spanS.2 (EntP.all_of (spanA spanC)) w mean mg mb b ks p least x dx k1 k2 t1 t2 td tp t3 rest hk hz hp hp0 hl0 hl1 hxd hoff
end
end Mine
end
section
open PySem PySem.W PyProof.Rows
set_option maxRecDepth 100000
namespace Mine
theorem range_add1 (a : Int) (i : Nat) : rangeKs a (i + 1) = rangeKs a i ++ [a + (i : Int)] := by
  unfold rangeKs
  rw [List.range_succ, List.map_append]
  rfl
section
variable {prog : Program} {w : World} {A : Around} {E : Value → Shared → Prop} {s : Shared} {R : Result → Shared → Prop}
/-- list.extend's own loop, a range's iterator I behind the items ys -/
theorem ext_loop (hh : A.handled = none) {S I : Addr} (hSI : S ≠ I) {a : Int} {n : Nat} {ys : List Value} {res : Value} {h₁ : Heap} (hz : ys.length + n ≤ sizeLine)
    (hR : ∀ h' tk us c', (∀ b o, b ≠ S → b ≠ I → h₁.get? b = some o → h'.get? b = some o) → h'.get? S = some (listOf (ys ++ us).toArray c') → IntsAre us (rangeKs a n) → R (.ok (.ret res)) { s with heap := h', toks := tk }) :
    ∀ (k i : Nat) (us : List Value) (c tk : Nat) (h : Heap), n = i + k → IntsAre us (rangeKs a i) → IsRangeIter h I (a + i) k 1 → h.get? S = some (listOf (ys ++ us).toArray c) → (∀ b o, b ≠ S → b ≠ I → h₁.get? b = some o → h.get? b = some o) →
      codeAny (model prog w) A (.builtin "list.extend.loop" ⟨[.ref S, .ref I, res], []⟩) R { s with heap := h, toks := tk } := by
  intro k
  induction k with
  | zero =>
    intro i us c tk h e hi hit hS hk
    have e : n = i := e
    subst e
    refine codeAny_builtin PySem.F.entry_extend_loop ?_
    rw [Around.under_plainId PySem.F.plain_extend_loop _]
    show wpAny _ A.in1 (pyNext (.ref I) >>= _) _ _ _
    refine wpAny_bind (wpAny_pyNext_range_end hh hit (Int.le_refl _) fun h' hx => ?_)
    exact wpAny_pure (hR h' tk us c (fun b o hb hb' e => hx b o hb' (hk b o hb hb' e)) (hx S _ hSI hS) hi)
  | succ k ih =>
    intro i us c tk h e hi hit hS hk
    refine codeAny_builtin PySem.F.entry_extend_loop ?_
    rw [Around.under_plainId PySem.F.plain_extend_loop _]
    show wpAny _ A.in1 (pyNext (.ref I) >>= _) _ _ _
    refine wpAny_bind (wpAny_pyNext_range_item hit (by omega) fun h' hit' hx => ?_)
    have hS' : h'.get? S = some (listOf (ys ++ us).toArray c) := (hx.2 S hSI).trans hS
    show wpAny _ A.in1 (updateSeq S (·.push _) >>= _) _ _ _
    have hl : (ys ++ us).length = ys.length + i := by rw [List.length_append, hi.length, rangeKs_length]
    refine wpAny_bind (wpAny_updateSeq hS' rfl ?_ (by rw [List.size_toArray, hl]; omega) (by show ((ys ++ us).toArray.push _).size ≤ _; rw [Array.size_push, List.size_toArray, hl]; omega))
    refine wpAny_pure ⟨plainId_quiet PySem.F.plain_extend_loop _, ?_⟩
    refine ih (i + 1) (us ++ [.int (a + i) tk]) (c + 1) (tk + 1) _ (by omega) (by rw [range_add1]; exact ints_snoc hi _ _) ?_ ?_ ?_
    · refine (Heap.get?_update_other _ _ hSI).trans ?_
      have e1 : a + ((i + 1 : Nat) : Int) = a + (i : Int) + 1 := by omega
      have e2 : ((k : Nat) : Int) = ((k + 1 : Nat) : Int) - 1 := by omega
      rw [e1, e2]
      exact hit'
    · refine (Heap.get?_update_self _ hS' rfl).trans ?_
      show some (Obj.mapSeq _ (listOf _ _)) = _
      have e3 : Obj.mapSeq (fun x => x.push (.int (a + i) tk)) (listOf (ys ++ us).toArray c) = listOf ((ys ++ us).toArray.push (.int (a + i) tk)) (if ((ys ++ us).toArray.push (.int (a + i) tk)).size == (ys ++ us).toArray.size then c else c + 1) := rfl
      rw [e3, if_neg (by simp), List.push_toArray, List.append_assoc]
    · exact fun b o hb hb' e => (Heap.get?_update_other _ _ (Ne.symm hb)).trans ((hx.2 b hb').trans (hk b o hb hb' e))
end
section
variable {prog : Program} {w : World} {A : Around} {E : Value → Shared → Prop} {s : Shared} {h₀ : Heap} {L : Addr} {m : Str → Option Value}
theorem ext_range {D r : Addr} {a b : Int} {t u v : Tok} {ys : List Value} {c : Nat} {pre post : List (Addr × Obj)} {Q : Value → Shared → Prop} (hh : A.handled = none) (F : Fr h₀ L s.heap m) (N : News h₀ L s.heap (pre ++ (D, listOf ys.toArray c) :: post)) (hr : IsRange s.heap r a b 1 t u v)
    (hpre : ∀ p ∈ pre, p.1 ≠ D) (hpost : ∀ p ∈ post, p.1 ≠ D) (ha : -1000000 ≤ a) (hab : a ≤ b) (hb : b ≤ 1000000) (hz : ys.length ≤ 1000000)
    (h : ∀ h' tk us c', Fr h₀ L h' m → News h₀ L h' (pre ++ (D, listOf (ys ++ us).toArray c') :: post) → IntsAre us (rangeKs a (b - a).toNat) → Q .none { s with heap := h', toks := tk }) :
    wpAny (model prog w) A (call (.builtin "list.extend") [.ref D, .ref r]) Q E s := by
  have hm := N _ (List.mem_append.mpr (.inr (.head _)))
  have hS : s.heap.get? D = some (listOf ys.toArray c) := hm.1
  have hSr : D ≠ r := fun e => by
    have e2 := e ▸ hS
    rw [hr] at e2
    exact absurd (congrArg (fun o => o.map Obj.cls) e2) (by simp [W.listOf])
  have hsz : sizeLine = 16777216 := sizeLine_eq
  have hn : Builtin.Range.rangeSize a b 1 = ((b - a).toNat : Int) := rangeSize_nat a b
  have hsm : Builtin.Range.small a b 1 = true := small_one (by omega) (by omega) (by omega) (by omega)
  have hSI : D ≠ s.heap.objs.size := Nat.ne_of_lt (Heap.lt_size hS)
  refine wpAny_call (codeAny_call_builtin PySem.F.slot_list_extend.plain PySem.F.entry_list_extend (PySem.F.slot_list_extend.check _ _ _ _ _ _ _ _ ⟨_, hS, rfl⟩ (PySem.F.args_list_extend_2 _ _) ?_))
  show wpAny _ _ (Builtin.List.listExtendWith (.ref D) (.ref r) .none) _ _ s
  unfold Builtin.List.listExtendWith
  refine wpAny_bind (wpAny_typeOf (T := "range") ⟨_, hr, rfl⟩ ?_)
  have h1 : Builtin.List.listSameRef (.ref D) (.ref r) = false := by simp [Builtin.List.listSameRef, hSr]
  have h2 : (Value.type "range" == Value.type "list") = false := by decide
  have h3 : (Value.type "range" == Value.type "tuple") = false := by decide
  simp only [h1, h2, h3, Bool.or_false, Bool.false_eq_true, if_false]
  refine wpAny_bind (wpAny_pyIter_range hr hsm ?_)
  refine wpAny_bind (wpAny_holding (wpAny_hint_range (n := (b - a).toNat) (Heap.get?_push_of_some _ hr) hn (by omega) ?_))
  generalize hob : ({ cls := .type "range_iterator", data := .fields #[rawInt a, rawInt (Builtin.Range.rangeSize a b 1), rawInt 1] } : Obj) = ob
  have hit : IsRangeIter (s.heap.push ob) s.heap.objs.size (a + ((0 : Nat) : Int)) ((b - a).toNat : Int) 1 := by
    subst hob
    show IsRangeIter _ _ _ _ _
    rw [hn]
    simpa using Heap.get?_push_size _ rfl
  have hS₁ := Heap.get?_push_of_some ob hS
  have fin : ∀ (g : Heap) (c₁ tk : Nat), g.get? D = some (W.listOf (ys ++ []).toArray c₁) → IsRangeIter g s.heap.objs.size (a + ((0 : Nat) : Int)) ((b - a).toNat : Int) 1 → (∀ b o, b ≠ D → b ≠ s.heap.objs.size → s.heap.get? b = some o → g.get? b = some o) →
      codeAny (model prog w) A (.builtin "list.extend.loop" ⟨[.ref D, .ref s.heap.objs.size, .none], []⟩) (callEnd Q E) { s with heap := g, toks := tk } := by
    intro g c₁ tk hg hi hk
    refine ext_loop hh hSI (a := a) (n := (b - a).toNat) (ys := ys) (h₁ := s.heap) (by rw [hsz]; omega) ?_ (b - a).toNat 0 [] c₁ tk g (by omega) IntsAre.nil hi hg hk
    intro h' tk us c' hk' hD hi'
    have nI : ∀ b o, s.heap.get? b = some o → b ≠ s.heap.objs.size := fun b o e => Nat.ne_of_lt (Heap.lt_size e)
    have F' : Fr h₀ L h' m := ⟨F.ns.at fun o e => hk' L o (Ne.symm hm.2.1) (nI L o e) e, fun b o e => hk' b o (fun hb => by rw [hb, hm.2.2] at e; exact absurd e (by simp)) (nI b o (F.keep b o e)) (F.keep b o e), F.above⟩
    refine h h' tk us c' F' (fun p hp => ?_) hi'
    have off : ∀ q ∈ pre ++ (D, W.listOf ys.toArray c) :: post, q.1 ≠ D → h'.get? q.1 = some q.2 ∧ q.1 ≠ L ∧ h₀.get? q.1 = none := fun q hq hne =>
      ⟨hk' _ _ hne (nI _ _ (N q hq).1) (N q hq).1, (N q hq).2⟩
    rcases List.mem_append.mp hp with hp | hp
    · exact off p (List.mem_append.mpr (.inl hp)) (hpre p hp)
    · rcases List.mem_cons.mp hp with rfl | hp
      · exact ⟨hD, hm.2⟩
      · exact off p (List.mem_append.mpr (.inr (.tail _ hp))) (hpost p hp)
  have hl0 : ((ys ++ []).toArray : Array Value) = ys.toArray := by rw [List.append_nil]
  refine wpAny_ite_split (fun _ => ?_) (fun _ => wpAny_pure ⟨plainId_quiet PySem.F.plain_extend_loop _, fin _ c _ (by rw [hl0]; exact hS₁) (by subst hob; exact hit) (fun b o _ _ e => Heap.get?_push_of_some _ e)⟩)
  refine wpAny_bind (wpAny_rule ?_)
  refine wpAny_bind ?_
  show wpAny _ _ (updateSeq D (·.push .none) >>= fun _ => updateSeq D (·.pop)) _ _ _
  have hyz : ys.toArray.size ≤ 1000000 := by rw [List.size_toArray]; exact hz
  subst hob
  refine wpAny_bind (wpAny_updateSeq hS₁ rfl ?_ (by rw [hsz]; omega) (by rw [Array.size_push, hsz]; omega))
  have hS₂ := Heap.get?_update_self (Obj.mapSeq (·.push Value.none)) hS₁ rfl
  refine wpAny_updateSeq hS₂ rfl ?_ (by rw [Array.size_push, hsz]; omega) (by rw [Array.size_pop, Array.size_push, hsz]; omega)
  have hS₃ := Heap.get?_update_self (Obj.mapSeq (·.pop)) hS₂ rfl
  refine wpAny_pure ⟨plainId_quiet PySem.F.plain_extend_loop _, fin _ (c + 1 + 1) _ ?_ ?_ ?_⟩
  · rw [hl0]
    refine hS₃.trans ?_
    have e1 : Obj.mapSeq (·.pop) (Obj.mapSeq (·.push Value.none) (W.listOf ys.toArray c)) = W.listOf ((ys.toArray.push .none).pop) (if ((ys.toArray.push Value.none).pop).size == (ys.toArray.push Value.none).size then (if (ys.toArray.push Value.none).size == ys.toArray.size then c else c + 1) else (if (ys.toArray.push Value.none).size == ys.toArray.size then c else c + 1) + 1) := rfl
    rw [e1, Array.pop_push, Array.size_push, if_neg (by simp), if_neg (by simp)]
  · exact (Heap.get?_update_other _ _ hSI).trans ((Heap.get?_update_other _ _ hSI).trans hit)
  · exact fun b o hb _ e => (Heap.get?_update_other _ _ (Ne.symm hb)).trans ((Heap.get?_update_other _ _ (Ne.symm hb)).trans (Heap.get?_push_of_some _ e))
end
end Mine
end
section
open PySem PySem.W PyProof.Rows
namespace Mine
/-- the glyphs of format 2, n more ranges of them from p on -/
def spanSpec (ks : List Int) : Nat → Int → List Int → Except Int (List Int)
  | 0, _, found => .ok found
  | n + 1, p, found =>
    if ks.length < p + 2 ∨ word ks p.toNat ≤ found.getLastD (-1) then .error p
    else if ks.length < p + 4 ∨ word ks (p + 2).toNat < word ks p.toNat then .error (p + 2)
    else if ks.length < p + 6 ∨ word ks (p + 4).toNat ≠ found.length then .error (p + 4)
    else spanSpec ks n (p + 6) (found ++ rangeKs (word ks p.toNat) (word ks (p + 2).toNat + 1 - word ks p.toNat).toNat)
theorem span_one {ks : List Int} {n i : Nat} {cp : Int} {ns : List Int} {X : Except Int (List Int)} (h : i < n) (hs : spanSpec ks (n - i) cp ns = X) :
    (ks.length < cp + 2 ∨ word ks cp.toNat ≤ ns.getLastD (-1) → X = .error cp) ∧
    (¬ (ks.length < cp + 2 ∨ word ks cp.toNat ≤ ns.getLastD (-1)) → (ks.length < cp + 4 ∨ word ks (cp + 2).toNat < word ks cp.toNat → X = .error (cp + 2)) ∧
      (¬ (ks.length < cp + 4 ∨ word ks (cp + 2).toNat < word ks cp.toNat) → (ks.length < cp + 6 ∨ word ks (cp + 4).toNat ≠ ns.length → X = .error (cp + 4)) ∧
        (¬ (ks.length < cp + 6 ∨ word ks (cp + 4).toNat ≠ ns.length) → spanSpec ks (n - (i + 1)) (cp + 6) (ns ++ rangeKs (word ks cp.toNat) (word ks (cp + 2).toNat + 1 - word ks cp.toNat).toNat) = X))) := by
  have e : n - i = (n - (i + 1)) + 1 := by omega
  rw [e] at hs
  unfold spanSpec at hs
  refine ⟨fun h1 => ?_, fun h1 => ⟨fun h2 => ?_, fun h2 => ⟨fun h3 => ?_, fun h3 => ?_⟩⟩⟩
  · rw [if_pos h1] at hs; exact hs.symm
  · rw [if_neg h1, if_pos h2] at hs; exact hs.symm
  · rw [if_neg h1, if_neg h2, if_pos h3] at hs; exact hs.symm
  · rw [if_neg h1, if_neg h2, if_neg h3] at hs; exact hs
theorem range_last {ns : List Int} {a b d : Int} (h : a ≤ b) : (ns ++ rangeKs a (b + 1 - a).toNat).getLastD d = b := by
  have e : (b + 1 - a).toNat = (b - a).toNat + 1 := by omega
  rw [e, range_add1, ← List.append_assoc, List.getLastD_concat]
  omega
structure SpanS where
  p : Int
  tp : Tok
  vs : List Value
  ns : List Int
  ep : Nat
  least : Int
  tl : Tok
section
local macro_rules | `(tactic| k_all) => `(tactic| ((with_reducible refine List.forall_mem_append.mpr ⟨?_, ?_⟩) <;> k_all))
set_option maxRecDepth 100000 in
set_option maxHeartbeats 1000000 in
def spansS : {P : EntP // P.all → ∀ (w : World) (mean mg mb) (b : Array UInt8) (ks : List Int) (p : Int) (x dx : Addr) (k1 k2 : Int) (t1 t2 td tp : Tok) (rest : List (Addr × Obj)) (hk : KBw.bInts b = ks) (hz : ks.length ≤ 900000) (hp : p ≤ 900000) (hp0 : 0 ≤ p) (hxd : x ≠ dx) (hoff : OwnOff rest [x, dx]), SaysX 6 w mean mg mb 230 [.ref x] ((x, instObj 163 dx) :: (dx, octD k1 k2 t1 t2 td tp b p) :: rest) rest
      (fun news' v => p + 2 ≤ ks.length ∧ ∃ l vs ns n, v = .ref l ∧ IntsAre vs ns ∧ ns.length ≤ 65536 ∧ news' = (l, listOf vs.toArray n) :: rest ∧ spanSpec ks (word ks p.toNat).toNat (p + 2) [] = .ok ns)
      (fun n => (n = p ∧ ks.length < p + 2) ∨ (p + 2 ≤ ks.length ∧ spanSpec ks (word ks p.toNat).toNat (p + 2) [] = .error n))} := ⟨_, fun H => by
  w_on
  intro w mean mg mb b ks p x dx k1 k2 t1 t2 td tp rest hk hz hp hp0 hxd hoff dp un gd cn cs a ccd cl outer A₀ base h₀ L m s Q E B F X N T hkk hdp hun hret hexc
  refine wpAny_call ?_
  k_dflt (refine' code_def ?k1 ?k2 ?k3 ?k4 ?k5 ?kA ?kF ?kK ?k6 ?k7 ?k8 ?k9 ?kB ?_ ?c2 ?c3 ?c4 ?c5; (case kA => exact rfl); (case kF => exact rfl); (case kK => assumption); (case k1 => k_asm); (case k2 => k_asm); (case k3 => k_asm); (case k4 => k_asm); (case k5 => k_asm); (case k6 => k_is); (case k7 => k_is); (case k8 => ktr_room); (case k9 => exact BindsTo.of_eq rfl); (case c5 => decide); (case kB => exact locs rfl); (case c2 => exact rfl); (case c3 => exact rfl); (case c4 => exact rfl); k_whole)
  intro g₁ L₁ h₁ FG' F' N' B' X' T'
  (try dsimp only)
  revert b ks p x dx k1 k2 t1 t2 td tp rest hk hz hp hp0 hxd hoff B F X N T hkk hdp hun hret hexc FG' F' N' B' X' T'
  exact H w mean mg mb dp un gd cn cs a ccd cl outer A₀ base h₀ L m s Q E g₁ L₁ h₁⟩
theorem spansX : ∃ e, spansS.1.on e → ∀ x, spansS.1.on x := ent_ex _
@[irreducible] noncomputable def spansK : Ent := Classical.choose spansX
theorem spansA : spansS.1.on spansK → ∀ x, spansS.1.on x := by
  unfold spansK
  exact Classical.choose_spec spansX
set_option maxRecDepth 100000 in
set_option maxHeartbeats 1000000 in
theorem spansC : spansS.1.on spansK := by
  w_on
  unfold EntP.on spansS
  dsimp only
  intro b ks p x dx k1 k2 t1 t2 td tp rest hk hz hp hp0 hxd hoff B F X N T hkk hdp hun hret hexc FG' F' N' B' X' T'
  have hw := word_lo hk
  (repeat' (first | (k_unfold; (try dsimp only)) | (k_end; wrow_close) | ((with_reducible show wpAny _ _ (exec _ _) _ _ _); (try dsimp only); with_reducible refine atT1 ?_; intro tk) | ((with_reducible show wpAny _ _ (binaryOp _ _ _) _ _ _); (try dsimp only); with_reducible refine atT1 ?_; intro tk) | ((k_here; (try dsimp only [List.cons_append, List.nil_append]); (with_reducible show wpAny _ _ (call (Value.builtin _) [Value.ref _, Value.ref _]) _ _ _); k_dflt (refine ext_range (pre := [_, _, _]) rfl (by assumption) (by assumption) (by assumption) (by k_all) (by k_all) (by omega) (by omega) (by omega) (by omega) ?_); intro h' tk' us' c' F' N' hi'; (try dsimp only [List.cons_append, List.nil_append] at N'); (try k_sweep))) | ((with_reducible show wpAny _ _ (exec (PySem.Stmt.For (PySem.Expr.Name _ _) (PySem.Expr.Call _ _ _ _) _ _ _) _) _ _ _); (k_here; (rename Fr _ _ _ _ => lF'); (with_unfolding_all refine' For_invVF lF' ?k1 ?k2 ?_; (case k1 => exact rfl); (case k2 => exact rfl); k_whole))) | (((with_reducible show wpAny _ _ (pyIter (Value.ref _)) (fun it s₂ => LoopAtV _ _ _ _ _ _ _ _ _ it s₂) _ _); k_here; refine stop_here ?_)) | ((with_reducible show InvEndN _ _ _ _ _ _ _); (refine stop_here ?_)) | ((k_here; (with_reducible show wpAny _ _ (call (Value.ref 61) _) _ _ _); k_dflt (refine tf_raise (by k_asm) (by k_asm) (by k_asm) (by k_asm) (by k_asm) rfl rfl rfl (by ktr_room) ?_); intro e' d' t' od' h' tk' F' N' hde' hne' hat'; (try k_sweep); (try dsimp only))) | ((with_reducible show wpAny _ _ (exec (PySem.Stmt.Raise _ _ _) _) _ _ _); (k_here; k_dflt (refine Raise_flt (w := spansK.w) rfl ?_))) | ((with_reducible show wpAny _ _ (leaving _ (Value.ref _)) _ _ _); (k_here; k_dflt (first | refine leaveF_on (by assumption) (by assumption) (by assumption) (by assumption) ?_ | refine leaveF_first (by assumption) (by assumption) (by assumption) (by assumption) (by assumption) (by assumption) ?_); intro h' hfly' hup'; (try dsimp only))) | ((k_here; (try dsimp only [List.append_nil, List.nil_append, List.cons_append]); (with_reducible show wpAny _ _ (call (Value.ref 223) _) _ _ _); k_dflt (refine sx_use (by k_asm) (by k_asm) (by k_asm) (by k_asm) (by k_asm) (by first | exact rfl | assumption) (span_says _ _ _ _ _ _ _ _ _ _ _ _ _ _ _ _ _ _ (by assumption) (by omega) (by omega) (by omega) (by omega) (by omega) (by assumption) (off2 (by k_all) (by k_all))) (by ktr_room) (by ktr_units) ?_ ?_); k_dflt (rotate_left; intro e' n' g2' h' tk' FG2' hfly' hup' hX'; (try dsimp only); (rotate_left; intro nw' v' h' tk' F' N' hR'; obtain ⟨hsz', hle', hlf', ld', ta', tb', tp', hlt', hv', hnw'⟩ := hR'; subst hnw' hv'; simp only [AllLt] at hlt'; (try k_sweep); (try dsimp only))))) | ((k_here; (try dsimp only [List.append_nil, List.nil_append, List.cons_append]); (with_reducible show wpAny _ _ (call (Value.ref 120) _) _ _ _); k_dflt (first | refine sx_use (by k_asm) (by k_asm) (by k_asm) (by k_asm) (by k_asm) (by first | exact rfl | assumption) (u16_says _ _ _ _ _ _ _ _ _ _ _ _ _ _ _ _ (by assumption) (by omega) (by omega) (by omega) (by assumption) (off2 (by k_all) (by k_all))) (by ktr_room) (by ktr_units) ?_ ?_ | refine sx_use (by k_asm) (by k_asm) (by k_asm) (by k_asm) (by k_asm) (by first | exact rfl | assumption) (SaysX.of1 (u16_says _ _ _ _ _ _ _ _ _ _ _ _ _ _ _ _ (by assumption) (by omega) (by omega) (by omega) (by assumption) (off2 (by k_all) (by k_all)))) (by ktr_room) (by ktr_units) ?_ ?_); k_dflt (rotate_left; intro e' n' g2' h' tk' FG2' hfly' hup' hX'; (try dsimp only); (rotate_left; intro nw' v' h' tk' F' N' hR'; obtain ⟨hsz', ⟨tp', hnw'⟩, t', hv'⟩ := hR'; subst hnw' hv'; (try k_sweep); (try dsimp only))))) | walk1 | (dsimp only; walk1) | (leave1; walk_say "STEP leave1"; try dsimp only) | fail "no step"))
  · -- the loop
    unfold StopHere
    rename IsRange _ _ _ _ _ _ _ _ => rgX
    rename News _ _ _ _ => lN
    rename Fr _ _ _ _ => lF
    refine range_loop (σ := SpanS) (fun l c => [(x, instObj 163 dx), (dx, octD k1 k2 t1 t2 td c.tp b c.p), (l, listOf c.vs.toArray c.ep)] ++ rest) (fun l c => [("found", .ref l), ("least", .int c.least c.tl)]) (fun c => IntsAre c.vs c.ns) ["first", "last", "spot"]
      (fun i c => 0 ≤ c.p ∧ c.p ≤ ks.length ∧ c.least = c.ns.getLastD (-1) + 1 ∧ 0 ≤ c.least ∧ c.least ≤ 65536 ∧ c.ns.length ≤ c.least ∧ spanSpec ks ((word ks p.toNat).toNat - i) c.p c.ns = spanSpec ks (word ks p.toNat).toNat (p + 2) [])
      ⟨p + 2, _, [], [], 0, 0, _⟩ lF lN rgX rfl (hw p.toNat).1 (by have := hw p.toNat; omega) .nil (by kst_all) ?_ ?_ ?_
    · exact ⟨by show 0 ≤ p + 2; omega, by assumption, rfl, (by show (0 : Int) ≤ 0; decide), (by show (0 : Int) ≤ 65536; decide), (by show (0 : Int) ≤ 0; decide), by rw [Nat.sub_zero]⟩
    · intro c pre k t u h tk own hi hoff hf hp' F' N'
      obtain ⟨cp, ctp, cvs, cns, cep, cl0, ctl⟩ := c
      dsimp only at hf hp' F' N'
      obtain ⟨hc0, hcz, hcl, hc1, hc2, hc3, hcs⟩ := hp'
      clear lF lN rgX
      have kM := kstMark
      have hcw := hw cp.toNat
      have hcw2 := hw (cp + 2).toNat
      have hvl := hf.length
      have hsp := span_one (i := pre.length) (by omega) hcs
      (try dsimp only [kstB, List.map_cons, List.map_nil] at F' hoff)
      (try simp only [List.cons_append, List.nil_append, List.append_assoc, List.map_cons] at N' hoff)
      (try k_fold)
      (repeat' (first | (k_unfold; (try dsimp only)) | (k_end; wrow_close) | ((with_reducible show wpAny _ _ (exec _ _) _ _ _); (try dsimp only); with_reducible refine atT1 ?_; intro tk) | ((with_reducible show wpAny _ _ (binaryOp _ _ _) _ _ _); (try dsimp only); with_reducible refine atT1 ?_; intro tk) | ((k_here; (try dsimp only [List.cons_append, List.nil_append]); (with_reducible show wpAny _ _ (call (Value.builtin _) [Value.ref _, Value.ref _]) _ _ _); k_dflt (refine ext_range (pre := [_, _, _]) rfl (by assumption) (by assumption) (by assumption) (by k_all) (by k_all) (by omega) (by omega) (by omega) (by omega) ?_); intro h' tk' us' c' F' N' hi'; (try dsimp only [List.cons_append, List.nil_append] at N'); (try k_sweep))) | ((with_reducible show wpAny _ _ (exec (PySem.Stmt.For (PySem.Expr.Name _ _) (PySem.Expr.Call _ _ _ _) _ _ _) _) _ _ _); (k_here; (rename Fr _ _ _ _ => lF'); (with_unfolding_all refine' For_invVF lF' ?k1 ?k2 ?_; (case k1 => exact rfl); (case k2 => exact rfl); k_whole))) | (((with_reducible show wpAny _ _ (pyIter (Value.ref _)) (fun it s₂ => LoopAtV _ _ _ _ _ _ _ _ _ it s₂) _ _); k_here; refine stop_here ?_)) | ((with_reducible show InvEndN _ _ _ _ _ _ _); (refine stop_here ?_)) | ((k_here; (with_reducible show wpAny _ _ (call (Value.ref 61) _) _ _ _); k_dflt (refine tf_raise (by k_asm) (by k_asm) (by k_asm) (by k_asm) (by k_asm) rfl rfl rfl (by ktr_room) ?_); intro e' d' t' od' h' tk' F' N' hde' hne' hat'; (try k_sweep); (try dsimp only))) | ((with_reducible show wpAny _ _ (exec (PySem.Stmt.Raise _ _ _) _) _ _ _); (k_here; k_dflt (refine Raise_flt (w := spansK.w) rfl ?_))) | ((with_reducible show wpAny _ _ (leaving _ (Value.ref _)) _ _ _); (k_here; k_dflt (first | refine leaveF_on (by assumption) (by assumption) (by assumption) (by assumption) ?_ | refine leaveF_first (by assumption) (by assumption) (by assumption) (by assumption) (by assumption) (by assumption) ?_); intro h' hfly' hup'; (try dsimp only))) | ((k_here; (try dsimp only [List.append_nil, List.nil_append, List.cons_append]); (with_reducible show wpAny _ _ (call (Value.ref 223) _) _ _ _); k_dflt (refine sx_use (by k_asm) (by k_asm) (by k_asm) (by k_asm) (by k_asm) (by first | exact rfl | assumption) (span_says _ _ _ _ _ _ _ _ _ _ _ _ _ _ _ _ _ _ (by assumption) (by omega) (by omega) (by omega) (by omega) (by omega) (by assumption) (off2 (by k_all) (by k_all))) (by ktr_room) (by ktr_units) ?_ ?_); k_dflt (rotate_left; intro e' n' g2' h' tk' FG2' hfly' hup' hX'; (try dsimp only); (rotate_left; intro nw' v' h' tk' F' N' hR'; obtain ⟨hsz', hle', hlf', ld', ta', tb', tp', hlt', hv', hnw'⟩ := hR'; subst hnw' hv'; simp only [AllLt] at hlt'; (try k_sweep); (try dsimp only))))) | ((k_here; (try dsimp only [List.append_nil, List.nil_append, List.cons_append]); (with_reducible show wpAny _ _ (call (Value.ref 120) _) _ _ _); k_dflt (first | refine sx_use (by k_asm) (by k_asm) (by k_asm) (by k_asm) (by k_asm) (by first | exact rfl | assumption) (u16_says _ _ _ _ _ _ _ _ _ _ _ _ _ _ _ _ (by assumption) (by omega) (by omega) (by omega) (by assumption) (off2 (by k_all) (by k_all))) (by ktr_room) (by ktr_units) ?_ ?_ | refine sx_use (by k_asm) (by k_asm) (by k_asm) (by k_asm) (by k_asm) (by first | exact rfl | assumption) (SaysX.of1 (u16_says _ _ _ _ _ _ _ _ _ _ _ _ _ _ _ _ (by assumption) (by omega) (by omega) (by omega) (by assumption) (off2 (by k_all) (by k_all)))) (by ktr_room) (by ktr_units) ?_ ?_); k_dflt (rotate_left; intro e' n' g2' h' tk' FG2' hfly' hup' hX'; (try dsimp only); (rotate_left; intro nw' v' h' tk' F' N' hR'; obtain ⟨hsz', ⟨tp', hnw'⟩, t', hv'⟩ := hR'; subst hnw' hv'; (try k_sweep); (try dsimp only))))) | walk1 | (dsimp only; walk1) | (leave1; walk_say "STEP leave1"; try dsimp only) | fail "no step"))
      · exact hexc _ _ _ _ _ (by assumption) ((by assumption : FlyF _ _ _ _ _ _).less (fun p hp => .tail _ (.tail _ (.tail _ (.tail _ (List.mem_append.mpr (.inl hp))))))) (by assumption) (.inr ⟨by assumption, ((hsp.2 (by omega)).2 (by omega)).1 (.inr (by assumption))⟩)
      · unfold StopHere
        rename IntsAre _ (rangeKs _ _) => hr2
        rename News _ _ _ _ => nE
        refine kst_end ⟨cp + 4 + 2, _, _, _, _, word ks (cp + 2).toNat + 1, _⟩ (by assumption) nE (by first | kst_in | kst_inAny) (by first | (intro p hp; kst_mem) | kst_anyIn) (by rfl) ((by assumption : IntsAre cvs cns).append hr2) (by kst_all) (by kst_same) ?_
        have e6 : cp + 4 + 2 = cp + 6 := by omega
        have hlen : ((cns ++ rangeKs (word ks cp.toNat) (word ks (cp + 2).toNat + 1 - word ks cp.toNat).toNat).length : Int) = cns.length + (word ks (cp + 2).toNat + 1 - word ks cp.toNat) := by rw [List.length_append, rangeKs_length]; omega
        refine ⟨(by show 0 ≤ cp + 4 + 2; omega), (by assumption), (by show _ = List.getLastD (_ ++ rangeKs _ _) _ + 1; rw [range_last (by omega)]), (by show 0 ≤ word ks (cp + 2).toNat + 1; omega), (by show word ks (cp + 2).toNat + 1 ≤ 65536; omega), (by show ((cns ++ rangeKs _ _).length : Int) ≤ word ks (cp + 2).toNat + 1; omega), ?_⟩
        rw [List.length_append]
        show spanSpec ks _ (cp + 4 + 2) _ = _
        rw [e6]
        exact ((hsp.2 (by omega)).2 (by omega)).2 (by omega)
      · rename _ ∧ _ => hX2
        obtain ⟨rfl, hX3⟩ := hX2
        exact hexc _ _ _ _ _ (by assumption) ((by assumption : FlyF _ _ _ _ _ _).less (fun p hp => .tail _ (.tail _ (List.mem_append.mpr (.inl hp))))) (by assumption) (.inr ⟨by assumption, ((hsp.2 (by omega)).2 (by omega)).1 (.inl (by omega))⟩)
      · rename _ ∨ _ => hX2
        refine hexc _ _ _ _ _ (by assumption) ((by assumption : FlyF _ _ _ _ _ _).less (fun p hp => .tail _ (List.mem_append.mpr (.inl hp)))) (by assumption) (.inr ⟨by assumption, ?_⟩)
        rcases hX2 with ⟨rfl, hX3⟩ | ⟨rfl, h5, h6, hX3⟩
        · exact hsp.1 (by omega)
        · exact (hsp.2 (by omega)).1 hX3
    · intro c u h tk hf hp' F' N'
      obtain ⟨cp, ctp, cvs, cns, cep, cl0, ctl⟩ := c
      dsimp only at hf hp' F' N'
      obtain ⟨hc0, hcz, hcl, hc1, hc2, hc3, hcs⟩ := hp'
      clear lF lN rgX
      have kM := kstMark
      (try dsimp only [kstB, List.map_cons, List.map_nil] at F')
      (try simp only [List.cons_append, List.nil_append, List.append_assoc] at N')
      (try k_fold)
      (repeat' (first | (k_unfold; (try dsimp only)) | (k_end; wrow_close) | ((with_reducible show wpAny _ _ (exec _ _) _ _ _); (try dsimp only); with_reducible refine atT1 ?_; intro tk) | ((with_reducible show wpAny _ _ (binaryOp _ _ _) _ _ _); (try dsimp only); with_reducible refine atT1 ?_; intro tk) | ((k_here; (try dsimp only [List.cons_append, List.nil_append]); (with_reducible show wpAny _ _ (call (Value.builtin _) [Value.ref _, Value.ref _]) _ _ _); k_dflt (refine ext_range (pre := [_, _, _]) rfl (by assumption) (by assumption) (by assumption) (by k_all) (by k_all) (by omega) (by omega) (by omega) (by omega) ?_); intro h' tk' us' c' F' N' hi'; (try dsimp only [List.cons_append, List.nil_append] at N'); (try k_sweep))) | ((with_reducible show wpAny _ _ (exec (PySem.Stmt.For (PySem.Expr.Name _ _) (PySem.Expr.Call _ _ _ _) _ _ _) _) _ _ _); (k_here; (rename Fr _ _ _ _ => lF'); (with_unfolding_all refine' For_invVF lF' ?k1 ?k2 ?_; (case k1 => exact rfl); (case k2 => exact rfl); k_whole))) | (((with_reducible show wpAny _ _ (pyIter (Value.ref _)) (fun it s₂ => LoopAtV _ _ _ _ _ _ _ _ _ it s₂) _ _); k_here; refine stop_here ?_)) | ((with_reducible show InvEndN _ _ _ _ _ _ _); (refine stop_here ?_)) | ((k_here; (with_reducible show wpAny _ _ (call (Value.ref 61) _) _ _ _); k_dflt (refine tf_raise (by k_asm) (by k_asm) (by k_asm) (by k_asm) (by k_asm) rfl rfl rfl (by ktr_room) ?_); intro e' d' t' od' h' tk' F' N' hde' hne' hat'; (try k_sweep); (try dsimp only))) | ((with_reducible show wpAny _ _ (exec (PySem.Stmt.Raise _ _ _) _) _ _ _); (k_here; k_dflt (refine Raise_flt (w := spansK.w) rfl ?_))) | ((with_reducible show wpAny _ _ (leaving _ (Value.ref _)) _ _ _); (k_here; k_dflt (first | refine leaveF_on (by assumption) (by assumption) (by assumption) (by assumption) ?_ | refine leaveF_first (by assumption) (by assumption) (by assumption) (by assumption) (by assumption) (by assumption) ?_); intro h' hfly' hup'; (try dsimp only))) | ((k_here; (try dsimp only [List.append_nil, List.nil_append, List.cons_append]); (with_reducible show wpAny _ _ (call (Value.ref 223) _) _ _ _); k_dflt (refine sx_use (by k_asm) (by k_asm) (by k_asm) (by k_asm) (by k_asm) (by first | exact rfl | assumption) (span_says _ _ _ _ _ _ _ _ _ _ _ _ _ _ _ _ _ _ (by assumption) (by omega) (by omega) (by omega) (by omega) (by omega) (by assumption) (off2 (by k_all) (by k_all))) (by ktr_room) (by ktr_units) ?_ ?_); k_dflt (rotate_left; intro e' n' g2' h' tk' FG2' hfly' hup' hX'; (try dsimp only); (rotate_left; intro nw' v' h' tk' F' N' hR'; obtain ⟨hsz', hle', hlf', ld', ta', tb', tp', hlt', hv', hnw'⟩ := hR'; subst hnw' hv'; simp only [AllLt] at hlt'; (try k_sweep); (try dsimp only))))) | ((k_here; (try dsimp only [List.append_nil, List.nil_append, List.cons_append]); (with_reducible show wpAny _ _ (call (Value.ref 120) _) _ _ _); k_dflt (first | refine sx_use (by k_asm) (by k_asm) (by k_asm) (by k_asm) (by k_asm) (by first | exact rfl | assumption) (u16_says _ _ _ _ _ _ _ _ _ _ _ _ _ _ _ _ (by assumption) (by omega) (by omega) (by omega) (by assumption) (off2 (by k_all) (by k_all))) (by ktr_room) (by ktr_units) ?_ ?_ | refine sx_use (by k_asm) (by k_asm) (by k_asm) (by k_asm) (by k_asm) (by first | exact rfl | assumption) (SaysX.of1 (u16_says _ _ _ _ _ _ _ _ _ _ _ _ _ _ _ _ (by assumption) (by omega) (by omega) (by omega) (by assumption) (off2 (by k_all) (by k_all)))) (by ktr_room) (by ktr_units) ?_ ?_); k_dflt (rotate_left; intro e' n' g2' h' tk' FG2' hfly' hup' hX'; (try dsimp only); (rotate_left; intro nw' v' h' tk' F' N' hR'; obtain ⟨hsz', ⟨tp', hnw'⟩, t', hv'⟩ := hR'; subst hnw' hv'; (try k_sweep); (try dsimp only))))) | walk1 | (dsimp only; walk1) | (leave1; walk_say "STEP leave1"; try dsimp only) | fail "no step"))
      rename News _ _ _ _ => lN2
      refine hret _ _ _ _ (by assumption) (fun q hq => lN2 q (.tail _ (.tail _ hq))) ⟨by assumption, _, _, _, _, rfl, hf, by omega, rfl, (by rw [← hcs, Nat.sub_self]; rfl)⟩
  · rename _ ∧ _ => hX2
    obtain ⟨rfl, hX3⟩ := hX2
    exact hexc _ _ _ _ _ (by assumption) ((by assumption : FlyF _ _ _ _ _ _).less (fun p hp => .tail _ hp)) (by assumption) (.inl ⟨rfl, hX3⟩)
set_option maxRecDepth 100000 in
set_option maxHeartbeats 1000000 in
theorem spans_says (w : World) (mean mg mb) (b : Array UInt8) (ks : List Int) (p : Int) (x dx : Addr) (k1 k2 : Int) (t1 t2 td tp : Tok) (rest : List (Addr × Obj)) (hk : KBw.bInts b = ks) (hz : ks.length ≤ 900000) (hp : p ≤ 900000) (hp0 : 0 ≤ p) (hxd : x ≠ dx) (hoff : OwnOff rest [x, dx]) : SaysX 6 w mean mg mb 230 [.ref x] ((x, instObj 163 dx) :: (dx, octD k1 k2 t1 t2 td tp b p) :: rest) rest
      (fun news' v => p + 2 ≤ ks.length ∧ ∃ l vs ns n, v = .ref l ∧ IntsAre vs ns ∧ ns.length ≤ 65536 ∧ news' = (l, listOf vs.toArray n) :: rest ∧ spanSpec ks (word ks p.toNat).toNat (p + 2) [] = .ok ns)
      (fun n => (n = p ∧ ks.length < p + 2) ∨ (p + 2 ≤ ks.length ∧ spanSpec ks (word ks p.toNat).toNat (p + 2) [] = .error n)) := spansS.2 (EntP.all_of (spansA spansC)) w mean mg mb b ks p x dx k1 k2 t1 t2 td tp rest hk hz hp hp0 hxd hoff
end
end Mine
end
section
open PySem PySem.W PyProof.Rows
namespace Mine
/-- what stands at an offset -/
def covSpec (ks : List Int) (at' : Int) : Except Int (List Int) :=
  if ks.length < at' + 2 then .error at'
  else if word ks at'.toNat = 1 then (if ks.length < at' + 4 then .error (at' + 2) else ascSpec ks (word ks (at' + 2).toNat).toNat (at' + 4) [])
  else if word ks at'.toNat = 2 then (if ks.length < at' + 4 then .error (at' + 2) else spanSpec ks (word ks (at' + 2).toNat).toNat (at' + 4) [])
  else .error at'
theorem cov_asc {ks : List Int} {p : Int} (h1 : p + 2 ≤ ks.length) (h2 : word ks p.toNat = 1) :
    (ks.length < p + 2 + 2 → covSpec ks p = .error (p + 2)) ∧ (p + 2 + 2 ≤ ks.length → covSpec ks p = ascSpec ks (word ks (p + 2).toNat).toNat (p + 2 + 2) []) := by
  have e : p + 2 + 2 = p + 4 := by omega
  unfold covSpec
  rw [if_neg (by omega), if_pos h2, e]
  exact ⟨fun h => by rw [if_pos h], fun h => by rw [if_neg (by omega)]⟩
theorem cov_span {ks : List Int} {p : Int} (h1 : p + 2 ≤ ks.length) (h2 : word ks p.toNat = 2) :
    (ks.length < p + 2 + 2 → covSpec ks p = .error (p + 2)) ∧ (p + 2 + 2 ≤ ks.length → covSpec ks p = spanSpec ks (word ks (p + 2).toNat).toNat (p + 2 + 2) []) := by
  have e : p + 2 + 2 = p + 4 := by omega
  unfold covSpec
  rw [if_neg (by omega), if_neg (by omega), if_pos h2, e]
  exact ⟨fun h => by rw [if_pos h], fun h => by rw [if_neg (by omega)]⟩
theorem cov_short {ks : List Int} {p : Int} (h1 : ks.length < p + 2) : covSpec ks p = .error p := by
  unfold covSpec
  rw [if_pos h1]
theorem cov_other {ks : List Int} {p : Int} (h1 : p + 2 ≤ ks.length) (h2 : word ks p.toNat ≠ 1) (h3 : word ks p.toNat ≠ 2) : covSpec ks p = .error p := by
  unfold covSpec
  rw [if_neg (by omega), if_neg h2, if_neg h3]
theorem drop4 {h₀ h : Heap} {L : Addr} {a b c d : Addr × Obj} {rest : List (Addr × Obj)} (N : News h₀ L h (a :: b :: c :: d :: rest)) : News h₀ L h (a :: b :: c :: rest) := fun q hq => N q (by
  simp only [List.mem_cons] at hq ⊢
  rcases hq with h | h | h | h <;> simp [h])
theorem cls_off {own : List (Addr × Obj)} {x d : Addr} (h1 : ∀ p ∈ own, p.1 < d) (h2 : d < x) : OwnOff own [x, d] :=
  off2 (fun p hp => Nat.ne_of_lt (Nat.lt_trans (h1 p hp) h2)) (fun p hp => Nat.ne_of_lt (h1 p hp))
section
local macro_rules | `(tactic| k_all) => `(tactic| ((with_reducible refine List.forall_mem_append.mpr ⟨?_, ?_⟩) <;> k_all))
set_option maxRecDepth 100000 in
set_option maxHeartbeats 1000000 in
def covS : {P : EntP // P.all → ∀ (w : World) (mean mg mb) (b : Array UInt8) (ks : List Int) (p : Int) (t1 t2 : Tok) (rest : List (Addr × Obj)) (hk : KBw.bInts b = ks) (hz : ks.length ≤ 900000) (hp : p ≤ 800000) (hp0 : 0 ≤ p), SaysX 7 w mean mg mb 237 [.bytes b t1, .int p t2] rest rest
      (fun news' v => ∃ o dO l vs ns k tk, v = .ref o ∧ IntsAre vs ns ∧ ns.length ≤ 65536 ∧ news' = (o, instObj 205 dO) :: (dO, dictOf [⟨k, .str "glyphs" tk, .ref l⟩] 1) :: (l, ({ cls := .type "tuple", data := .seq vs.toArray } : Obj)) :: rest ∧ covSpec ks p = .ok ns)
      (fun n => covSpec ks p = .error n)} := ⟨_, fun H => by
  w_on
  intro w mean mg mb b ks p t1 t2 rest hk hz hp hp0 dp un gd cn cs a ccd cl outer A₀ base h₀ L m s Q E B F X N T hkk hdp hun hret hexc
  refine wpAny_call ?_
  k_dflt (refine' code_def ?k1 ?k2 ?k3 ?k4 ?k5 ?kA ?kF ?kK ?k6 ?k7 ?k8 ?k9 ?kB ?_ ?c2 ?c3 ?c4 ?c5; (case kA => exact rfl); (case kF => exact rfl); (case kK => assumption); (case k1 => k_asm); (case k2 => k_asm); (case k3 => k_asm); (case k4 => k_asm); (case k5 => k_asm); (case k6 => k_is); (case k7 => k_is); (case k8 => ktr_room); (case k9 => exact BindsTo.of_eq rfl); (case c5 => decide); (case kB => exact locs rfl); (case c2 => exact rfl); (case c3 => exact rfl); (case c4 => exact rfl); k_whole)
  intro g₁ L₁ h₁ FG' F' N' B' X' T'
  (try dsimp only)
  revert b ks p t1 t2 rest hk hz hp hp0 B F X N T hkk hdp hun hret hexc FG' F' N' B' X' T'
  exact H w mean mg mb dp un gd cn cs a ccd cl outer A₀ base h₀ L m s Q E g₁ L₁ h₁⟩
theorem covX : ∃ e, covS.1.on e → ∀ x, covS.1.on x := ent_ex _
@[irreducible] noncomputable def covK : Ent := Classical.choose covX
theorem covA : covS.1.on covK → ∀ x, covS.1.on x := by
  unfold covK
  exact Classical.choose_spec covX
set_option maxRecDepth 100000 in
set_option maxHeartbeats 1000000 in
theorem covC : covS.1.on covK := by
  w_on
  unfold EntP.on covS
  dsimp only
  intro b ks p t1 t2 rest hk hz hp hp0 B F X N T hkk hdp hun hret hexc FG' F' N' B' X' T'
  have hw := word_lo hk
  (repeat' (first | (k_unfold; (try dsimp only)) | (k_end; wrow_close) | ((with_reducible show wpAny _ _ (exec _ _) _ _ _); (try dsimp only); with_reducible refine atT1 ?_; intro tk) | ((with_reducible show wpAny _ _ (binaryOp _ _ _) _ _ _); (try dsimp only); with_reducible refine atT1 ?_; intro tk) | ((k_here; (with_reducible show wpAny _ _ (call (Value.ref 205) _) _ _ _); k_dflt (refine call_cls (by k_asm) (by k_asm) (by k_asm) (by k_is) (by k_is) (by k_is) ?_); intro x' d' h' F' N' l1 l2; have l3 := cls_off l1 l2; have l4 := Ne.symm (Nat.ne_of_lt l2); (try k_lt l1); (try k_lt2 l2); (try k_sweep); k_dflt (refine code_def (by k_asm) (by k_asm) (by k_asm) (by k_asm) (by k_asm) rfl rfl rfl (by k_is) (by k_is) (by ktr_room) (by first | exact BindsTo.of_eq rfl | exact binds_K (by k_in) rfl (by k_is) rfl rfl rfl) (locs rfl) ?_ rfl rfl rfl (by decide)); intro g' L' h' FG' F' N' B' X' T'; (try dsimp only); (try k_lift B'); (try k_fold))) | ((k_here; (with_reducible show wpAny _ _ (call (Value.ref 163) _) _ _ _); k_dflt (refine call_cls (by k_asm) (by k_asm) (by k_asm) (by k_is) (by k_is) (by k_is) ?_); intro x' d' h' F' N' l1 l2; have l3 := cls_off l1 l2; have l4 := Ne.symm (Nat.ne_of_lt l2); (try k_lt l1); (try k_lt2 l2); (try k_sweep); k_dflt (refine code_def (by k_asm) (by k_asm) (by k_asm) (by k_asm) (by k_asm) rfl rfl rfl (by k_is) (by k_is) (by ktr_room) (by first | exact BindsTo.of_eq rfl | exact binds_K (by k_in) rfl (by k_is) rfl rfl rfl) (locs rfl) ?_ rfl rfl rfl (by decide)); intro g' L' h' FG' F' N' B' X' T'; (try dsimp only); (try k_lift B'); (try k_fold))) | ((k_here; (with_reducible show wpAny _ _ (call (Value.ref 230) _) _ _ _); k_dflt (refine sx_use (by k_asm) (by k_asm) (by k_asm) (by k_asm) (by k_asm) (by first | exact rfl | assumption) (spans_says _ _ _ _ _ _ _ _ _ _ _ _ _ _ _ _ (by assumption) (by omega) (by omega) (by omega) (by assumption) (by assumption)) (by ktr_room) (by ktr_units) ?_ ?_); k_dflt (rotate_left; intro e' n' g2' h' tk' FG2' hfly' hup' hX'; (try dsimp only); (rotate_left; intro nw' v' h' tk' F' N' hR'; obtain ⟨hsz', l', vs', ns', c', hv', hI', hlen', hnw', hsp'⟩ := hR'; subst hnw' hv'; (try k_sweep); (try dsimp only))))) | ((k_here; (with_reducible show wpAny _ _ (call (Value.ref 216) _) _ _ _); k_dflt (refine sx_use (by k_asm) (by k_asm) (by k_asm) (by k_asm) (by k_asm) (by first | exact rfl | assumption) (asc_says _ _ _ _ _ _ _ _ _ _ _ _ _ _ _ _ (by assumption) (by omega) (by omega) (by omega) (by assumption) (by assumption)) (by ktr_room) (by ktr_units) ?_ ?_); k_dflt (rotate_left; intro e' n' g2' h' tk' FG2' hfly' hup' hX'; (try dsimp only); (rotate_left; intro nw' v' h' tk' F' N' hR'; obtain ⟨hsz', l', vs', ns', c', hv', hI', hlen', hnw', hsp'⟩ := hR'; subst hnw' hv'; (try k_sweep); (try dsimp only))))) | ((k_here; (with_reducible show wpAny _ _ (call (Value.ref 61) _) _ _ _); k_dflt (refine tf_raise (by k_asm) (by k_asm) (by k_asm) (by k_asm) (by k_asm) rfl rfl rfl (by ktr_room) ?_); intro e' d' t' od' h' tk' F' N' hde' hne' hat'; (try k_sweep); (try dsimp only))) | ((with_reducible show wpAny _ _ (exec (PySem.Stmt.Raise _ _ _) _) _ _ _); (k_here; k_dflt (refine Raise_flt (w := covK.w) rfl ?_))) | ((with_reducible show wpAny _ _ (leaving _ (Value.ref _)) _ _ _); (k_here; k_dflt (first | refine leaveF_on (by assumption) (by assumption) (by assumption) (by assumption) ?_ | refine leaveF_first (by assumption) (by assumption) (by assumption) (by assumption) (by assumption) (by assumption) ?_); intro h' hfly' hup'; (try dsimp only))) | ((k_here; (try dsimp only [List.append_nil, List.nil_append, List.cons_append]); (with_reducible show wpAny _ _ (call (Value.ref 120) _) _ _ _); k_dflt (refine sx_use (by k_asm) (by k_asm) (by k_asm) (by k_asm) (by k_asm) (by first | exact rfl | assumption) (u16_says _ _ _ _ _ _ _ _ _ _ _ _ _ _ _ _ (by assumption) (by omega) (by omega) (by omega) (by assumption) (by first | assumption | exact off2 (by k_all) (by k_all))) (by ktr_room) (by ktr_units) ?_ ?_); k_dflt (rotate_left; intro e' n' g2' h' tk' FG2' hfly' hup' hX'; (try dsimp only); (rotate_left; intro nw' v' h' tk' F' N' hR'; obtain ⟨hsz', ⟨tp', hnw'⟩, t', hv'⟩ := hR'; subst hnw' hv'; (try k_sweep); (try dsimp only))))) | walk1 | (dsimp only; walk1) | (leave1; walk_say "STEP leave1"; try dsimp only) | fail "no step"))
  · rename News _ _ _ _ => lN2
    exact hret _ _ _ _ (by assumption) (drop4 lN2) ⟨_, _, _, _, _, _, _, rfl, by assumption, by omega, rfl, (by rw [(cov_asc (by assumption) (by assumption)).2 (by assumption)]; assumption)⟩
  · rename _ ∨ _ => hX2
    refine hexc _ _ _ _ _ (by assumption) ((by assumption : FlyF _ _ _ _ _ _).less (fun p hp => hp)) (by assumption) ?_
    rcases hX2 with ⟨rfl, hX3⟩ | ⟨hX3, hX4⟩
    · exact (cov_asc (by assumption) (by assumption)).1 hX3
    · rw [(cov_asc (by assumption) (by assumption)).2 hX3]; exact hX4
  · rename News _ _ _ _ => lN2
    exact hret _ _ _ _ (by assumption) (drop4 lN2) ⟨_, _, _, _, _, _, _, rfl, by assumption, by omega, rfl, (by rw [(cov_span (by assumption) (by assumption)).2 (by assumption)]; assumption)⟩
  · rename _ ∨ _ => hX2
    refine hexc _ _ _ _ _ (by assumption) ((by assumption : FlyF _ _ _ _ _ _).less (fun p hp => hp)) (by assumption) ?_
    rcases hX2 with ⟨rfl, hX3⟩ | ⟨hX3, hX4⟩
    · exact (cov_span (by assumption) (by assumption)).1 hX3
    · rw [(cov_span (by assumption) (by assumption)).2 hX3]; exact hX4
  · exact hexc _ _ _ _ _ (by assumption) ((by assumption : FlyF _ _ _ _ _ _).less (fun p hp => .tail _ (.tail _ hp))) (by assumption) (cov_other (by assumption) (by assumption) (by assumption))
  · rename _ ∧ _ => hX2
    obtain ⟨rfl, hX3⟩ := hX2
    exact hexc _ _ _ _ _ (by assumption) ((by assumption : FlyF _ _ _ _ _ _).less (fun p hp => hp)) (by assumption) (cov_short hX3)
set_option maxRecDepth 100000 in
set_option maxHeartbeats 1000000 in
theorem cov_says (w : World) (mean mg mb) (b : Array UInt8) (ks : List Int) (p : Int) (t1 t2 : Tok) (rest : List (Addr × Obj)) (hk : KBw.bInts b = ks) (hz : ks.length ≤ 900000) (hp : p ≤ 800000) (hp0 : 0 ≤ p) : SaysX 7 w mean mg mb 237 [.bytes b t1, .int p t2] rest rest
      (fun news' v => ∃ o dO l vs ns k tk, v = .ref o ∧ IntsAre vs ns ∧ ns.length ≤ 65536 ∧ news' = (o, instObj 205 dO) :: (dO, dictOf [⟨k, .str "glyphs" tk, .ref l⟩] 1) :: (l, ({ cls := .type "tuple", data := .seq vs.toArray } : Obj)) :: rest ∧ covSpec ks p = .ok ns)
      (fun n => covSpec ks p = .error n) := covS.2 (EntP.all_of (covA covC)) w mean mg mb b ks p t1 t2 rest hk hz hp hp0
end
end Mine
end
section
open PySem PySem.W PySem.Calls PyProof.Rows
set_option maxRecDepth 100000
namespace Mine
section
variable {prog : Program} {w : World} {A A₀ : Around} {s : Shared} {K : Frag} {L f : Addr} {h₀ base : Heap} {m mg mb : Str → Option Value} {news : List (Addr × Obj)} {p : Program} {loose : List Str} {mean : ExcName → Option Value}
/-- a def is entered; what comes after is asked as it is, the way back over a ledger is at hand -/
theorem code_try {env : Env} {outer : List Env} {R : Result → Shared → Prop} {name qual : Str} {params : Arguments} {body : List Stmt} {scope : Scope} {dV kV doc pm cdv ct oc : Value} {an od : Option Addr} {osl : Array (Option Value)} {args : Args} {binds : List (Str × Value)}
    (B : Below A₀ base outer h₀) (F : Fr h₀ L s.heap m) (X₀ : K.In h₀) (N : News h₀ L s.heap news) (T : Top p loose mean mg mb h₀) (hA : A.frames = some (env :: outer)) (hf : env.frame = some L) (hke : env.scope.kind = .function)
    (ho : K.lookup f = some ⟨oc, od, .func (fnOf name qual params body scope dV kV doc pm an cdv ct), osl⟩) (hcd : codeIn K cdv qual = true) (hroom : A.depth < recursionLimit)
    (hbind : BindsTo s (fnOf name qual params body scope dV kV doc pm an cdv ct) args binds) (hloc : ∀ y ∈ binds, scope.names.lookup y.1 = some .local)
    (h : ∀ g L' h₁, Fr h₀ L g m → Fr g L' h₁ (fun y => binds.reverse.lookup y) → News g L' h₁ news → Below A base (env :: outer) g → K.In g → Top p loose mean mg mb g → (∀ q ∈ news, q.1 < L') → (∀ v s', LeaveK h₀ L m g R v s' → R (.ok (.ret v)) s') →
      wpAny (model prog w) (A.deeper (envOf qual scope L' f cdv)) (execs body (envOf qual scope L' f cdv))
        (fun fl s' => R (.ok (.ret (match fl with | .ret v => v | _ => .none))) s')
        (fun e s' => wpAny (model prog w) (A.deeper (envOf qual scope L' f cdv)) (leaving (envOf qual scope L' f cdv) e) (fun _ s'' => R (.error e) s'') (fun e' s'' => R (.error e') s'') s')
        { s with heap := h₁, toks := s.toks + binds.length })
    (hco : scope.isCoroutine = false) (hgen : scope.isGenerator = false) (hk : scope.kind = .function) (hcell : ∀ x ∈ scope.names, x.2 ≠ .cell) : codeAny (model prog w) A (.call (.ref f) args) R s := by
  obtain ⟨FG, BG, st, lv⟩ := groundX (R := R) B F N hA hf hke
  refine codeAny_call_def (fd := fnX name qual params body scope [] dV kV doc pm an cdv ct) (body := body) (binds := binds) hroom ((X₀.keeps F.keep) _ _ ho) rfl (T.nolimit.keeps F.keep) (codeRec_of (X₀.keeps F.keep) hcd) rfl hbind hcell hloc (fun h₁ hns hk₁ => ?_) hco hgen hk
  exact h _ s.heap.objs.size h₁ FG ⟨hns, fun b o e => hk₁ b o (of_hideAll _ e), Nat.le_of_eq (hideAll_size _ _)⟩
    (fun p hp => ⟨hk₁ _ _ (N p hp).1, Nat.ne_of_lt (Heap.lt_size (N p hp).1), hideAll_none _ (List.mem_map_of_mem hp)⟩) BG (X₀.keeps st) (T.keeps st) (fun q hq => Heap.lt_size (N q hq).1) lv
end
end Mine
end
section
open PySem PySem.W
open PySem.Sem (wp)
set_option maxRecDepth 100000
namespace Mine
section
open Builtin Builtin.ObjectAttr PyProof.Rows
variable {prog : Program} {w : World} {A : Around} {E : Value → Shared → Prop} {s : Shared} {x : Addr} {ox : Obj} {od : Option Obj} {name : Str} {v : Value}
theorem flt_ga : findIn (hd.heap_1 w.params) (.ref 61) "__getattribute__" = some (some (.builtin "BaseException.__getattribute__")) := by k_is
theorem flt_nohook : findIn (hd.heap_1 w.params) (.ref 61) "__getattr__" = some none := by k_is
set_option maxHeartbeats 2000000 in
/-- a fault's own field is read -/
theorem flt_get {expr : Bool} {Q : Value → Shared → Prop} (X : (hd.heap_1 w.params).In s.heap) (I : InstAt s.heap x ox 61 od) (hf : findObj (hd.heap_1 w.params) 61 od name = some (.value v)) (hh : handedIn v = true)
    (h : Q v { s with toks := s.toks + 1 }) : wpAny (model prog w) A (getAttr (.ref x) name expr) Q E s := by
  have FB := PySem.F.attrBase_Exception
  have f3 := FB.ga.bind (.ref x)
  have hx0 : (expr && onTheHeap (Value.builtin "BaseException.__getattribute__")) = false := by cases expr <;> rfl
  have hx2 : (Value.builtin "BaseException.__getattribute__" == Value.builtin "object.__getattribute__") = false := by decide +kernel
  have hx1 : (onTheHeap (Value.ref 61) && Value.builtin "BaseException.__getattribute__" == Value.builtin "object.__getattribute__") = false := by rw [hx2]; rfl
  obtain ⟨hp, g, d, t, os⟩ := s
  have L0 := I.type (M := model prog w)
  have L1 := looks_findIn (M := model prog w) X flt_ga
  have L2 := looks_findIn (M := model prog w) X flt_nohook
  have L3 := looks_find (M := model prog w) X I hf
  have hC := tf_there X
  have hc := I.cls
  unfold getAttr getAttrBy
  refine wpAny_bind (wpAny_mkText (wpAny_holding (wpAny_bind (L0.at (wpAny_bind (L1.at ?_))))))
  dsimp only
  rw [hx1]
  show wpAny _ _ (getAttrByItsOwn _ _ _ _ _ _) _ _ _
  unfold getAttrByItsOwn
  refine wpAny_bind (L2.at ?_)
  refine wpAny_bind (wpAny_attempt (wpAny_holding ?_))
  unfold callGetattribute
  rw [hx0]
  show wpAny _ _ (boundAndCalled _ _ _) _ _ _
  unfold boundAndCalled
  refine wpAny_bind (wpAny_of_eq f3 ?_)
  have sub : Looks (model prog w) hp (isInstance (.ref x) (.type "BaseException")) true := I.type.andThen (looks_mroIn X (by k_is))
  have hk : builtinKind "BaseException.__getattribute__" = some .slot := by decide +kernel
  have hsplit : splitId "BaseException.__getattribute__" = some ("BaseException", "__getattribute__") := by decide +kernel
  refine wpAny_call (codeAny_call_builtin FB.ga.plain PySem.F.entry_bexc_ga (@check_slot (model prog w) _ _ _ "BaseException.__getattribute__" "BaseException" "__getattribute__" (.ref x) [.str name t] [] _ hk hsplit sub (PySem.F.args_bexc_ga (.ref x) (.str name t)) ?_))
  unfold Builtin.«object.__getattribute__»
  refine wpAny_bind (wpAny_pure (wpAny_bind (wpAny_pure (wpAny_bind (L0.at (wpAny_bind (L3.at ?_)))))))
  refine wpAny_pure ?_
  show wpAny _ _ (handedOut v) _ _ _
  rw [handedOut_of hh]
  exact wpAny_pure h
theorem flt_get_at {expr : Bool} {Q : Value → Shared → Prop} {d : Addr} {vs : Array Value} {sl : Array (Option Value)} {q1 q2 n : Int} {u1 u2 u3 : Tok} {v1 : Value} (X : (hd.heap_1 w.params).In s.heap) (he : s.heap.get? x = some ⟨.ref 61, some d, .fields vs, sl⟩)
    (hd' : s.heap.get? d = some (dictOf [⟨q1, .str "what" u1, v1⟩, ⟨q2, .str "at" u2, .int n u3⟩] 2)) (h : Q (.int n u3) { s with toks := s.toks + 1 }) : wpAny (model prog w) A (getAttr (.ref x) "at" expr) Q E s :=
  flt_get (od := some (dictOf [⟨q1, .str "what" u1, v1⟩, ⟨q2, .str "at" u2, .int n u3⟩] 2)) (v := .int n u3) X ⟨he, rfl, rfl, hd'⟩ (findObj_own (attr := none) (by k_is) (by k_is) (by first | k_is | rfl) (by rw [lookIn_dict]; first | rfl | k_get)) rfl h
end
end Mine
end
section
open PySem PySem.W PySem.Calls PyProof.Rows
open PySem.Sem (wp)
set_option maxRecDepth 100000
namespace Mine
section
variable {w : World} {A₀ : Around} {s' : Shared} {Q : Flow → Shared → Prop} {E : Value → Shared → Prop} {base g h : Heap} {outer : List Env} {L a e : Addr} {nv : Int} {m mg mb : Str → Option Value} {name : Str} {scope : Scope} {cd : Value} {news : List (Addr × Obj)} {p : Program} {loose : List Str} {n : Str} {np pos : Pos} {b₀ : Stmt} {suite : List Stmt} {rest : List ExceptHandler}
theorem caughtF (K : Below A₀ base outer g) (F : Fr g L h m) (hsm : h.UpToSlots s'.heap) (R : FlyF base (envOf name scope L a cd :: outer) e nv news s'.heap)
    {L₀ : Addr} {m₀ : Str → Option Value} (FG : Fr base L₀ g m₀) (X : (hd.heap_1 w.params).In base) (T : TopRead p loose mg mb base) (ex : nsIn (hd.heap_1 w.params) mainGlobals "TableFault" = some (some (.ref 61)))
    (k : ∀ h' d od vs sl tk oL, Fr base L h' (fun y => if y = n then some (.ref e) else m y) → News base L h' ((e, ⟨.ref 61, some d, .fields vs, sl⟩) :: (d, od) :: (L₀, oL) :: news) → AtIs od nv → h'.Ns L₀ m₀ →
      wpAny (model PySem.Challenge.pw_nu0158_01 w) ((A₀.deeper (envOf name scope L a cd)).mark (some (.ref e))) (execs (b₀ :: suite) (envOf name scope L a cd))
        (fun f s₄ => wpAny (model PySem.Challenge.pw_nu0158_01 w) (A₀.deeper (envOf name scope L a cd)) (do bindName (envOf name scope L a cd) n .none; unbindBehindTheSuite (envOf name scope L a cd) n pos) (fun _ s₅ => Q f s₅) E s₄)
        (AsSuiteRaised (model PySem.Challenge.pw_nu0158_01 w) ((A₀.deeper (envOf name scope L a cd)).mark (some (.ref e))) (envOf name scope L a cd) n pos (notedBy (model PySem.Challenge.pw_nu0158_01 w) ((A₀.deeper (envOf name scope L a cd)).mark (some (.ref e))) (envOf name scope L a cd) (cameBackBy (model PySem.Challenge.pw_nu0158_01 w) (A₀.deeper (envOf name scope L a cd)) (envOf name scope L a cd) E)))
        { s' with heap := h', toks := tk })
    (hk : scope.kind = .function := by rfl) (hlo : (envOf name scope L a cd).kindOf n = some .local := by rfl) (hx : (envOf name scope L a cd).kindOf "TableFault" = some .globalImplicit := by rfl) :
    wpAny (model PySem.Challenge.pw_nu0158_01 w) (A₀.deeper (envOf name scope L a cd)) (noteFrame (.ref e) (envOf name scope L a cd))
      (fun _ s₂ => wpAny (model PySem.Challenge.pw_nu0158_01 w) (A₀.deeper (envOf name scope L a cd)) (setFlight (.ref e) none) (fun _ s₃ =>
        wpAny (model PySem.Challenge.pw_nu0158_01 w) (A₀.deeper (envOf name scope L a cd)) (handleBy (.ref e) (envOf name scope L a cd) (.ExceptHandler (some (.Name "TableFault" np)) (some n) (b₀ :: suite) pos :: rest)) Q E s₃) E s₂) E s' := by
  obtain ⟨B, d, od, st, hl, x1, hen, x2, x3, ⟨hd', hdn⟩, hat⟩ := R
  have hL : B.get? L = none := by
    obtain ⟨_, ⟨L', _, hf, hn', _⟩, _⟩ := x2
    obtain rfl : L = L' := Option.some.inj hf
    exact hn'
  have hstg : g.UpToSlots s'.heap := (Heap.UpToSlots.of_keeps F.keep).trans hsm
  refine fly_note_next (Around.frames_deeper K.stack) x2 rfl x3 x1 hen fun h₄ ⟨y1, y2, y3, y4⟩ => ?_
  refine fly_flight (s := { s' with heap := h₄ }) y1 y2 y3 fun h₅ ⟨z1, z2, z3, z4⟩ => ?_
  have hLt : L₀ < L := Nat.lt_of_lt_of_le FG.ns.lt F.above
  have hab : base.objs.size ≤ L := Nat.le_trans FG.above (Nat.le_of_lt hLt)
  have sm₅ : s'.heap.UpToSlots h₅ := y4.trans z4
  have K₅ : base.StaysIn h₅ := fun b o q => z1 b o (st b o q)
  have F₅ : Fr base L h₅ m := ⟨(hsm.trans sm₅).ns F.ns, K₅, hab⟩
  obtain ⟨vs, sl, T₁, oT, ts, he₅, h1, hnT, hTe, hT, hdT, h3⟩ := z3
  refine wpAny_handleBy_cons (codeAny_handlers_test (name_K F₅ X T ex ?_ hk hx (by decide))) (by intro q; cases q)
  have hC₅ := tf_there (X.keeps K₅)
  refine wpAny_excMatches_sub_self hC₅ he₅ rfl (by decide +kernel) (codeAny_handlers_suite_as ?_)
  refine fly_flight (s := { s' with heap := h₅, toks := s'.toks }) (base := B) (l := outer) z1 z2.2.2 ⟨vs, sl, T₁, oT, ts, he₅, h1, hnT, hTe, hT, hdT, h3⟩ fun h₆ ⟨u1, u2, u3, u4⟩ => ?_
  have sm₆ : s'.heap.UpToSlots h₆ := sm₅.trans u4
  have F₆ : Fr base L h₆ m := ⟨(hsm.trans sm₆).ns F.ns, fun b o q => u1 b o (st b o q), hab⟩
  obtain ⟨vs₆, sl₆, T₆, oT₆, ts₆, he₆, _, _, _, _, _, _⟩ := u3
  have hbe : base.get? e = none := by
    cases q : base.get? e with
    | none => rfl
    | some o => rw [st e o q] at hen; cases hen
  have hdL : d ≠ L := fun q => by rw [q, hL] at hd'; cases hd'
  have heL : e ≠ L := fun q => by
    obtain ⟨oL, es, ep, hoL, hdL', _⟩ := F₆.ns
    rw [← q, he₆] at hoL
    cases hoL
    cases hdL'
  have ns₀ : h₆.Ns L₀ m₀ := (hstg.trans sm₆).ns FG.ns
  obtain ⟨oL, esL, epL, hoL, hrL⟩ := id ns₀
  have hbL : base.get? L₀ = none := Heap.get?_none_of_le FG.above
  have N₆ : News base L h₆ ((e, ⟨.ref 61, some d, .fields vs₆, sl₆⟩) :: (d, od) :: (L₀, oL) :: news) := fun q hq => by
    rcases List.mem_cons.mp hq with rfl | hq
    · exact ⟨he₆, heL, hbe⟩
    · rcases List.mem_cons.mp hq with rfl | hq
      · exact ⟨u1 _ _ hd', hdL, hdn⟩
      · rcases List.mem_cons.mp hq with rfl | hq
        · exact ⟨hoL, Nat.ne_of_lt hLt, hbL⟩
        exact ⟨u1 _ _ (hl q hq).1, (fun z => by have := (hl q hq).1; rw [z, hL] at this; cases this), (hl q hq).2⟩
  refine stN F₆ N₆ (fun h₇ F₇ N₇ => ?_) hk hlo
  refine k h₇ d od vs₆ sl₆ _ oL F₇ N₇ hat (ns₀.at fun o ho => ?_)
  rw [hoL] at ho
  cases ho
  exact (N₇ (L₀, oL) (.tail _ (.tail _ (.head _)))).1
end
end Mine
end
section
open PySem PySem.W PyProof.Rows
namespace Mine
section
set_option maxRecDepth 100000 in
set_option maxHeartbeats 1000000 in
theorem told_says (w : World) (mean mg mb) (o dO l : Addr) (k : Int) (tk : Tok) (vs : List Value) (ns : List Int) (rest : List (Addr × Obj)) (hI : IntsAre vs ns) (hz : ns.length ≤ 65536) :
    SaysR 2 w mean mg mb 202 [.ref o] ((o, instObj 205 dO) :: (dO, dictOf [⟨k, .str "glyphs" tk, .ref l⟩] 1) :: (l, ({ cls := .type "tuple", data := .seq vs.toArray } : Obj)) :: rest)
      (fun news' v => v = .ref l ∧ news' = (o, instObj 205 dO) :: (dO, dictOf [⟨k, .str "glyphs" tk, .ref l⟩] 1) :: (l, ({ cls := .type "tuple", data := .seq vs.toArray } : Obj)) :: rest) := by
  w_on
  intro dp un gd cn cs a ccd cl outer A₀ base h₀ L m s Q E B F X N T hkk hdp hun hret
  have hexc : True := trivial
  refine wpAny_call ?_
  k_dflt cell_enter
  (repeat' (first | (k_unfold; (try dsimp only)) | (k_end; wrow_close) | ((with_reducible show wpAny _ _ (exec _ _) _ _ _); (try dsimp only); with_reducible refine atT1 ?_; intro tk) | ((with_reducible show wpAny _ _ (binaryOp _ _ _) _ _ _); (try dsimp only); with_reducible refine atT1 ?_; intro tk) | walk1 | (dsimp only; walk1) | (leave1; walk_say "STEP leave1"; try dsimp only) | fail "no step"))
  exact hret _ _ _ _ (by assumption) (by assumption) ⟨rfl, rfl⟩
end
end Mine
end
section
open PySem PySem.W PyProof.Rows
namespace Mine
theorem flt_get_K {prog : Program} {w : World} {A : Around} {E : Value → Shared → Prop} {s : Shared} {h₀ : Heap} {L x d : Addr} {m : Str → Option Value} {rest : List (Addr × Obj)} {expr : Bool} {Q : Value → Shared → Prop} {vs : Array Value} {sl : Array (Option Value)} {q1 q2 n : Int} {u1 u2 u3 : Tok} {v1 : Value}
    (N : News h₀ L s.heap ((x, ⟨.ref 61, some d, .fields vs, sl⟩) :: (d, dictOf [⟨q1, .str "what" u1, v1⟩, ⟨q2, .str "at" u2, .int n u3⟩] 2) :: rest)) (F : Fr h₀ L s.heap m) (X : (hd.heap_1 w.params).In h₀)
    (h : Q (.int n u3) { s with toks := s.toks + 1 }) : wpAny (model prog w) A (getAttr (.ref x) "at" expr) Q E s :=
  flt_get_at (X.keeps F.keep) (N _ (.head _)).1 (N _ (.tail _ (.head _))).1 h
theorem back_to {h₀ h h' h₁ : Heap} {L L' D e d : Addr} {m m₁ m' : Str → Option Value} {oL oD oe od : Obj} {rest : List (Addr × Obj)} (F : Fr h₀ L h₁ m₁) (N : News h₀ L h₁ rest) (hns : h.Ns L m) (hoL : h.get? L = some oL)
    (F' : Fr h₀ L' h' m') (N' : News h₀ L' h' ((D, oD) :: (e, oe) :: (d, od) :: (L, oL) :: rest)) (hD : L < D) : Fr h₀ L h' m ∧ News h₀ L h' ((D, oD) :: rest) := by
  refine ⟨⟨hns.at fun o ho => ?_, F'.keep, F.above⟩, fun q hq => ?_⟩
  · rw [hoL] at ho
    cases ho
    exact (N' (L, oL) (.tail _ (.tail _ (.tail _ (.head _))))).1
  · rcases List.mem_cons.mp hq with rfl | hq
    · exact ⟨(N' _ (.head _)).1, Ne.symm (Nat.ne_of_lt hD), (N' _ (.head _)).2.2⟩
    · have z := N' q (.tail _ (.tail _ (.tail _ (.tail _ hq))))
      exact ⟨z.1, (N q hq).2.1, z.2.2⟩
theorem drop23 {h₀ h : Heap} {L : Addr} {a b c d : Addr × Obj} {rest : List (Addr × Obj)} (N : News h₀ L h (a :: b :: c :: d :: rest)) : News h₀ L h (a :: d :: rest) := fun q hq => N q (by
  simp only [List.mem_cons] at hq ⊢
  rcases hq with h | h | h <;> simp [h])
section
local macro_rules | `(tactic| k_all) => `(tactic| ((with_reducible refine List.forall_mem_append.mpr ⟨?_, ?_⟩) <;> k_all))
set_option maxRecDepth 100000 in
set_option maxHeartbeats 1000000 in
theorem heard_says (w : World) (mean mg mb) (b : Array UInt8) (ks : List Int) (p : Int) (t1 t2 : Tok) (rest : List (Addr × Obj)) (hk : KBw.bInts b = ks) (hz : ks.length ≤ 900000) (hp : p ≤ 800000) (hp0 : 0 ≤ p)
    (dp un : Nat) (gd : Option (List Code)) (cn : Str) (cs : Scope) (a : Addr) (ccd : Value) (cl : List (Str × Addr)) (outer : List Env) (A₀ : Around) (h₀ : Heap) (L : Addr) (m : Str → Option Value) (s : Shared) (Q E : Value → Shared → Prop)
    (B : Below A₀ h₀ outer h₀) (F : Fr h₀ L s.heap m) (X : (hd.heap_1 w.params).In h₀) (N : News h₀ L s.heap rest) (T : Top view looseN mean mg mb h₀) (hkk : cs.kind = .function) (hdp : dp + 10 * 8 < recursionLimit) (hun : un + 30 * 8 < cLine)
    (hret : ∀ (news' : List (Addr × Obj)) (v : Value) (h' : Heap) (tk' : Nat), Fr h₀ L h' m → News h₀ L h' news' →
      (∃ r tw, v = .ref r ∧ ((∃ l vs ns, covSpec ks p = .ok ns ∧ IntsAre vs ns ∧ ns.length ≤ 65536 ∧ news' = (r, ({ cls := .type "tuple", data := .seq #[.str "glyphs" tw, .ref l] } : Obj)) :: (l, ({ cls := .type "tuple", data := .seq vs.toArray } : Obj)) :: rest) ∨
        (∃ n tn, covSpec ks p = .error n ∧ news' = (r, ({ cls := .type "tuple", data := .seq #[.str "fault" tw, .int n tn] } : Obj)) :: rest))) → Q v { s with heap := h', toks := tk' }) :
    wpAny (model PySem.Challenge.pw_nu0158_01 w) (ktrTop dp un gd cn cs L a ccd cl outer) (call (.ref 279) [.bytes b t1, .int p t2]) Q E s := by
  have hexc : True := trivial
  refine wpAny_call ?_
  k_dflt (refine code_try (by k_asm) (by k_asm) (by k_asm) (by k_asm) (by k_asm) rfl rfl (by assumption) (by k_is) (by k_is) (by ktr_room) (BindsTo.of_eq rfl) (locs rfl) ?_ rfl rfl rfl (by decide))
  intro g L' h₁ FG F' N' B' X' T' hL lv
  (try dsimp only)
  (try k_lift B')
  (try k_fold)
  (repeat' (first | (k_unfold; (try dsimp only)) | (k_end; wrow_close) | ((with_reducible show wpAny _ _ (exec _ _) _ _ _); (try dsimp only); with_reducible refine atT1 ?_; intro tk) | ((with_reducible show wpAny _ _ (binaryOp _ _ _) _ _ _); (try dsimp only); with_reducible refine atT1 ?_; intro tk) | ((k_here; (with_reducible show wpAny _ _ (getAttr (Value.ref _) (PySem.Str.ofString "at") _) _ _ _); k_dflt (refine flt_get_K (by assumption) (by assumption) (by assumption) ?_))) | ((k_here; (with_reducible show wpAny _ _ (noteFrame _ _) (fun _ s₂ => wpAny _ _ (setFlight _ none) (fun _ s₃ => wpAny _ _ (handleBy _ _ (ExceptHandler.ExceptHandler (some (Expr.Name _ _)) (some _) _ _ :: _)) _ _ s₃) _ s₂) _ _); k_dflt (refine caughtF (by assumption) (by assumption) (by assumption) (by assumption) (by assumption) (by assumption) (topRead_of (by assumption)) (by k_is) ?_); refine stop_here ?_)) | ((k_here; (try dsimp only [List.append_nil, List.nil_append, List.cons_append]); (with_reducible show wpAny _ _ (call (Value.ref 202) _) _ _ _); k_dflt (refine sr_use (by k_asm) (by k_asm) (by k_asm) (by k_asm) (by k_asm) (by first | exact rfl | assumption) (told_says _ _ _ _ _ _ _ _ _ _ _ _ (by assumption) (by assumption)) (by ktr_room) (by ktr_units) ?_); k_dflt (intro nw' v' h' tk' F' N' hR'; obtain ⟨hv', hnw'⟩ := hR'; subst hnw' hv'; (try k_sweep); (try dsimp only)))) | ((k_here; (with_reducible show wpAny _ _ (call (Value.ref 237) _) _ _ _); k_dflt (refine sx_use (by k_asm) (by k_asm) (by k_asm) (by k_asm) (by k_asm) (by first | exact rfl | assumption) (cov_says _ _ _ _ _ _ _ _ _ _ (by assumption) (by omega) (by omega) (by omega)) (by ktr_room) (by ktr_units) ?_ ?_); k_dflt (rotate_left; intro e' n' g2' h' tk' FG2' hfly' hup' hX'; (try dsimp only); (rotate_left; intro nw' v' h' tk' F' N' hR'; obtain ⟨o', dO', l', vs', ns', k', tk2', hv', hI', hlen', hnw', hsp'⟩ := hR'; subst hnw' hv'; (try k_sweep); (try dsimp only))))) | walk1 | (dsimp only; walk1) | (leave1; walk_say "STEP leave1"; try dsimp only) | fail "no step"))
  · rename News _ _ _ _ => lN2
    exact lv (.ref _) _ ⟨_, _, _, by assumption, lN2, fun kF kN => hret _ _ _ _ kF (drop23 kN) ⟨_, _, rfl, .inl ⟨_, _, _, by assumption, by assumption, by assumption, rfl⟩⟩⟩
  · unfold StopHere
    intro h' d od vs sl tk oL F'' N'' hat hns
    obtain ⟨q1, q2, u1, u2, u3, v1, rfl⟩ := hat
    rename Fr g _ _ _ => oldF
    clear oldF
    clear N'
    have hoL := (N'' (L, oL) (.tail _ (.tail _ (.head _)))).1
    (repeat' (first | (k_unfold; (try dsimp only)) | (k_end; wrow_close) | ((with_reducible show wpAny _ _ (exec _ _) _ _ _); (try dsimp only); with_reducible refine atT1 ?_; intro tk) | ((with_reducible show wpAny _ _ (binaryOp _ _ _) _ _ _); (try dsimp only); with_reducible refine atT1 ?_; intro tk) | ((k_here; (with_reducible show wpAny _ _ (getAttr (Value.ref _) (PySem.Str.ofString "at") _) _ _ _); k_dflt (refine flt_get_K (by assumption) (by assumption) (by assumption) ?_))) | ((k_here; (with_reducible show wpAny _ _ (noteFrame _ _) (fun _ s₂ => wpAny _ _ (setFlight _ none) (fun _ s₃ => wpAny _ _ (handleBy _ _ (ExceptHandler.ExceptHandler (some (Expr.Name _ _)) (some _) _ _ :: _)) _ _ s₃) _ s₂) _ _); k_dflt (refine caughtF (by assumption) (by assumption) (by assumption) (by assumption) (by assumption) (by assumption) (topRead_of (by assumption)) (by k_is) ?_); refine stop_here ?_)) | ((k_here; (try dsimp only [List.append_nil, List.nil_append, List.cons_append]); (with_reducible show wpAny _ _ (call (Value.ref 202) _) _ _ _); k_dflt (refine sr_use (by k_asm) (by k_asm) (by k_asm) (by k_asm) (by k_asm) (by first | exact rfl | assumption) (told_says _ _ _ _ _ _ _ _ _ _ _ _ (by assumption) (by assumption)) (by ktr_room) (by ktr_units) ?_); k_dflt (intro nw' v' h' tk' F' N' hR'; obtain ⟨hv', hnw'⟩ := hR'; subst hnw' hv'; (try k_sweep); (try dsimp only)))) | ((k_here; (with_reducible show wpAny _ _ (call (Value.ref 237) _) _ _ _); k_dflt (refine sx_use (by k_asm) (by k_asm) (by k_asm) (by k_asm) (by k_asm) (by first | exact rfl | assumption) (cov_says _ _ _ _ _ _ _ _ _ _ (by assumption) (by omega) (by omega) (by omega)) (by ktr_room) (by ktr_units) ?_ ?_); k_dflt (rotate_left; intro e' n' g2' h' tk' FG2' hfly' hup' hX'; (try dsimp only); (rotate_left; intro nw' v' h' tk' F' N' hR'; obtain ⟨o', dO', l', vs', ns', k', tk2', hv', hI', hlen', hnw', hsp'⟩ := hR'; subst hnw' hv'; (try k_sweep); (try dsimp only))))) | walk1 | (dsimp only; walk1) | (leave1; walk_say "STEP leave1"; try dsimp only) | fail "no step"))
    rename News _ _ _ _ => lN2
    rename Fr h₀ _ _ _ => lF2
    obtain ⟨kF, kN⟩ := back_to F N hns hoL lF2 lN2 (ltN (by omega))
    exact hret _ _ _ _ kF kN ⟨_, _, rfl, .inr ⟨_, _, by assumption, rfl⟩⟩
end
end Mine
end
section
open PySem PySem.W PyProof.Rows
namespace Mine
theorem word_eq {ks : List Int} {p : Int} (hp0 : 0 ≤ p) : 256 * ks.getD p.toNat 0 + ks.getD (p + 1).toNat 0 = word ks p.toNat := by
  have e : (p + 1).toNat = p.toNat + 1 := by omega
  rw [e]
  unfold word
  rw [Int.mul_comm]
section
set_option maxRecDepth 100000 in
set_option maxHeartbeats 1000000 in
def wordS : {P : EntP // P.all → ∀ (w : World) (mean mg mb) (b : Array UInt8) (ks : List Int) (p : Int) (t1 t2 : Tok) (news : List (Addr × Obj)) (hk : KBw.bInts b = ks) (hz : ks.length ≤ 1000000) (hp : p ≤ 1000000) (hp0 : 0 ≤ p), SaysR 1 w mean mg mb 265 [.bytes b t1, .int p t2] news (fun news' v => news' = news ∧ ((ks.length < p + 2 ∧ v = .none) ∨ (p + 2 ≤ ks.length ∧ ∃ t, v = .int (word ks p.toNat) t)))} := ⟨_, fun H => by
  w_on
  intro w mean mg mb b ks p t1 t2 news hk hz hp hp0 dp un gd cn cs a ccd cl outer A₀ base h₀ L m s Q E B F X N T hkk hdp hun hret
  refine wpAny_call ?_
  k_dflt (refine' code_def ?k1 ?k2 ?k3 ?k4 ?k5 ?kA ?kF ?kK ?k6 ?k7 ?k8 ?k9 ?kB ?_ ?c2 ?c3 ?c4 ?c5; (case kA => exact rfl); (case kF => exact rfl); (case kK => assumption); (case k1 => k_asm); (case k2 => k_asm); (case k3 => k_asm); (case k4 => k_asm); (case k5 => k_asm); (case k6 => k_is); (case k7 => k_is); (case k8 => ktr_room); (case k9 => exact BindsTo.of_eq rfl); (case c5 => decide); (case kB => exact locs rfl); (case c2 => exact rfl); (case c3 => exact rfl); (case c4 => exact rfl); k_whole)
  intro g₁ L₁ h₁ FG' F' N' B' X' T'
  (try dsimp only)
  revert b ks p t1 t2 news hk hz hp hp0 B F X N T hkk hdp hun hret FG' F' N' B' X' T'
  exact H w mean mg mb dp un gd cn cs a ccd cl outer A₀ base h₀ L m s Q E g₁ L₁ h₁⟩
theorem wordX : ∃ e, wordS.1.on e → ∀ x, wordS.1.on x := ent_ex _
@[irreducible] noncomputable def wordK : Ent := Classical.choose wordX
theorem wordA : wordS.1.on wordK → ∀ x, wordS.1.on x := by
  unfold wordK
  exact Classical.choose_spec wordX
set_option maxRecDepth 100000 in
set_option maxHeartbeats 1000000 in
theorem wordC : wordS.1.on wordK := by
  w_on
  unfold EntP.on wordS
  dsimp only
  intro b ks p t1 t2 news hk hz hp hp0 B F X N T hkk hdp hun hret FG' F' N' B' X' T'
  have hexc : True := trivial
  (repeat' (first | (k_unfold; (try dsimp only)) | (k_end; wrow_close) | ((with_reducible show wpAny _ _ (exec _ _) _ _ _); (try dsimp only); with_reducible refine atT1 ?_; intro tk) | ((with_reducible show wpAny _ _ (binaryOp _ _ _) _ _ _); (try dsimp only); with_reducible refine atT1 ?_; intro tk) | ((k_here; (with_reducible show wpAny _ _ (subscriptTail _ _ (Value.bytes _ _) (Value.int _ _)) _ _ _); k_dflt (refine KBw.item_K (by assumption) (by omega) (by omega) (by omega) ?_); intro t' k' kLo kHi)) | ((k_here; (with_reducible show wpAny _ _ (call (Value.builtin "len") [Value.bytes _ _]) _ _ _); k_dflt (refine KBw.len_K (by assumption) (by omega) ?_))) | walk1 | (dsimp only; walk1) | (leave1; walk_say "STEP leave1"; try dsimp only) | fail "no step"))
  · exact hret _ _ _ _ (by assumption) (by assumption) ⟨rfl, .inl ⟨by assumption, rfl⟩⟩
  · exact hret _ _ _ _ (by assumption) (by assumption) ⟨rfl, .inr ⟨by omega, _, congrArg (Value.int · _) (word_eq hp0)⟩⟩
set_option maxRecDepth 100000 in
set_option maxHeartbeats 1000000 in
theorem word_says (w : World) (mean mg mb) (b : Array UInt8) (ks : List Int) (p : Int) (t1 t2 : Tok) (news : List (Addr × Obj)) (hk : KBw.bInts b = ks) (hz : ks.length ≤ 1000000) (hp : p ≤ 1000000) (hp0 : 0 ≤ p) : SaysR 1 w mean mg mb 265 [.bytes b t1, .int p t2] news (fun news' v => news' = news ∧ ((ks.length < p + 2 ∧ v = .none) ∨ (p + 2 ≤ ks.length ∧ ∃ t, v = .int (word ks p.toNat) t))) := wordS.2 (EntP.all_of (wordA wordC)) w mean mg mb b ks p t1 t2 news hk hz hp hp0
end
end Mine
end
section
open PySem PySem.W PyProof.Rows
namespace Mine
theorem range_single (a : Int) : rangeKs a (a + 1 - a).toNat = [a] := by
  have e : (a + 1 - a).toNat = 1 := by omega
  rw [e]
  unfold rangeKs
  simp
theorem dropL {h₀ h : Heap} {L : Addr} {a b : Addr × Obj} {rest own : List (Addr × Obj)} (N : News h₀ L h (a :: b :: (rest ++ own))) : News h₀ L h (a :: rest) := fun q hq => N q (by
  simp only [List.mem_cons, List.mem_append] at hq ⊢
  rcases hq with h | h <;> simp [h])
theorem drop3 {h₀ h : Heap} {L : Addr} {a b c : Addr × Obj} {rest : List (Addr × Obj)} (N : News h₀ L h (a :: b :: c :: rest)) : News h₀ L h (a :: b :: rest) := fun q hq => N q (by
  simp only [List.mem_cons] at hq ⊢
  rcases hq with h | h | h <;> simp [h])
theorem led_off {a : Addr} {us : List Value} {n : Nat} {rest : List (Addr × Obj)} : ∀ q ∈ (a, W.listOf us.toArray n) :: rest, q.1 ∈ rest.map (·.1) ∨ q.2.cls ≠ .type "range_iterator" := fun q hq => by
  rcases List.mem_cons.mp hq with rfl | hq
  · exact .inr (by show Value.type "list" ≠ Value.type "range_iterator"; decide)
  · exact .inl (List.mem_map_of_mem hq)
structure ReadS where
  l : Addr
  p : Int
  tp : Tok
  vs : List Value
  ns : List Int
  ep : Nat
section
set_option maxRecDepth 100000 in
set_option maxHeartbeats 1000000 in
def readS : {P : EntP // P.all → ∀ (w : World) (mean mg mb) (b : Array UInt8) (ks : List Int) (p : Int) (t1 t2 : Tok) (rest : List (Addr × Obj)) (hk : KBw.bInts b = ks) (hz : ks.length ≤ 900000) (hp : p ≤ 800000) (hp0 : 0 ≤ p), SaysR 2 w mean mg mb 272 [.bytes b t1, .int p t2] rest
      (fun news' v => ∃ r tw, v = .ref r ∧ ((∃ l vs ns, covSpec ks p = .ok ns ∧ IntsAre vs ns ∧ ns.length ≤ 65536 ∧ news' = (r, ({ cls := .type "tuple", data := .seq #[.str "glyphs" tw, .ref l] } : Obj)) :: (l, ({ cls := .type "tuple", data := .seq vs.toArray } : Obj)) :: rest) ∨
        (∃ n tn, covSpec ks p = .error n ∧ news' = (r, ({ cls := .type "tuple", data := .seq #[.str "fault" tw, .int n tn] } : Obj)) :: rest)))} := ⟨_, fun H => by
  w_on
  intro w mean mg mb b ks p t1 t2 rest hk hz hp hp0 dp un gd cn cs a ccd cl outer A₀ base h₀ L m s Q E B F X N T hkk hdp hun hret
  refine wpAny_call ?_
  k_dflt (refine' code_def ?k1 ?k2 ?k3 ?k4 ?k5 ?kA ?kF ?kK ?k6 ?k7 ?k8 ?k9 ?kB ?_ ?c2 ?c3 ?c4 ?c5; (case kA => exact rfl); (case kF => exact rfl); (case kK => assumption); (case k1 => k_asm); (case k2 => k_asm); (case k3 => k_asm); (case k4 => k_asm); (case k5 => k_asm); (case k6 => k_is); (case k7 => k_is); (case k8 => ktr_room); (case k9 => exact BindsTo.of_eq rfl); (case c5 => decide); (case kB => exact locs rfl); (case c2 => exact rfl); (case c3 => exact rfl); (case c4 => exact rfl); k_whole)
  intro g₁ L₁ h₁ FG' F' N' B' X' T'
  (try dsimp only)
  revert b ks p t1 t2 rest hk hz hp hp0 B F X N T hkk hdp hun hret FG' F' N' B' X' T'
  exact H w mean mg mb dp un gd cn cs a ccd cl outer A₀ base h₀ L m s Q E g₁ L₁ h₁⟩
theorem readX : ∃ e, readS.1.on e → ∀ x, readS.1.on x := ent_ex _
@[irreducible] noncomputable def readK : Ent := Classical.choose readX
theorem readA : readS.1.on readK → ∀ x, readS.1.on x := by
  unfold readK
  exact Classical.choose_spec readX
set_option maxRecDepth 100000 in
set_option maxHeartbeats 1000000 in
theorem readC : readS.1.on readK := by
  w_on
  unfold EntP.on readS
  dsimp only
  intro b ks p t1 t2 rest hk hz hp hp0 B F X N T hkk hdp hun hret FG' F' N' B' X' T'
  have hexc : True := trivial
  have hw := word_lo hk
  (repeat' (first | (k_unfold; (try dsimp only)) | (k_end; wrow_close) | ((with_reducible show wpAny _ _ (exec _ _) _ _ _); (try dsimp only); with_reducible refine atT1 ?_; intro tk) | ((with_reducible show wpAny _ _ (binaryOp _ _ _) _ _ _); (try dsimp only); with_reducible refine atT1 ?_; intro tk) | ((k_here; (with_reducible show wpAny _ _ (call (Value.type _) [Value.ref _]) _ _ _); k_dflt (refine kll_range rfl (by assumption) (by assumption) (by assumption) (small_one (by omega) (by omega) (by omega) (by omega)) (rangeSize_nat _ _) (by omega) ?_); intro D us c h' tk' F' N' l1 hi'; (try k_lt l1); (try k_sweep))) | ((k_here; (with_reducible show wpAny _ _ (getItem (Value.ref _) (Value.int (-1) _)) _ _ _); k_dflt (refine item_end (by k_asm) (by k_memK) ?_))) | ((k_here; (with_reducible show wpAny _ _ (truthy (Value.ref _)) _ _ _); k_dflt (first | refine truthy_end (by k_asm) (by k_memK) (by omega) ?_ | refine truthy_nil (by k_asm) (by k_memK) ?_))) | ((with_reducible show wpAny _ _ (exec (PySem.Stmt.For (PySem.Expr.Name _ _) (PySem.Expr.Call _ _ _ _) _ _ _) _) _ _ _); (k_here; (rename Fr _ _ _ _ => lF'); (with_unfolding_all refine' For_invVF lF' ?k1 ?k2 ?_; (case k1 => exact rfl); (case k2 => exact rfl); k_whole))) | (((with_reducible show wpAny _ _ (pyIter (Value.ref _)) (fun it s₂ => LoopAtV _ _ _ _ _ _ _ _ _ it s₂) _ _); k_here; refine stop_here ?_)) | ((k_here; (try dsimp only [List.append_nil, List.nil_append, List.cons_append]); (with_reducible show wpAny _ _ (call (Value.ref 265) _) _ _ _); k_dflt (refine sr_use (by k_asm) (by k_asm) (by k_asm) (by k_asm) (by k_asm) (by first | exact rfl | assumption) (word_says _ _ _ _ _ _ _ _ _ _ (by assumption) (by omega) (by omega) (by omega)) (by ktr_room) (by ktr_units) ?_); k_dflt (intro nw' v' h' tk' F' N' hR'; obtain ⟨hnw', hR2'⟩ := hR'; have hnw2' := hnw'.symm; clear hnw'; subst hnw2'; (rcases hR2' with ⟨hsz', hv'⟩ | ⟨hsz', t', hv'⟩ <;> (subst hv'; (try k_sweep); (try dsimp only)))))) | walk1 | (dsimp only; walk1) | (leave1; walk_say "STEP leave1"; try dsimp only) | fail "no step"))
  · exact hret _ _ _ _ (by assumption) (by assumption) ⟨_, _, rfl, .inr ⟨_, _, cov_short (by assumption), rfl⟩⟩
  · exact hret _ _ _ _ (by assumption) (by assumption) ⟨_, _, rfl, .inr ⟨_, _, cov_other (by assumption) (by assumption) (by assumption), rfl⟩⟩
  · exact hret _ _ _ _ (by assumption) (by assumption) ⟨_, _, rfl, .inr ⟨_, _, (cov_span (by assumption) (by assumption)).1 (by assumption), rfl⟩⟩
  · unfold StopHere
    rename IsRange _ _ _ _ _ _ _ _ => rgX
    rename News _ _ _ _ => lN
    rename Fr _ _ _ _ => lF
    rename word ks p.toNat = 2 => hfm
    rw [hfm] at lF
    have hcov := (cov_span (by assumption) hfm).2 (by assumption)
    have e4 : p + 2 + 2 = p + 4 := by omega
    rw [e4] at hcov
    refine range_loopF (σ := ReadS) (fun c => (c.l, listOf c.vs.toArray c.ep) :: rest) (fun c => [("found", .ref c.l), ("spot", .int c.p c.tp)]) (fun c => IntsAre c.vs c.ns) ["first", "last"]
      (fun i c => 0 ≤ c.p ∧ c.p ≤ ks.length ∧ c.ns.getLastD (-1) ≤ 65535 ∧ c.ns.length ≤ c.ns.getLastD (-1) + 1 ∧ spanSpec ks ((word ks (p + 2).toNat).toNat - i) c.p c.ns = covSpec ks p)
      (rest.map (·.1)) ⟨_, p + 4, _, [], [], 0⟩ lF lN rgX rfl (hw _).1 (by have := hw (p + 2).toNat; omega) ?_ .nil (by kst_all) ?_ ?_ ?_
    · intro b hb
      obtain ⟨q, hq, rfl⟩ := List.mem_map.mp hb
      exact Heap.lt_size (lN q (.tail _ hq)).1
    · exact ⟨by show 0 ≤ p + 4; omega, by show p + 4 ≤ _; omega, (by show (-1 : Int) ≤ 65535; decide), (by show (0 : Int) ≤ -1 + 1; decide), by rw [hcov, Nat.sub_zero]⟩
    · intro c i k t u h tk own hi hoff hf hp' F' N'
      obtain ⟨cl0, cp, ctp, cvs, cns, cep⟩ := c
      dsimp only at hf hp' F' N'
      obtain ⟨hc0, hcz, hcl, hcl2, hcs⟩ := hp'
      clear lF lN rgX
      have kM := kstMark
      have hcw := hw cp.toNat
      have hcw2 := hw (cp + 2).toNat
      have hvl := hf.length
      have hsp := span_one (i := i) (by omega) hcs
      (try dsimp only [kstB] at F')
      (try simp only [List.cons_append, List.nil_append, List.append_assoc] at N')
      (try k_fold)
      rcases ints_last hf with ⟨h1, h2⟩ | ⟨vi, ni, g, tg, h1, h2, hvi⟩
      · subst h1 h2
        simp only [List.getLastD_nil, List.length_nil] at hcl hcl2 hsp
        (repeat' (first | (k_unfold; (try dsimp only)) | (k_end; wrow_close) | ((with_reducible show wpAny _ _ (exec _ _) _ _ _); (try dsimp only); with_reducible refine atT1 ?_; intro tk) | ((with_reducible show wpAny _ _ (binaryOp _ _ _) _ _ _); (try dsimp only); with_reducible refine atT1 ?_; intro tk) | ((k_here; (with_reducible show wpAny _ _ (call (Value.type _) [Value.ref _]) _ _ _); k_dflt (refine kll_range rfl (by assumption) (by assumption) (by assumption) (small_one (by omega) (by omega) (by omega) (by omega)) (rangeSize_nat _ _) (by omega) ?_); intro D us c h' tk' F' N' l1 hi'; (try k_lt l1); (try k_sweep))) | ((k_here; (with_reducible show wpAny _ _ (getItem (Value.ref _) (Value.int (-1) _)) _ _ _); k_dflt (refine item_end (by k_asm) (by k_memK) ?_))) | ((k_here; (with_reducible show wpAny _ _ (truthy (Value.ref _)) _ _ _); k_dflt (first | refine truthy_end (by k_asm) (by k_memK) (by omega) ?_ | refine truthy_nil (by k_asm) (by k_memK) ?_))) | ((with_reducible show wpAny _ _ (exec (PySem.Stmt.For (PySem.Expr.Name _ _) (PySem.Expr.Call _ _ _ _) _ _ _) _) _ _ _); (k_here; (rename Fr _ _ _ _ => lF'); (with_unfolding_all refine' For_invVF lF' ?k1 ?k2 ?_; (case k1 => exact rfl); (case k2 => exact rfl); k_whole))) | (((with_reducible show wpAny _ _ (pyIter (Value.ref _)) (fun it s₂ => LoopAtV _ _ _ _ _ _ _ _ _ it s₂) _ _); k_here; refine stop_here ?_)) | ((k_here; (try dsimp only [List.append_nil, List.nil_append, List.cons_append]); (with_reducible show wpAny _ _ (call (Value.ref 265) _) _ _ _); k_dflt (refine sr_use (by k_asm) (by k_asm) (by k_asm) (by k_asm) (by k_asm) (by first | exact rfl | assumption) (word_says _ _ _ _ _ _ _ _ _ _ (by assumption) (by omega) (by omega) (by omega)) (by ktr_room) (by ktr_units) ?_); k_dflt (intro nw' v' h' tk' F' N' hR'; obtain ⟨hnw', hR2'⟩ := hR'; have hnw2' := hnw'.symm; clear hnw'; subst hnw2'; (rcases hR2' with ⟨hsz', hv'⟩ | ⟨hsz', t', hv'⟩ <;> (subst hv'; (try k_sweep); (try dsimp only)))))) | walk1 | (dsimp only; walk1) | (leave1; walk_say "STEP leave1"; try dsimp only) | fail "no step"))
        · exact hret _ _ _ _ (by assumption) (dropL (by assumption)) ⟨_, _, rfl, .inr ⟨_, _, hsp.1 (by omega), rfl⟩⟩
        · exact hret _ _ _ _ (by assumption) (dropL (by assumption)) ⟨_, _, rfl, .inr ⟨_, _, (hsp.2 (by omega)).1 (by omega), rfl⟩⟩
        · exact hret _ _ _ _ (by assumption) (dropL (by assumption)) ⟨_, _, rfl, .inr ⟨_, _, (hsp.2 (by omega)).1 (by omega), rfl⟩⟩
        · exact hret _ _ _ _ (by assumption) (dropL (by assumption)) ⟨_, _, rfl, .inr ⟨_, _, ((hsp.2 (by omega)).2 (by omega)).1 (by omega), rfl⟩⟩
        · exact hret _ _ _ _ (by assumption) (dropL (by assumption)) ⟨_, _, rfl, .inr ⟨_, _, ((hsp.2 (by omega)).2 (by omega)).1 (by omega), rfl⟩⟩
        · rename News _ _ _ _ => nE
          show EndF _ _ _ _ _ _ _ _ _ _ _ _ _
          refine endF ⟨_, cp + 6, _, _, _, _⟩ (by assumption) nE (by first | kst_in | kst_inAny) (by first | (intro p hp; kst_mem) | kst_anyIn) led_off (by assumption : IntsAre _ (_ ++ rangeKs _ _)) (by kst_all) (by kst_same) ?_
          have hl0 : (([] : List Int).length : Int) = 0 := rfl
          have hlen : (([] ++ rangeKs (word ks cp.toNat) (word ks (cp + 2).toNat + 1 - word ks cp.toNat).toNat).length : Int) = ([] : List Int).length + (word ks (cp + 2).toNat + 1 - word ks cp.toNat) := by rw [List.length_append, rangeKs_length]; omega
          have hlast : ([] ++ rangeKs (word ks cp.toNat) (word ks (cp + 2).toNat + 1 - word ks cp.toNat).toNat).getLastD (-1) = word ks (cp + 2).toNat := range_last (by omega)
          refine ⟨(by show 0 ≤ cp + 6; omega), (by show cp + 6 ≤ _; omega), (by show List.getLastD (_ ++ rangeKs _ _) _ ≤ _; rw [hlast]; omega), (by show ((_ ++ rangeKs _ _ : List Int).length : Int) ≤ List.getLastD (_ ++ rangeKs _ _) _ + 1; rw [hlast, hlen]; omega), ?_⟩
          exact ((hsp.2 (by omega)).2 (by omega)).2 (by omega)
      · subst h1 h2
        simp only [List.getLastD_concat] at hcl hcl2 hsp
        (repeat' (first | (k_unfold; (try dsimp only)) | (k_end; wrow_close) | ((with_reducible show wpAny _ _ (exec _ _) _ _ _); (try dsimp only); with_reducible refine atT1 ?_; intro tk) | ((with_reducible show wpAny _ _ (binaryOp _ _ _) _ _ _); (try dsimp only); with_reducible refine atT1 ?_; intro tk) | ((k_here; (with_reducible show wpAny _ _ (call (Value.type _) [Value.ref _]) _ _ _); k_dflt (refine kll_range rfl (by assumption) (by assumption) (by assumption) (small_one (by omega) (by omega) (by omega) (by omega)) (rangeSize_nat _ _) (by omega) ?_); intro D us c h' tk' F' N' l1 hi'; (try k_lt l1); (try k_sweep))) | ((k_here; (with_reducible show wpAny _ _ (getItem (Value.ref _) (Value.int (-1) _)) _ _ _); k_dflt (refine item_end (by k_asm) (by k_memK) ?_))) | ((k_here; (with_reducible show wpAny _ _ (truthy (Value.ref _)) _ _ _); k_dflt (first | refine truthy_end (by k_asm) (by k_memK) (by omega) ?_ | refine truthy_nil (by k_asm) (by k_memK) ?_))) | ((with_reducible show wpAny _ _ (exec (PySem.Stmt.For (PySem.Expr.Name _ _) (PySem.Expr.Call _ _ _ _) _ _ _) _) _ _ _); (k_here; (rename Fr _ _ _ _ => lF'); (with_unfolding_all refine' For_invVF lF' ?k1 ?k2 ?_; (case k1 => exact rfl); (case k2 => exact rfl); k_whole))) | (((with_reducible show wpAny _ _ (pyIter (Value.ref _)) (fun it s₂ => LoopAtV _ _ _ _ _ _ _ _ _ it s₂) _ _); k_here; refine stop_here ?_)) | ((k_here; (try dsimp only [List.append_nil, List.nil_append, List.cons_append]); (with_reducible show wpAny _ _ (call (Value.ref 265) _) _ _ _); k_dflt (refine sr_use (by k_asm) (by k_asm) (by k_asm) (by k_asm) (by k_asm) (by first | exact rfl | assumption) (word_says _ _ _ _ _ _ _ _ _ _ (by assumption) (by omega) (by omega) (by omega)) (by ktr_room) (by ktr_units) ?_); k_dflt (intro nw' v' h' tk' F' N' hR'; obtain ⟨hnw', hR2'⟩ := hR'; have hnw2' := hnw'.symm; clear hnw'; subst hnw2'; (rcases hR2' with ⟨hsz', hv'⟩ | ⟨hsz', t', hv'⟩ <;> (subst hv'; (try k_sweep); (try dsimp only)))))) | walk1 | (dsimp only; walk1) | (leave1; walk_say "STEP leave1"; try dsimp only) | fail "no step"))
        · exact hret _ _ _ _ (by assumption) (dropL (by assumption)) ⟨_, _, rfl, .inr ⟨_, _, hsp.1 (by omega), rfl⟩⟩
        · exact hret _ _ _ _ (by assumption) (dropL (by assumption)) ⟨_, _, rfl, .inr ⟨_, _, hsp.1 (by omega), rfl⟩⟩
        · exact hret _ _ _ _ (by assumption) (dropL (by assumption)) ⟨_, _, rfl, .inr ⟨_, _, (hsp.2 (by omega)).1 (by omega), rfl⟩⟩
        · exact hret _ _ _ _ (by assumption) (dropL (by assumption)) ⟨_, _, rfl, .inr ⟨_, _, (hsp.2 (by omega)).1 (by omega), rfl⟩⟩
        · exact hret _ _ _ _ (by assumption) (dropL (by assumption)) ⟨_, _, rfl, .inr ⟨_, _, ((hsp.2 (by omega)).2 (by omega)).1 (by omega), rfl⟩⟩
        · exact hret _ _ _ _ (by assumption) (dropL (by assumption)) ⟨_, _, rfl, .inr ⟨_, _, ((hsp.2 (by omega)).2 (by omega)).1 (by omega), rfl⟩⟩
        · have hl1 : ((ni ++ [g]).length : Int) = (ni ++ [g]).length := rfl
          rename News _ _ _ _ => nE
          show EndF _ _ _ _ _ _ _ _ _ _ _ _ _
          refine endF ⟨_, cp + 6, _, _, _, _⟩ (by assumption) nE (by first | kst_in | kst_inAny) (by first | (intro p hp; kst_mem) | kst_anyIn) led_off (by assumption : IntsAre _ (_ ++ rangeKs _ _)) (by kst_all) (by kst_same) ?_
          have hlen : (((ni ++ [g]) ++ rangeKs (word ks cp.toNat) (word ks (cp + 2).toNat + 1 - word ks cp.toNat).toNat).length : Int) = ((ni ++ [g]) : List Int).length + (word ks (cp + 2).toNat + 1 - word ks cp.toNat) := by rw [List.length_append, rangeKs_length]; omega
          have hlast : ((ni ++ [g]) ++ rangeKs (word ks cp.toNat) (word ks (cp + 2).toNat + 1 - word ks cp.toNat).toNat).getLastD (-1) = word ks (cp + 2).toNat := range_last (by omega)
          refine ⟨(by show 0 ≤ cp + 6; omega), (by show cp + 6 ≤ _; omega), (by show List.getLastD (_ ++ rangeKs _ _) _ ≤ _; rw [hlast]; omega), (by show ((_ ++ rangeKs _ _ : List Int).length : Int) ≤ List.getLastD (_ ++ rangeKs _ _) _ + 1; rw [hlast, hlen]; omega), ?_⟩
          exact ((hsp.2 (by omega)).2 (by omega)).2 (by omega)
    · intro c u h tk hf hp' F' N'
      obtain ⟨cl0, cp, ctp, cvs, cns, cep⟩ := c
      dsimp only at hf hp' F' N'
      obtain ⟨hc0, hcz, hcl, hcl2, hcs⟩ := hp'
      clear lF lN rgX
      have kM := kstMark
      have hcw := hw (p + 2).toNat
      (try dsimp only [kstB] at F')
      (try k_fold)
      (repeat' (first | (k_unfold; (try dsimp only)) | (k_end; wrow_close) | ((with_reducible show wpAny _ _ (exec _ _) _ _ _); (try dsimp only); with_reducible refine atT1 ?_; intro tk) | ((with_reducible show wpAny _ _ (binaryOp _ _ _) _ _ _); (try dsimp only); with_reducible refine atT1 ?_; intro tk) | ((k_here; (with_reducible show wpAny _ _ (call (Value.type _) [Value.ref _]) _ _ _); k_dflt (refine kll_range rfl (by assumption) (by assumption) (by assumption) (small_one (by omega) (by omega) (by omega) (by omega)) (rangeSize_nat _ _) (by omega) ?_); intro D us c h' tk' F' N' l1 hi'; (try k_lt l1); (try k_sweep))) | ((k_here; (with_reducible show wpAny _ _ (getItem (Value.ref _) (Value.int (-1) _)) _ _ _); k_dflt (refine item_end (by k_asm) (by k_memK) ?_))) | ((k_here; (with_reducible show wpAny _ _ (truthy (Value.ref _)) _ _ _); k_dflt (first | refine truthy_end (by k_asm) (by k_memK) (by omega) ?_ | refine truthy_nil (by k_asm) (by k_memK) ?_))) | ((with_reducible show wpAny _ _ (exec (PySem.Stmt.For (PySem.Expr.Name _ _) (PySem.Expr.Call _ _ _ _) _ _ _) _) _ _ _); (k_here; (rename Fr _ _ _ _ => lF'); (with_unfolding_all refine' For_invVF lF' ?k1 ?k2 ?_; (case k1 => exact rfl); (case k2 => exact rfl); k_whole))) | (((with_reducible show wpAny _ _ (pyIter (Value.ref _)) (fun it s₂ => LoopAtV _ _ _ _ _ _ _ _ _ it s₂) _ _); k_here; refine stop_here ?_)) | ((k_here; (try dsimp only [List.append_nil, List.nil_append, List.cons_append]); (with_reducible show wpAny _ _ (call (Value.ref 265) _) _ _ _); k_dflt (refine sr_use (by k_asm) (by k_asm) (by k_asm) (by k_asm) (by k_asm) (by first | exact rfl | assumption) (word_says _ _ _ _ _ _ _ _ _ _ (by assumption) (by omega) (by omega) (by omega)) (by ktr_room) (by ktr_units) ?_); k_dflt (intro nw' v' h' tk' F' N' hR'; obtain ⟨hnw', hR2'⟩ := hR'; have hnw2' := hnw'.symm; clear hnw'; subst hnw2'; (rcases hR2' with ⟨hsz', hv'⟩ | ⟨hsz', t', hv'⟩ <;> (subst hv'; (try k_sweep); (try dsimp only)))))) | walk1 | (dsimp only; walk1) | (leave1; walk_say "STEP leave1"; try dsimp only) | fail "no step"))
      exact hret _ _ _ _ (by assumption) (drop3 (by assumption)) ⟨_, _, rfl, .inl ⟨_, _, _, (by rw [← hcs, Nat.sub_self]; rfl), hf, by omega, rfl⟩⟩
  · exact hret _ _ _ _ (by assumption) (by assumption) ⟨_, _, rfl, .inr ⟨_, _, (cov_asc (by assumption) (by assumption)).1 (by assumption), rfl⟩⟩
  · unfold StopHere
    rename IsRange _ _ _ _ _ _ _ _ => rgX
    rename News _ _ _ _ => lN
    rename Fr _ _ _ _ => lF
    rename word ks p.toNat = 1 => hfm
    rw [hfm] at lF
    have hcov := (cov_asc (by assumption) hfm).2 (by assumption)
    have e4 : p + 2 + 2 = p + 4 := by omega
    rw [e4] at hcov
    refine range_loopF (σ := ReadS) (fun c => (c.l, listOf c.vs.toArray c.ep) :: rest) (fun c => [("found", .ref c.l), ("spot", .int c.p c.tp)]) (fun c => IntsAre c.vs c.ns) ["first", "last"]
      (fun i c => 0 ≤ c.p ∧ c.p ≤ ks.length ∧ c.ns.length = i ∧ ascSpec ks ((word ks (p + 2).toNat).toNat - i) c.p c.ns = covSpec ks p)
      (rest.map (·.1)) ⟨_, p + 4, _, [], [], 0⟩ lF lN rgX rfl (hw _).1 (by have := hw (p + 2).toNat; omega) ?_ .nil (by kst_all) ?_ ?_ ?_
    · intro b hb
      obtain ⟨q, hq, rfl⟩ := List.mem_map.mp hb
      exact Heap.lt_size (lN q (.tail _ hq)).1
    · exact ⟨by show 0 ≤ p + 4; omega, by show p + 4 ≤ _; omega, rfl, by rw [hcov, Nat.sub_zero]⟩
    · intro c i k t u h tk own hi hoff hf hp' F' N'
      obtain ⟨cl0, cp, ctp, cvs, cns, cep⟩ := c
      dsimp only at hf hp' F' N'
      obtain ⟨hc0, hcz, hcl, hcs⟩ := hp'
      clear lF lN rgX
      have kM := kstMark
      have hcw := hw cp.toNat
      have hvl : cvs.length ≤ 65535 := by rw [hf.length, hcl]; have := hw (p + 2).toNat; omega
      (try dsimp only [kstB] at F')
      (try simp only [List.cons_append, List.nil_append, List.append_assoc] at N')
      (try k_fold)
      rcases ints_last hf with ⟨h1, h2⟩ | ⟨vi, ni, g, tg, h1, h2, hvi⟩
      · subst h1 h2
        (repeat' (first | (k_unfold; (try dsimp only)) | (k_end; wrow_close) | ((with_reducible show wpAny _ _ (exec _ _) _ _ _); (try dsimp only); with_reducible refine atT1 ?_; intro tk) | ((with_reducible show wpAny _ _ (binaryOp _ _ _) _ _ _); (try dsimp only); with_reducible refine atT1 ?_; intro tk) | ((k_here; (with_reducible show wpAny _ _ (call (Value.type _) [Value.ref _]) _ _ _); k_dflt (refine kll_range rfl (by assumption) (by assumption) (by assumption) (small_one (by omega) (by omega) (by omega) (by omega)) (rangeSize_nat _ _) (by omega) ?_); intro D us c h' tk' F' N' l1 hi'; (try k_lt l1); (try k_sweep))) | ((k_here; (with_reducible show wpAny _ _ (getItem (Value.ref _) (Value.int (-1) _)) _ _ _); k_dflt (refine item_end (by k_asm) (by k_memK) ?_))) | ((k_here; (with_reducible show wpAny _ _ (truthy (Value.ref _)) _ _ _); k_dflt (first | refine truthy_end (by k_asm) (by k_memK) (by omega) ?_ | refine truthy_nil (by k_asm) (by k_memK) ?_))) | ((with_reducible show wpAny _ _ (exec (PySem.Stmt.For (PySem.Expr.Name _ _) (PySem.Expr.Call _ _ _ _) _ _ _) _) _ _ _); (k_here; (rename Fr _ _ _ _ => lF'); (with_unfolding_all refine' For_invVF lF' ?k1 ?k2 ?_; (case k1 => exact rfl); (case k2 => exact rfl); k_whole))) | (((with_reducible show wpAny _ _ (pyIter (Value.ref _)) (fun it s₂ => LoopAtV _ _ _ _ _ _ _ _ _ it s₂) _ _); k_here; refine stop_here ?_)) | ((k_here; (try dsimp only [List.append_nil, List.nil_append, List.cons_append]); (with_reducible show wpAny _ _ (call (Value.ref 265) _) _ _ _); k_dflt (refine sr_use (by k_asm) (by k_asm) (by k_asm) (by k_asm) (by k_asm) (by first | exact rfl | assumption) (word_says _ _ _ _ _ _ _ _ _ _ (by assumption) (by omega) (by omega) (by omega)) (by ktr_room) (by ktr_units) ?_); k_dflt (intro nw' v' h' tk' F' N' hR'; obtain ⟨hnw', hR2'⟩ := hR'; have hnw2' := hnw'.symm; clear hnw'; subst hnw2'; (rcases hR2' with ⟨hsz', hv'⟩ | ⟨hsz', t', hv'⟩ <;> (subst hv'; (try k_sweep); (try dsimp only)))))) | walk1 | (dsimp only; walk1) | (leave1; walk_say "STEP leave1"; try dsimp only) | fail "no step"))
        · exact hret _ _ _ _ (by assumption) (dropL (by assumption)) ⟨_, _, rfl, .inr ⟨_, _, asc_short (by omega) (by assumption) hcs, rfl⟩⟩
        · rename News _ _ _ _ => nE
          show EndF _ _ _ _ _ _ _ _ _ _ _ _ _
          rw [range_single] at *
          refine endF ⟨_, cp + 2, _, _, _, _⟩ (by assumption) nE (by first | kst_in | kst_inAny) (by first | (intro p hp; kst_mem) | kst_anyIn) led_off (by assumption : IntsAre _ (_ ++ [_])) (by kst_all) (by kst_same) ?_
          refine ⟨(by show 0 ≤ cp + 2; omega), (by assumption), (by simp only [List.length_append, List.length_cons, List.length_nil] at hcl ⊢; omega), ?_⟩
          exact asc_more (by omega) (by assumption) (fun h => absurd rfl h) hcs
      · subst h1 h2
        (repeat' (first | (k_unfold; (try dsimp only)) | (k_end; wrow_close) | ((with_reducible show wpAny _ _ (exec _ _) _ _ _); (try dsimp only); with_reducible refine atT1 ?_; intro tk) | ((with_reducible show wpAny _ _ (binaryOp _ _ _) _ _ _); (try dsimp only); with_reducible refine atT1 ?_; intro tk) | ((k_here; (with_reducible show wpAny _ _ (call (Value.type _) [Value.ref _]) _ _ _); k_dflt (refine kll_range rfl (by assumption) (by assumption) (by assumption) (small_one (by omega) (by omega) (by omega) (by omega)) (rangeSize_nat _ _) (by omega) ?_); intro D us c h' tk' F' N' l1 hi'; (try k_lt l1); (try k_sweep))) | ((k_here; (with_reducible show wpAny _ _ (getItem (Value.ref _) (Value.int (-1) _)) _ _ _); k_dflt (refine item_end (by k_asm) (by k_memK) ?_))) | ((k_here; (with_reducible show wpAny _ _ (truthy (Value.ref _)) _ _ _); k_dflt (first | refine truthy_end (by k_asm) (by k_memK) (by omega) ?_ | refine truthy_nil (by k_asm) (by k_memK) ?_))) | ((with_reducible show wpAny _ _ (exec (PySem.Stmt.For (PySem.Expr.Name _ _) (PySem.Expr.Call _ _ _ _) _ _ _) _) _ _ _); (k_here; (rename Fr _ _ _ _ => lF'); (with_unfolding_all refine' For_invVF lF' ?k1 ?k2 ?_; (case k1 => exact rfl); (case k2 => exact rfl); k_whole))) | (((with_reducible show wpAny _ _ (pyIter (Value.ref _)) (fun it s₂ => LoopAtV _ _ _ _ _ _ _ _ _ it s₂) _ _); k_here; refine stop_here ?_)) | ((k_here; (try dsimp only [List.append_nil, List.nil_append, List.cons_append]); (with_reducible show wpAny _ _ (call (Value.ref 265) _) _ _ _); k_dflt (refine sr_use (by k_asm) (by k_asm) (by k_asm) (by k_asm) (by k_asm) (by first | exact rfl | assumption) (word_says _ _ _ _ _ _ _ _ _ _ (by assumption) (by omega) (by omega) (by omega)) (by ktr_room) (by ktr_units) ?_); k_dflt (intro nw' v' h' tk' F' N' hR'; obtain ⟨hnw', hR2'⟩ := hR'; have hnw2' := hnw'.symm; clear hnw'; subst hnw2'; (rcases hR2' with ⟨hsz', hv'⟩ | ⟨hsz', t', hv'⟩ <;> (subst hv'; (try k_sweep); (try dsimp only)))))) | walk1 | (dsimp only; walk1) | (leave1; walk_say "STEP leave1"; try dsimp only) | fail "no step"))
        · exact hret _ _ _ _ (by assumption) (dropL (by assumption)) ⟨_, _, rfl, .inr ⟨_, _, asc_short (by omega) (by assumption) hcs, rfl⟩⟩
        · exact hret _ _ _ _ (by assumption) (dropL (by assumption)) ⟨_, _, rfl, .inr ⟨_, _, asc_low (by omega) (by assumption) (by simp) (by simpa using (by assumption : word ks cp.toNat ≤ g)) hcs, rfl⟩⟩
        · rename News _ _ _ _ => nE
          show EndF _ _ _ _ _ _ _ _ _ _ _ _ _
          rw [range_single] at *
          refine endF ⟨_, cp + 2, _, _, _, _⟩ (by assumption) nE (by first | kst_in | kst_inAny) (by first | (intro p hp; kst_mem) | kst_anyIn) led_off (by assumption : IntsAre _ (_ ++ [_])) (by kst_all) (by kst_same) ?_
          refine ⟨(by show 0 ≤ cp + 2; omega), (by assumption), (by simp only [List.length_append, List.length_cons, List.length_nil] at hcl ⊢; omega), ?_⟩
          exact asc_more (by omega) (by assumption) (fun h => by simp only [List.getLastD_concat]; omega) hcs
    · intro c u h tk hf hp' F' N'
      obtain ⟨cl0, cp, ctp, cvs, cns, cep⟩ := c
      dsimp only at hf hp' F' N'
      obtain ⟨hc0, hcz, hcl, hcs⟩ := hp'
      clear lF lN rgX
      have kM := kstMark
      have hcw := hw (p + 2).toNat
      (try dsimp only [kstB] at F')
      (try k_fold)
      (repeat' (first | (k_unfold; (try dsimp only)) | (k_end; wrow_close) | ((with_reducible show wpAny _ _ (exec _ _) _ _ _); (try dsimp only); with_reducible refine atT1 ?_; intro tk) | ((with_reducible show wpAny _ _ (binaryOp _ _ _) _ _ _); (try dsimp only); with_reducible refine atT1 ?_; intro tk) | ((k_here; (with_reducible show wpAny _ _ (call (Value.type _) [Value.ref _]) _ _ _); k_dflt (refine kll_range rfl (by assumption) (by assumption) (by assumption) (small_one (by omega) (by omega) (by omega) (by omega)) (rangeSize_nat _ _) (by omega) ?_); intro D us c h' tk' F' N' l1 hi'; (try k_lt l1); (try k_sweep))) | ((k_here; (with_reducible show wpAny _ _ (getItem (Value.ref _) (Value.int (-1) _)) _ _ _); k_dflt (refine item_end (by k_asm) (by k_memK) ?_))) | ((k_here; (with_reducible show wpAny _ _ (truthy (Value.ref _)) _ _ _); k_dflt (first | refine truthy_end (by k_asm) (by k_memK) (by omega) ?_ | refine truthy_nil (by k_asm) (by k_memK) ?_))) | ((with_reducible show wpAny _ _ (exec (PySem.Stmt.For (PySem.Expr.Name _ _) (PySem.Expr.Call _ _ _ _) _ _ _) _) _ _ _); (k_here; (rename Fr _ _ _ _ => lF'); (with_unfolding_all refine' For_invVF lF' ?k1 ?k2 ?_; (case k1 => exact rfl); (case k2 => exact rfl); k_whole))) | (((with_reducible show wpAny _ _ (pyIter (Value.ref _)) (fun it s₂ => LoopAtV _ _ _ _ _ _ _ _ _ it s₂) _ _); k_here; refine stop_here ?_)) | ((k_here; (try dsimp only [List.append_nil, List.nil_append, List.cons_append]); (with_reducible show wpAny _ _ (call (Value.ref 265) _) _ _ _); k_dflt (refine sr_use (by k_asm) (by k_asm) (by k_asm) (by k_asm) (by k_asm) (by first | exact rfl | assumption) (word_says _ _ _ _ _ _ _ _ _ _ (by assumption) (by omega) (by omega) (by omega)) (by ktr_room) (by ktr_units) ?_); k_dflt (intro nw' v' h' tk' F' N' hR'; obtain ⟨hnw', hR2'⟩ := hR'; have hnw2' := hnw'.symm; clear hnw'; subst hnw2'; (rcases hR2' with ⟨hsz', hv'⟩ | ⟨hsz', t', hv'⟩ <;> (subst hv'; (try k_sweep); (try dsimp only)))))) | walk1 | (dsimp only; walk1) | (leave1; walk_say "STEP leave1"; try dsimp only) | fail "no step"))
      exact hret _ _ _ _ (by assumption) (drop3 (by assumption)) ⟨_, _, rfl, .inl ⟨_, _, _, (by rw [← hcs, Nat.sub_self]; rfl), hf, by omega, rfl⟩⟩
set_option maxRecDepth 100000 in
set_option maxHeartbeats 1000000 in
theorem read_says (w : World) (mean mg mb) (b : Array UInt8) (ks : List Int) (p : Int) (t1 t2 : Tok) (rest : List (Addr × Obj)) (hk : KBw.bInts b = ks) (hz : ks.length ≤ 900000) (hp : p ≤ 800000) (hp0 : 0 ≤ p) : SaysR 2 w mean mg mb 272 [.bytes b t1, .int p t2] rest
      (fun news' v => ∃ r tw, v = .ref r ∧ ((∃ l vs ns, covSpec ks p = .ok ns ∧ IntsAre vs ns ∧ ns.length ≤ 65536 ∧ news' = (r, ({ cls := .type "tuple", data := .seq #[.str "glyphs" tw, .ref l] } : Obj)) :: (l, ({ cls := .type "tuple", data := .seq vs.toArray } : Obj)) :: rest) ∨
        (∃ n tn, covSpec ks p = .error n ∧ news' = (r, ({ cls := .type "tuple", data := .seq #[.str "fault" tw, .int n tn] } : Obj)) :: rest))) := readS.2 (EntP.all_of (readA readC)) w mean mg mb b ks p t1 t2 rest hk hz hp hp0
end
end Mine
end
section
open PySem PySem.W PyProof.Rows
namespace Mine
theorem drop1st {h₀ h : Heap} {L : Addr} {d : Addr × Obj} {rest : List (Addr × Obj)} (N : News h₀ L h (d :: rest)) : News h₀ L h rest := fun q hq => N q (.tail _ hq)
theorem drop3rd {h₀ h : Heap} {L : Addr} {a b d : Addr × Obj} {rest : List (Addr × Obj)} (N : News h₀ L h (a :: b :: d :: rest)) : News h₀ L h (a :: b :: rest) := fun q hq => N q (by
  simp only [List.mem_cons] at hq ⊢
  rcases hq with h | h | h <;> simp [h])
theorem set_bound {xs : List Int} {k : Nat} {v lo hi : Int} (h : ∀ x ∈ xs, lo ≤ x ∧ x ≤ hi) (hv : lo ≤ v ∧ v ≤ hi) : ∀ x ∈ xs.set k v, lo ≤ x ∧ x ≤ hi := fun x hx => by
  rcases List.mem_or_eq_of_mem_set hx with h1 | h1
  · exact h x h1
  · rw [h1]; exact hv
section
local macro_rules | `(tactic| k_all) => `(tactic| ((with_reducible refine List.forall_mem_append.mpr ⟨?_, ?_⟩) <;> k_all))
set_option maxRecDepth 100000 in
set_option maxHeartbeats 2000000 in
def bentS : {P : EntP // P.all → ∀ (w : World) (mean mg mb) (pen c l : Addr) (vs us : List Value) (ns xs : List Int) (seat great : Int) (ts tg : Tok) (ep ec el : Nat) (rest : List (Addr × Obj))
   (hI : IntsAre vs ns) (hlen : ns.length ≤ 40) (hs0 : 0 ≤ seat) (hs1 : seat ≤ 900000) (hg0 : 0 ≤ great) (hpc : pen ≠ c) (hcp : c ≠ pen) (hlp : l ≠ pen) (hlc : l ≠ c) (hr1 : OwnOff rest [pen, c]) (hr2 : ∀ p ∈ rest, p.1 ≠ l)
   (hU : IntsAre us xs) (hx2 : 2 ≤ xs.length) (hx20 : xs.length ≤ 20) (hxb : ∀ x ∈ xs, 0 ≤ x ∧ x ≤ 65535), SaysR 3 w mean mg mb 258 [.ref pen, .ref l] ((pen, listOf [.ref c, .int seat ts, .int great tg].toArray ep) :: (c, listOf vs.toArray ec) :: (l, listOf us.toArray el) :: rest)
     (fun news' v => ∃ seat' great' ts' tg' us' xs' n, 0 ≤ seat' ∧ seat' ≤ seat + 10 ∧ 0 ≤ great' ∧ v = .ref l ∧ IntsAre us' xs' ∧ xs'.length = xs.length ∧ (∀ x ∈ xs', 0 ≤ x ∧ x ≤ 65535) ∧
       news' = (pen, listOf [.ref c, .int seat' ts', .int great' tg'].toArray ep) :: (c, listOf vs.toArray ec) :: (l, listOf us'.toArray n) :: rest)} := ⟨_, fun H => by
  w_on
  intro w mean mg mb pen c l vs us ns xs seat great ts tg ep ec el rest hI hlen hs0 hs1 hg0 hpc hcp hlp hlc hr1 hr2 hU hx2 hx20 hxb dp un gd cn cs a ccd cl outer A₀ base h₀ L m s Q E B F X N T hkk hdp hun hret
  refine wpAny_call ?_
  k_dflt (refine' code_def ?k1 ?k2 ?k3 ?k4 ?k5 ?kA ?kF ?kK ?k6 ?k7 ?k8 ?k9 ?kB ?_ ?c2 ?c3 ?c4 ?c5; (case kA => exact rfl); (case kF => exact rfl); (case kK => assumption); (case k1 => k_asm); (case k2 => k_asm); (case k3 => k_asm); (case k4 => k_asm); (case k5 => k_asm); (case k6 => k_is); (case k7 => k_is); (case k8 => ktr_room); (case k9 => exact BindsTo.of_eq rfl); (case c5 => decide); (case kB => exact locs rfl); (case c2 => exact rfl); (case c3 => exact rfl); (case c4 => exact rfl); k_whole)
  intro g₁ L₁ h₁ FG' F' N' B' X' T'
  (try dsimp only)
  revert pen c l vs us ns xs seat great ts tg ep ec el rest hI hlen hs0 hs1 hg0 hpc hcp hlp hlc hr1 hr2 hU hx2 hx20 hxb B F X N T hkk hdp hun hret FG' F' N' B' X' T'
  exact H w mean mg mb dp un gd cn cs a ccd cl outer A₀ base h₀ L m s Q E g₁ L₁ h₁⟩
theorem bentX : ∃ e, bentS.1.on e → ∀ x, bentS.1.on x := ent_ex _
@[irreducible] noncomputable def bentK : Ent := Classical.choose bentX
theorem bentA : bentS.1.on bentK → ∀ x, bentS.1.on x := by
  unfold bentK
  exact Classical.choose_spec bentX
set_option maxRecDepth 100000 in
set_option maxHeartbeats 2000000 in
theorem bentC : bentS.1.on bentK := by
  w_on
  unfold EntP.on bentS
  dsimp only
  intro pen c l vs us ns xs seat great ts tg ep ec el rest hI hlen hs0 hs1 hg0 hpc hcp hlp hlc hr1 hr2 hU hx2 hx20 hxb B F X N T hkk hdp hun hret FG' F' N' B' X' T'
  have hexc : True := trivial
  have kM := kstMark
  have hr3 : OwnOff rest [l] := fun p hp b hb => by rw [List.mem_singleton.mp hb]; exact hr2 p hp
  have hg := fun k => getD_bound (ns := [0, 3, 256, 65535]) (k := k) (d := 0) (lo := 0) (hi := 65535) (by decide) ⟨by decide, by decide⟩
  have hx := fun k => getD_bound (k := k) (d := 0) hxb ⟨by decide, by decide⟩
  have hpl : pen ≠ l := hlp.symm
  have hcl2 : c ≠ l := hlc.symm
  have hxl : (2:Int) ≤ xs.length := by omega
  have hxl0 : (0:Int) < xs.length := by omega
  (repeat' (first | (k_unfold; (try dsimp only)) | (k_end; wrow_close) | ((with_reducible show wpAny _ _ (exec _ _) _ _ _); (try dsimp only); with_reducible refine atT1 ?_; intro tk) | ((with_reducible show wpAny _ _ (binaryOp _ _ _) _ _ _); (try dsimp only); with_reducible refine atT1 ?_; intro tk) | ((k_here; (with_reducible show wpAny _ _ (setItem (Value.ref _) (Value.int _ _) (Value.int _ _)) _ _ _); k_dflt (refine ksa_set (by k_asm) (by k_asm) (by k_upd) (by assumption) (by omega) (by omega) (by omega) ?_); intro h' F' N' hi' hlen' hsum'; clear hsum'; (try k_sweep))) | ((k_here; (with_reducible show wpAny _ _ (call (Value.builtin "max") [Value.int _ _, Value.int _ _]) _ _ _); k_dflt (refine max_named rfl (by assumption) (by assumption) ?_); intro m' u' h' tk' F' N' hm1 hm2 hm3; (try k_sweep))) | ((k_here; (with_reducible show wpAny _ _ (call (Value.builtin "min") [Value.int _ _, Value.int _ _]) _ _ _); k_dflt (refine min_named rfl (by assumption) (by assumption) ?_); intro m' u' h' tk' F' N' hm1 hm2 hm3; (try k_sweep))) | ((k_here; (try dsimp only [List.append_nil, List.nil_append, List.cons_append]); (with_reducible show wpAny _ _ (call (Value.ref 244) _) _ _ _); k_dflt (first | refine sr_use (by k_asm) (by k_asm) (by k_asm) (by k_asm) (by k_asm) (by first | exact rfl | assumption) (draw_says _ _ _ _ _ _ _ _ _ _ _ _ _ _ _ _ _ (by assumption) (by assumption) (by omega) (by omega) (by omega) (by omega) (by omega) (by assumption) (by assumption) (by first | assumption | exact off2 (by k_all) (by k_all))) (by ktr_room) (by ktr_units) ?_ | refine sr_use (by k_asm) (by k_asm) (by k_asm) (by k_asm) (by k_asm) (by first | exact rfl | assumption) (SaysR.of1 (draw_says _ _ _ _ _ _ _ _ _ _ _ _ _ _ _ _ _ (by assumption) (by assumption) (by omega) (by omega) (by omega) (by omega) (by omega) (by assumption) (by assumption) (off2 (by k_all) (by k_all)))) (by ktr_room) (by ktr_units) ?_); k_dflt (intro nw' v' h' tk' F' N' hR'; obtain ⟨seat', great', ts', tg', d', td', hd1', hd2', hd3', hd4', hd5', hv', hnw'⟩ := hR'; subst hnw' hv'; (try k_sweep); (try dsimp only)))) | walk1 | (dsimp only; walk1) | (leave1; walk_say "STEP leave1"; try dsimp only) | fail "no step"))
  all_goals first
    | refine hret _ _ _ _ (by assumption) (by assumption) ⟨_, _, _, _, us, xs, _, by omega, by omega, by omega, rfl, hU, rfl, hxb, rfl⟩
    | refine hret _ _ _ _ (by assumption) (drop1st (by assumption)) ⟨_, _, _, _, _, _, _, by omega, by omega, by omega, rfl, by assumption, by simp only [List.length_set], set_bound (set_bound hxb (hx _)) (hx _), rfl⟩
    | refine hret _ _ _ _ (by assumption) (by assumption) ⟨_, _, _, _, _, _, _, by omega, by omega, by omega, rfl, by assumption, by simp only [List.length_set], set_bound hxb ⟨by omega, by omega⟩, rfl⟩
    | refine hret _ _ _ _ (by assumption) (drop3rd (by assumption)) ⟨_, _, _, _, _, _, _, by omega, by omega, by omega, rfl, by assumption, by simp only [List.length_set], set_bound hxb (hg _), rfl⟩
set_option maxRecDepth 100000 in
set_option maxHeartbeats 2000000 in
theorem bent_says (w : World) (mean mg mb) (pen c l : Addr) (vs us : List Value) (ns xs : List Int) (seat great : Int) (ts tg : Tok) (ep ec el : Nat) (rest : List (Addr × Obj))
   (hI : IntsAre vs ns) (hlen : ns.length ≤ 40) (hs0 : 0 ≤ seat) (hs1 : seat ≤ 900000) (hg0 : 0 ≤ great) (hpc : pen ≠ c) (hcp : c ≠ pen) (hlp : l ≠ pen) (hlc : l ≠ c) (hr1 : OwnOff rest [pen, c]) (hr2 : ∀ p ∈ rest, p.1 ≠ l)
   (hU : IntsAre us xs) (hx2 : 2 ≤ xs.length) (hx20 : xs.length ≤ 20) (hxb : ∀ x ∈ xs, 0 ≤ x ∧ x ≤ 65535) : SaysR 3 w mean mg mb 258 [.ref pen, .ref l] ((pen, listOf [.ref c, .int seat ts, .int great tg].toArray ep) :: (c, listOf vs.toArray ec) :: (l, listOf us.toArray el) :: rest)
     (fun news' v => ∃ seat' great' ts' tg' us' xs' n, 0 ≤ seat' ∧ seat' ≤ seat + 10 ∧ 0 ≤ great' ∧ v = .ref l ∧ IntsAre us' xs' ∧ xs'.length = xs.length ∧ (∀ x ∈ xs', 0 ≤ x ∧ x ≤ 65535) ∧
       news' = (pen, listOf [.ref c, .int seat' ts', .int great' tg'].toArray ep) :: (c, listOf vs.toArray ec) :: (l, listOf us'.toArray n) :: rest) := bentS.2 (EntP.all_of (bentA bentC)) w mean mg mb pen c l vs us ns xs seat great ts tg ep ec el rest hI hlen hs0 hs1 hg0 hpc hcp hlp hlc hr1 hr2 hU hx2 hx20 hxb
end
end Mine
end
section
open PySem PySem.W PySem.Calls PyProof.Rows
set_option maxRecDepth 100000
namespace Mine
open Builtin
theorem slot_join : Slot "bytes" "join" "bytes.join" :=
  .of (owner := "bytes") (n := "join") (by rw [typeLookup_type, builtinLookup_eq_fast]; kernel_rfl) (by decide +kernel) (by decide +kernel) (by decide +kernel)
    (by first | exact .inl (by decide +kernel) | exact .inr (by decide +kernel)) (by rw [isSubtype_type]; kernel_rfl)
theorem type_join : typeOf (.builtin "bytes.join") = pure (.type "method_descriptor") := by show builtinType _ = _; rw [builtinType_eq_fast]; kernel_rfl
theorem entry_join : entryFor table "bytes.join" = some Builtin.«bytes.join» := entryFor_of_tree (by kernel_rfl)
theorem args_join (a b : Value) : argsOk "bytes.join" ⟨[a, b], []⟩ := by
  unfold argsOk; rw [signature?_of (id := "bytes.join") (n := ['n', 'i', 'o', 'j']) (o := ['s', 'e', 't', 'y', 'b']) (by kernel_rfl) FB.owner_bytes]; kernel_rfl
theorem take_eq {id : String} {b : Array UInt8} {t : Tok} : Bytes.takeBuffer? id (.bytes b t) 0 = pure (some (b, none)) := by
  unfold Bytes.takeBuffer?
  rw [KBy.special_eq KBy.look_buffer, KBy.own_buffer]
  have e : (0 == Bytes.fullReadOnly) = false := by decide
  simp only [pure_bind]
  rw [e, KBy.buffer_eq]
  kernel_rfl
theorem takeq_eq {id : String} {b : Array UInt8} {t : Tok} : Bytes.takeBufferQuiet? id (.bytes b t) 0 = pure (some (b, none)) := by
  unfold Bytes.takeBufferQuiet?
  rw [take_eq]
  rfl
theorem getMethod_join {s : Shared} {M : Model} {A : Around} {E : Value → Shared → Prop} {b : Array UInt8} {t : Tok} {pl : Sem Bool} {Q : Value × List Value → Shared → Prop} (h : Q (.builtin "bytes.join", [.bytes b t]) s) : wpAny M A (getMethod (.bytes b t) "join" pl) Q E s := by
  with_reducible exact KBd.method_of (.bytes b t) (typeIs_bytes _ _ _) slot_join type_join KBd.noRef h
theorem match_join {α : Type} {its : Array Value} {h1 : Value → α} {h2 : Array Value → α} (h : its.size ≠ 1) : Bytes.joinM.match_1 (fun _ => α) its h1 h2 = h2 its := by
  unfold Bytes.joinM.match_1
  rw [dif_neg h]
theorem yes_ {c : Prop} [Decidable c] {X Y : Prop} (hc : c) (h : X) : if c then X else Y := by
  rw [if_pos hc]
  exact h
theorem no_ {c : Prop} [Decidable c] {X Y : Prop} (hc : ¬ c) (h : Y) : if c then X else Y := by
  rw [if_neg hc]
  exact h
theorem range_list' {β : Type} (n : Nat) (b : β) (f : Nat → β → Sem (ForInStep β)) : forIn [:n] b f = forIn (List.range' 0 (n - 0) 1) b f := by
  rw [Std.Legacy.Range.forIn_eq_forIn_range']
  have hsz : ([:n] : Std.Legacy.Range).size = n := by simp [Std.Legacy.Range.size]
  show forIn (List.range' 0 ([:n] : Std.Legacy.Range).size 1) b f = _
  rw [hsz, Nat.sub_zero]
theorem joined_size : ∀ (parts : List (Array UInt8)) (k : Nat) (out : Array UInt8), (∀ p ∈ parts, p.size = 2) → ((parts.zipIdx k).foldl (fun out (p, i) => (if i > 0 then out ++ (#[] : Array UInt8) else out) ++ p) out).size = out.size + 2 * parts.length
  | [], k, out, _ => by simp
  | p :: r, k, out, h => by
    have h1 := h p (List.mem_cons_self ..)
    have h2 := joined_size r (k + 1) ((if k > 0 then out ++ (#[] : Array UInt8) else out) ++ p) fun q hq => h q (List.mem_cons_of_mem _ hq)
    rw [List.zipIdx_cons, List.foldl_cons]
    refine h2.trans ?_
    have e : (if k > 0 then out ++ (#[] : Array UInt8) else out) = out := by split <;> simp
    rw [e, Array.size_append, h1, List.length_cons]
    omega
theorem fold_size : ∀ (parts : List (Array UInt8)) (k : Nat), (∀ p ∈ parts, p.size = 2) → parts.foldl (fun a p => a + p.size) k = k + 2 * parts.length
  | [], k, _ => by simp
  | p :: r, k, h => by
    have h1 := h p (List.mem_cons_self ..)
    rw [List.foldl_cons, fold_size r _ fun q hq => h q (List.mem_cons_of_mem _ hq), h1, List.length_cons]
    omega
section
variable {M : Model} {A : Around} {E : Value → Shared → Prop} {s : Shared}
theorem letGo_taken {Q : Unit → Shared → Prop} {keep : List Value} : ∀ (taken : List (Value × Option Value)), (∀ p ∈ taken, p.2 = none) → Q () s → wpAny M A (Bytes.joinLetGo taken keep) Q E s
  | [], _, h => wpAny_pure h
  | (x, w) :: r, ht, h => by
    have e : w = none := ht (x, w) (List.mem_cons_self ..)
    subst e
    unfold Bytes.joinLetGo
    refine wpAny_bind (wpAny_bind (wpAny_holding (wpAny_point (wpAny_pure ?_))))
    exact letGo_taken r (fun q hq => ht q (List.mem_cons_of_mem _ hq)) h
end
theorem meets_join {t : Tok} {D : Addr} {its : Array Value} (hb : ∀ v ∈ its.toList, ∃ b t, v = Value.bytes b t ∧ b.size = 2) (h2 : 2 ≤ its.size) (hz : its.size ≤ 1000) :
    Meets («bytes.join» ⟨[.bytes #[] t, .ref D], []⟩) (fun _ R s => s.heap.IsList D its ∧ ∀ c, c.size = 2 * its.size → R (.ok (.ret (.bytes c s.toks))) { s with toks := s.toks + 1 }) := by
  refine .of_wp fun prog w A R s hS => ?_
  obtain ⟨⟨o, ho, hc, n, hd⟩, h⟩ := hS
  have hT : s.TypeIs (.ref D) "list" := ⟨o, ho, hc⟩
  unfold Builtin.«bytes.join» Bytes.joinM
  refine wpAny_bind (wpAny_of_eq (a := (Value.bytes #[] t, Value.ref D)) rfl ?_)
  dsimp only
  refine wpAny_ite (yes_ (by decide) ?_)
  refine wpAny_bind ?_
  unfold Bytes.joinItems
  refine wpAny_bind (wpAny_typeOf hT ?_)
  refine wpAny_ite (yes_ (by decide) ?_)
  refine wpAny_pure ?_
  refine wpAny_bind (wpAny_seqItems ho hd ?_)
  dsimp only
  refine wpAny_ite (yes_ (by decide) ?_)
  rw [match_join (by omega)]
  have hl : ∀ k, k < its.size → ∃ b t, its.getD k Value.none = Value.bytes b t ∧ b.size = 2 := fun k hk => by
    have e : its.getD k Value.none = its[k] := by simp [Array.getD, hk]
    rw [e]
    exact hb _ (Array.mem_toList_iff.mpr (Array.getElem_mem hk))
  refine wpAny_bind ?_
  rw [range_list']
  refine wpAny_forIn_list _ (fun l bs s' => s' = s ∧ ∃ k, l = List.range' k (its.size - k) 1 ∧ k ≤ its.size ∧ bs.1.size = k ∧ (∀ p ∈ bs.1.toList, p.size = 2) ∧ (∀ p ∈ bs.2, p.2 = none ∧ ∃ b t, p.1 = Value.bytes b t)) _ ?_ ?_ _ _ ⟨rfl, 0, rfl, Nat.zero_le _, rfl, by simp, by simp⟩
  · rintro k rest ⟨parts, taken⟩ s' ⟨rfl, k', hr, hk, hs, hp, ht⟩
    dsimp only at hs hp ht ⊢
    obtain ⟨j, hj⟩ : ∃ j, its.size - k' = j + 1 := by
      cases e : its.size - k' with
      | zero => rw [e] at hr; cases hr
      | succ j => exact ⟨j, rfl⟩
    rw [hj, List.range'_succ] at hr
    obtain ⟨rfl, rfl⟩ := List.cons.inj hr
    obtain ⟨b, tb, hx, hbs⟩ := hl k (by omega)
    refine wpAny_bind (wpAny_seqItems ho hd ?_)
    dsimp only
    refine wpAny_ite (no_ ?_ ?_)
    · have e : (taken.any fun x => x.fst.onHeap) = false := List.any_eq_false.mpr fun p hp => by
        obtain ⟨_, b, t, e⟩ := ht p hp
        rw [e]
        exact Bool.false_ne_true
      rw [e]
      decide
    rw [hx, takeq_eq]
    refine wpAny_bind (wpAny_holding (wpAny_pure ?_))
    dsimp only
    refine wpAny_bind (wpAny_seqItems ho hd ?_)
    dsimp only
    refine wpAny_ite (no_ (by simp) ?_)
    refine wpAny_pure ⟨rfl, k + 1, ?_, by omega, ?_, ?_, ?_⟩
    · congr 1; omega
    · simp [hs]
    · intro p hp'
      simp only [Array.toList_push, List.mem_append, List.mem_singleton] at hp'
      rcases hp' with h | h
      · exact hp p h
      · rw [h]; exact hbs
    · intro p hp'
      simp only [List.mem_append, List.mem_singleton] at hp'
      rcases hp' with h | h
      · exact ht p h
      · rw [h]; exact ⟨rfl, _, _, rfl⟩
  · rintro ⟨parts, taken⟩ s' ⟨rfl, k', hr, hk, hs, hp, ht⟩
    dsimp only at hs hp ht ⊢
    have hk2 : k' = its.size := by
      cases e : its.size - k' with
      | zero => omega
      | succ j => rw [e] at hr; cases hr
    refine wpAny_bind (wpAny_of_eq (a := (#[] : Array UInt8)) rfl ?_)
    have hps : parts.toList.length = its.size := by rw [Array.length_toList, hs, hk2]
    have hfold : Bytes.tooLong (parts.foldl (fun a p => a + p.size) ((#[] : Array UInt8).size * (parts.size - 1))) = false := by
      rw [← Array.foldl_toList, fold_size _ _ hp, hps]
      refine KBy.tooLong_not ?_
      simp only [List.size_toArray, List.length_nil, Nat.zero_mul]
      omega
    refine wpAny_ite (no_ (by rw [hfold]; exact Bool.false_ne_true) ?_)
    have hjs := joined_size parts.toList 0 #[] hp
    have hj : (Bytes.joined #[] parts.toList).size = 2 * its.size := by
      refine hjs.trans ?_
      rw [hps]
      simp
    refine wpAny_bind ?_
    show wpAny _ _ (mkBytes (Bytes.joined #[] parts.toList)) _ _ _
    refine wpAny_mkBytes ?_ (by rw [hj, sizeLine_eq]; omega)
    refine wpAny_bind (wpAny_holding (wpAny_point ?_))
    refine wpAny_bind (letGo_taken taken (fun p hp => (ht p hp).1) ?_)
    exact wpAny_pure ⟨_, rfl, h _ hj⟩
section
variable {prog : Program} {w : World} {A : Around} {E : Value → Shared → Prop} {s : Shared} {Q : Value → Shared → Prop}
theorem join_call {t : Tok} {D : Addr} {its : Array Value} (hl : s.heap.IsList D its) (hb : ∀ v ∈ its.toList, ∃ b t, v = Value.bytes b t ∧ b.size = 2) (h2 : 2 ≤ its.size) (hz : its.size ≤ 1000)
    (h : ∀ c t' tk, c.size = 2 * its.size → Q (.bytes c t') { s with toks := tk }) : wpAny (model prog w) A (call (.builtin "bytes.join") [.bytes #[] t, .ref D]) Q E s :=
  call_meets slot_join (typeIs_bytes _ _ _) entry_join (args_join _ _) (meets_join hb h2 hz) ⟨hl, fun c hc => h c _ _ hc⟩
end
end Mine
end
section
open PySem PySem.W PySem.Calls PyProof.Rows PySem.Spec
set_option maxRecDepth 100000
namespace Mine
abbrev tupO (vs : List Value) : Obj := { cls := .type "tuple", data := .seq vs.toArray }
section
variable {prog : Program} {w : World} {A : Around} {E : Value → Shared → Prop} {s : Shared} {h₀ : Heap} {L : Addr} {news : List (Addr × Obj)} {a b l k : Addr} {vs us : List Value} {ns : List Int} {t1 t2 : Tok} {Q : Value → Shared → Prop}
theorem reads_glyphs (N : News h₀ L s.heap news) (h1 : (a, tupO [.str "glyphs" t1, .ref l]) ∈ news) (h2 : (l, tupO vs) ∈ news) (hi : IntsAre vs ns) :
    Reads s.heap (.ref a) (.tuple [.str "glyphs", .tuple (ns.map PyData.int)]) [] := by
  have r := reads_tuple_at (N _ h2).1 rfl rfl (readsAll_of_ints (h := s.heap) hi)
  have q := ReadsAll.cons (Reads.str (h := s.heap) "glyphs" t1) (ReadsAll.cons r ReadsAll.nil)
  exact reads_tuple_at (N _ h1).1 rfl rfl q
theorem ne_glyphs (N : News h₀ L s.heap news) (h1 : (a, tupO [.str "glyphs" t1, .ref l]) ∈ news) (h2 : (l, tupO vs) ∈ news) (h3 : (b, tupO [.str "glyphs" t2, .ref k]) ∈ news) (h4 : (k, tupO us) ∈ news)
    (hi : IntsAre vs ns) (hj : IntsAre us ns) (hu : A.units + 64 < cLine) (h : Q (.bool false) s) : wpAny (model prog w) A (compareOp .NotEq (.ref a) (.ref b)) Q E s := by
  have hs : SeqAt.shaped (.tuple [.str "glyphs", .tuple (ns.map PyData.int)]) = true := by
    simp [SeqAt.shaped, PyData.canLay0, PyData.canLayAll0, PyData.depth, PyData.depthAll, ke_canLayAll0, ke_depthAll]
    decide +kernel
  refine ne_dataH (reads_glyphs N h1 h2 hi) (reads_glyphs N h3 h4 hj) hs hs hu ?_
  have e : PyData.eqv (.tuple [.str "glyphs", .tuple (ns.map PyData.int)]) (.tuple [.str "glyphs", .tuple (ns.map PyData.int)]) = true := by
    simp [PyData.eqv, PyData.eqvAll, ked_eqvAll]
  rw [e]
  exact h
theorem ne_fault {n : Int} {u1 u2 : Tok} (N : News h₀ L s.heap news) (h1 : (a, tupO [.str "fault" t1, .int n u1]) ∈ news) (h3 : (b, tupO [.str "fault" t2, .int n u2]) ∈ news)
    (hu : A.units + 64 < cLine) (h : Q (.bool false) s) : wpAny (model prog w) A (compareOp .NotEq (.ref a) (.ref b)) Q E s := by
  have hs : SeqAt.shaped (.tuple [.str "fault", .int n]) = true := by
    simp [SeqAt.shaped, PyData.canLay0, PyData.canLayAll0, PyData.depth, PyData.depthAll]
    decide +kernel
  have r1 := reads_tuple_at (N _ h1).1 rfl rfl (ReadsAll.cons (Reads.str (h := s.heap) "fault" t1) (ReadsAll.cons (Reads.int n u1) ReadsAll.nil))
  have r2 := reads_tuple_at (N _ h3).1 rfl rfl (ReadsAll.cons (Reads.str (h := s.heap) "fault" t2) (ReadsAll.cons (Reads.int n u2) ReadsAll.nil))
  refine ne_dataH r1 r2 hs hs hu ?_
  have e : PyData.eqv (.tuple [.str "fault", .int n]) (.tuple [.str "fault", .int n]) = true := by
    simp [PyData.eqv, PyData.eqvAll]
  rw [e]
  exact h
end
/-- an item of «[bytes([..]) for number in numbers]» -/
def BEl (news : List (Addr × Obj)) (y : Value) (news' : List (Addr × Obj)) : Prop := news' = news ∧ ∃ b t, y = .bytes b t ∧ b.size = 2
section
variable {prog : Program} {w : World} {A : Around} {h₀ : Heap} {L : Addr} {m : Str → Option Value} {env : Env} {elt : PySem.Expr} {x : Str} {scope : Scope} {cl : List (Str × Addr)} {s : Shared} {S : List (Addr × Obj) → Prop} {Fin : List Value → List (Addr × Obj) → Prop} {news : List (Addr × Obj)}
theorem lc_bytes {vs : List Value} {ns : List Int} (hi : IntsAre vs ns)
    (turn : ∀ k t I oI C oC D m₂ ys h tk (E' : Value → Shared → Prop), k ∈ ns → LCg.NsObj oC m₂ → m₂ x = some (.int k t) → Fr h₀ L h m → News h₀ L h ((I, oI) :: (C, oC) :: (D, LCg.lst ys) :: news) → LCg.Off3 I C D news → ((@Ne Nat I C) ∧ (@Ne Nat I D) ∧ (@Ne Nat C D)) →
      wpAny (model prog w) A (eval elt (compEnvC scope cl C env)) (LCg.CompEnd h₀ L m { s with heap := h, toks := tk } I oI C oC D (LCg.lst ys) S (fun y news' => BEl news y news')) E' { s with heap := h, toks := tk })
    (fin : ∀ ys, ys.length = ns.length → (∀ v ∈ ys, ∃ b t, v = Value.bytes b t ∧ b.size = 2) → Fin ys news) : LCg.CompRest prog w A h₀ L m env elt x scope cl s S (fun i v => vs.toArray[i]? = some v) Fin vs.toArray.size 0 [] news := by
  have hl : ns.length = vs.toArray.size := by rw [List.size_toArray]; exact hi.length.symm
  have key : ∀ (j i : Nat) (ys : List Value), i + j = vs.toArray.size → ys.length = i → (∀ v ∈ ys, ∃ b t, v = Value.bytes b t ∧ b.size = 2) → LCg.CompRest prog w A h₀ L m env elt x scope cl s S (fun i v => vs.toArray[i]? = some v) Fin j i ys news := by
    intro j
    induction j with
    | zero =>
      intro i ys h1 h2 h3
      exact LCg.CompRest.zero (fin ys (by omega) h3)
    | succ j ih =>
      intro i ys h1 h2 h3
      refine LCg.CompRest.succ ?_
      intro v I oI C oC D m₂ h tk E' hv hC hx F N off ne
      obtain ⟨k, t, e, hk⟩ := IntsAre.at hi i v (by simpa using hv)
      rw [e] at hx
      refine wpAny_mono (turn k t I oI C oC D m₂ ys h tk E' (List.mem_of_getElem? hk) hC hx F N off ne) (fun y s₂ hq => ?_) fun _ _ e => e
      obtain ⟨h', tk', nw, e, F', N', off', hS, hn, b, t', hy', hb'⟩ := hq
      rw [hn] at N' off' hS
      refine ⟨h', tk', news, e, F', N', off', hS, ?_⟩
      refine ih (i + 1) _ (by omega) (by simp [h2]) ?_
      intro v hv
      rcases List.mem_append.mp hv with h | h
      · exact h3 v h
      · rw [List.mem_singleton.mp h]; exact ⟨b, t', hy', hb'⟩
  exact key _ 0 [] (by omega) rfl (by simp)
end
section
variable {prog : Program} {w : World} {A : Around} {E : Value → Shared → Prop} {s : Shared} {value slice : PySem.Expr} {b c : Array UInt8} {t u : Tok} {h₀ : Heap} {L : Addr} {m : PySem.Str → Option Value} {news : List (Addr × Obj)} {Q : Value → Shared → Prop} {k : Int}
theorem cut_any (hF : Fr h₀ L s.heap m) (hN : News h₀ L s.heap news) (hz : b.size ≤ 1000000) (h0 : 0 ≤ k) (h1 : k ≤ b.size)
    (h : ∀ c h' t' tk, Fr h₀ L h' m → News h₀ L h' news → (c.size : Int) = k → Q (.bytes c t') { s with heap := h', toks := tk })
    (hs : subscripted slice false (.bytes b t) (.ref s.heap.objs.size) = operate [.ref s.heap.objs.size, .bytes b t] (getItem (.bytes b t) (.ref s.heap.objs.size)) := by with_unfolding_all rfl)
    (ht : ∀ r, letTemporaryGo value (.bytes b t) r = pure () := by intro _; with_unfolding_all rfl) :
    wpAny (model prog w) A (subscriptTail value slice (.bytes b t) (.ref s.heap.objs.size)) Q E { s with heap := s.heap.push { cls := .type "slice", data := .fields #[.none, .int k u, .none] } } := by
  refine KBc.slice_K (lo := none) (hi := some k) hF hN rfl (by constructor) (by constructor) (by rw [KBw.ints_length]; omega) (fun h' t' tk F' N' hk => h _ _ _ _ F' N' ?_) hs ht
  have e := congrArg List.length hk
  rw [KBw.ints_length] at e
  rw [e]
  obtain ⟨j, rfl⟩ : ∃ j : Nat, k = (j : Int) := ⟨k.toNat, by omega⟩
  simp only [Option.elim, clipAt_nat, List.drop_zero, Nat.sub_zero, List.length_take, KBw.ints_length]
  omega
theorem add_any (hsz : b.size + c.size ≤ 16777216) (h : ∀ d t' k, d.size = b.size + c.size → Q (.bytes d t') { s with toks := k }) : wpAny (model prog w) A (binaryOp .Add (.bytes b t) (.bytes c u)) Q E s :=
  KBy.add_bytes hsz fun t' k => h _ t' k (by rw [Array.size_append])
theorem bytes_two {D : Addr} {n : Nat} {i : Int} {t1 t2 : Tok} (F : Fr h₀ L s.heap m) (N : News h₀ L s.heap news) (hh : A.handled = none) (hm : (D, listOf [Value.int (i.fdiv 256) t1, Value.int (i.fmod 256) t2].toArray n) ∈ news) (hi : 0 ≤ i ∧ i ≤ 65535)
    (h : ∀ c h' t' tk, Fr h₀ L h' m → News h₀ L h' news → c.size = 2 → Q (.bytes c t') { s with heap := h', toks := tk }) : wpAny (model prog w) A (call (.type "bytes") [.ref D]) Q E s := by
  have e : i.fdiv 256 = i / 256 := by rw [Int.fdiv_eq_ediv_of_nonneg _ (by decide)]
  have h1 := Int.fmod_nonneg_of_pos i (b := 256) (by decide)
  have h2 := Int.fmod_lt_of_pos i (b := 256) (by decide)
  have hin : KBa.In [i.fdiv 256, i.fmod 256] := fun k hk => by
    simp only [List.mem_cons, List.not_mem_nil, or_false] at hk
    rcases hk with rfl | rfl
    · rw [e]; omega
    · exact ⟨h1, h2⟩
  exact KBa.make_K F N hh (IsL.isList (n := n) (N _ hm).1) (.cons _ _ (.cons _ _ .nil)) hin (by show 2 ≤ 16777216; decide) fun h' t' tk F' N' _ => h _ _ _ _ F' N' rfl
theorem item_three {D : Addr} {n : Nat} {a₁ a₂ a₃ : Array UInt8} {t1 t2 t3 : Tok} (N : News h₀ L s.heap news) (hm : (D, listOf [Value.bytes a₁ t1, Value.bytes a₂ t2, Value.bytes a₃ t3].toArray n) ∈ news) (h0 : 0 ≤ k) (h1 : k < 3)
    (z1 : a₁.size ≤ 3) (z2 : a₂.size ≤ 3) (z3 : a₃.size ≤ 3) (h : ∀ d t', d.size ≤ 3 → Q (.bytes d t') s)
    (hs : subscripted slice false (.ref D) (.int k u) = operate [.ref D, .int k u] (getItem (.ref D) (.int k u)) := by with_unfolding_all rfl) :
    wpAny (model prog w) A (subscriptTail value slice (.ref D) (.int k u)) Q E s := by
  have hl := IsL.isList (n := n) (N _ hm).1
  have hk : k = 0 ∨ k = 1 ∨ k = 2 := by omega
  rcases hk with rfl | rfl | rfl
  · exact tail_any hl.typeIs F.slot_list_getitem.lookup (wpAny_getItem_list hl h0 (by decide) (x := .bytes a₁ t1) rfl (h _ _ z1)) hs
  · exact tail_any hl.typeIs F.slot_list_getitem.lookup (wpAny_getItem_list hl h0 (by decide) (x := .bytes a₂ t2) rfl (h _ _ z2)) hs
  · exact tail_any hl.typeIs F.slot_list_getitem.lookup (wpAny_getItem_list hl h0 (by decide) (x := .bytes a₃ t3) rfl (h _ _ z3)) hs
theorem join_K {D : Addr} {zs : List Value} (N : News h₀ L s.heap news) (hm : (D, LCg.lst zs) ∈ news) (hb : ∀ v ∈ zs, ∃ b t, v = Value.bytes b t ∧ b.size = 2) (h2 : 2 ≤ zs.length) (hz : zs.length ≤ 1000)
    (h : ∀ c t' tk, c.size = 2 * zs.length → Q (.bytes c t') { s with toks := tk }) : wpAny (model prog w) A (call (.builtin "bytes.join") [.bytes #[] t, .ref D]) Q E s :=
  join_call (its := zs.toArray) (IsL.isList (n := zs.length) (N _ hm).1) hb h2 hz h
theorem len_any {Q : Value → Shared → Prop} (hz : b.size ≤ 1000000) (h : ∀ t' tk, Q (.int b.size t') { s with toks := tk }) : wpAny (model prog w) A (call (.builtin "len") [.bytes b t]) Q E s :=
  len_bytes (by omega) (h _ _)
end
end Mine
end
section
open PySem PySem.W PyProof.Rows
namespace Mine
theorem below_here {g h : Heap} {L : Addr} {m : Str → Option Value} (_F : Fr g L h m) : Below callerA g [] g := below_caller g
theorem toN {a b : Addr} (h : a < b) : @LT.lt Nat _ a b := h
structure LawTurn : Prop where
structure LawS where
  seat : Int
  great : Int
  ts : Tok
  tg : Tok
section
local macro_rules | `(tactic| k_all) => `(tactic| ((with_reducible refine List.forall_mem_append.mpr ⟨?_, ?_⟩) <;> k_all))
set_option maxRecDepth 100000 in
set_option maxHeartbeats 2000000 in
theorem law_holds : PySem.Challenge.rw_nu0158_01.Holds := hd (by
  w_strict (k_go0; (all_goals try k_fold); (repeat' (first | (k_unfold; (try dsimp only)) | (k_end; wrow_close) | ((with_reducible show wpAny _ _ (exec _ _) _ _ _); (try dsimp only); with_reducible refine atT1 ?_; intro tk) | ((with_reducible show wpAny _ _ (binaryOp _ _ _) _ _ _); (try dsimp only); with_reducible refine atT1 ?_; intro tk) | (((with_reducible rename LawTurn => hLT); k_here; (with_reducible show wpAny _ _ (compareOp CmpOp.NotEq (Value.ref _) (Value.ref _)) _ _ _); refine stop_here ?_)) | (((with_reducible rename LawTurn => hLT); k_here; (with_reducible show wpAny _ _ (subscriptTail _ _ (Value.ref _) (Value.int _ _)) _ _ _); k_dflt (refine item_three (by k_asm) (by k_mem) (by omega) (by omega) (by decide) (by decide) (by decide) ?_ (by with_unfolding_all rfl)); intro c' t' hcut'; (rename News _ _ _ _ => nJ'); (have N' := drop3rd nJ'); clear nJ')) | (((with_reducible rename LawTurn => hLT); k_here; (with_reducible show wpAny _ _ (call (Value.builtin "len") [Value.bytes _ _]) _ _ _); k_dflt (refine len_any (by omega) ?_); intro t' tk')) | (((with_reducible rename LawTurn => hLT); k_here; (with_reducible show wpAny _ _ (binaryOp Operator.Add (Value.bytes _ _) (Value.bytes _ _)) _ _ _); k_dflt (refine add_any (by omega) ?_); intro c' t' tk' hcut')) | (((with_reducible rename LawTurn => hLT); k_here; (try dsimp only [List.append_nil, List.nil_append, List.cons_append]); (with_reducible show wpAny _ _ (call (Value.builtin "bytes.join") [Value.bytes _ _, Value.ref _]) _ _ _); k_dflt (refine join_K (by k_asm) (by k_mem) (by assumption) (by omega) (by omega) ?_); intro c' t' tk' hcut'; (rename News _ _ _ _ => nJ'); (have N' := drop1st nJ'); clear nJ')) | (((with_reducible rename LawTurn => hLT); k_here; (with_reducible show wpAny _ _ (call (Value.type "bytes") [Value.ref _]) _ _ _); k_dflt (refine bytes_two (by k_asm) (by k_asm) rfl (by k_mem) (by assumption) ?_); intro c' h' t' tk' F' N' hcut')) | ((with_reducible show wpAny _ _ (getMethod (Value.bytes _ _) _ _) _ _ _); (k_here; (with_reducible refine getMethod_join ?_))) | ((with_reducible show LCg.CompSrc _ _ _ _ _ _ _ _ _ _ _ _ _ _); ((with_reducible rename LawTurn => hLT); k_here; refine stop_here ?_)) | ((with_reducible show wpAny _ _ (eval (PySem.Expr.ListComp _ _ _ _) _) _ _ _); ((with_reducible rename LawTurn => hLT); k_here; k_dflt (refine LCg.ListComp_U (F₀ := by k_asm) (by with_unfolding_all rfl) (by decide) (by rfl) (by decide) (by rfl) ?_))) | ((k_here; (with_reducible show wpAny _ _ (subscriptTail _ (Expr.Slice _ _ none _) (Value.bytes _ _) (Value.ref _)) _ _ _); (with_reducible rename Fr _ _ _ _ => F'); (with_reducible rename News _ _ _ _ => N'); k_dflt (refine cut_any (s := ⟨_, _, _, _, _⟩) F' N' (by first | decide | omega) (by omega) (by first | omega | (simp only [List.size_toArray, List.length_cons, List.length_nil]; omega)) ?_); intro c' h' t' tk' F' N' hcut')) | ((k_here; (try dsimp only [List.append_nil, List.nil_append, List.cons_append]); (with_reducible show wpAny _ _ (call (Value.ref 244) _) _ _ _); k_dflt (first | refine sr_use (by k_asm) (by k_asm) (by k_asm) (by k_asm) (by k_asm) (by first | exact rfl | assumption) (draw_says _ _ _ _ _ _ _ _ _ _ _ _ _ _ _ _ _ (by assumption) (by omega) (by omega) (by omega) (by omega) (by omega) (by omega) (by k_ne) (by k_ne) (off2 (by k_all) (by k_all))) (by ktr_room) (by ktr_units) ?_ | refine sr_use (by k_asm) (by k_asm) (by k_asm) (by k_asm) (by k_asm) (by first | exact rfl | assumption) (SaysR.of1 (draw_says _ _ _ _ _ _ _ _ _ _ _ _ _ _ _ _ _ (by assumption) (by omega) (by omega) (by omega) (by omega) (by omega) (by omega) (by k_ne) (by k_ne) (off2 (by k_all) (by k_all)))) (by ktr_room) (by ktr_units) ?_); k_dflt (intro nw' v' h' tk' F' N' hR'; obtain ⟨seat', great', ts', tg', d', td', hd1', hd2', hd3', hd4', hd5', hv', hnw'⟩ := hR'; subst hnw' hv'; (try k_sweep); (try dsimp only)))) | ((k_here; (try dsimp only [List.append_nil, List.nil_append, List.cons_append]); (with_reducible show wpAny _ _ (call (Value.ref 258) _) _ _ _); k_dflt (refine sr_use (by k_asm) (by k_asm) (by k_asm) (by k_asm) (by k_asm) (by first | exact rfl | assumption) (SaysR.of1 (bent_says _ _ _ _ _ _ _ _ _ _ _ _ _ _ _ _ _ _ _ (by assumption) (by omega) (by omega) (by omega) (by omega) (by k_ne) (by k_ne) (by k_ne) (by k_ne) (off2 (by k_all) (by k_all)) (by k_all) (by assumption) (by omega) (by omega) (by assumption))) (by ktr_room) (by ktr_units) ?_); k_dflt (intro nw' v' h' tk' F' N' hR'; obtain ⟨seat', great', ts', tg', us', xs', n', hb1', hb2', hb3', hv', hbI', hb4', hb5', hnw'⟩ := hR'; subst hnw' hv'; (try dsimp only)))) | ((k_here; (try dsimp only [List.append_nil, List.nil_append, List.cons_append]); (with_reducible show wpAny _ _ (call (Value.ref 251) _) _ _ _); k_dflt (refine sr_use (by k_asm) (by k_asm) (by k_asm) (by k_asm) (by k_asm) (by first | exact rfl | assumption) (numbers_says _ _ _ _ _ _ _ _ _ _ _ _ _ _ _ (by assumption) (by omega) (by omega) (by omega) (by omega) (by k_ne) (by k_ne) (off2 (by k_all) (by k_all))) (by ktr_room) (by ktr_units) ?_); k_dflt (intro nw' v' h' tk' F' N' hR'; obtain ⟨seat', great', ts', tg', l', us', xs', n', hn1', hn2', hn3', hv', hnI', hn4', hn5', hn6', hn7', hnw'⟩ := hR'; subst hnw' hv'; have hnA' := toN hn7'.1; have hnB' := toN hn7'.2.1; have hnC' := hn7'.2.2; clear hn7'; (try dsimp only)))) | (((with_reducible rename LawTurn => hLT); k_here; (with_reducible show wpAny _ _ (call (Value.ref _) _) _ _ _); refine stop_here ?_)) | ((k_here; (with_reducible show wpAny _ _ (call _ [Value.int _ _]) _ _ _); (rename Fr _ _ _ _ => F'); (rename News _ _ _ _ => N'); with_unfolding_all refine range1_rows F' N' ?_; intro _ _ _ _ _ _ _ _ _)) | ((with_reducible show wpAny _ _ (exec (PySem.Stmt.For (PySem.Expr.Name _ _) (PySem.Expr.Call _ _ _ _) _ _ _) _) _ _ _); (k_here; (rename Fr _ _ _ _ => lF'); (with_unfolding_all refine' For_invVF lF' ?k1 ?k2 ?_; (case k1 => exact rfl); (case k2 => exact rfl); k_whole))) | (((with_reducible show wpAny _ _ (pyIter (Value.ref _)) (fun it s₂ => LoopAtV _ _ _ _ _ _ _ _ _ it s₂) _ _); k_here; refine stop_here ?_)) | ((with_reducible show InvEndN _ _ _ _ _ _ _); (refine stop_here ?_)) | walk1 | (dsimp only; walk1) | (leave1; walk_say "STEP leave1"; try dsimp only) | fail "no step")))
  unfold StopHere
  rename IsRange _ _ _ _ _ _ _ _ => rgX
  rename News _ _ _ _ => lN
  rename Fr _ _ _ _ => lF
  rename_i D1 ws h4 hI1 hC1 hL1 l11 hk1 hk2 g1 hI8 hL8 D2 h3 tk3 o1 pen h2 l1 h1 hA tkA t1 u1 v1 hkeep
  obtain ⟨ns, hIN, hNS⟩ : ∃ ns, IntsAre ys ns ∧ ns.length ≤ 40 := ⟨_, hI8, by rw [List.length_map, List.length_take]; exact Nat.min_le_left _ _⟩
  clear hI8 hL8 hI1 hC1 hL1 hk1 hk2
  have BB := below_here lF
  clear F' N' hkeep
  refine range_loop (y := ()) (fun (_ : Unit) (c : LawS) => (pen, listOf ([Value.ref D2, Value.int c.seat c.ts, Value.int c.great c.tg] : List Value).toArray 0) :: (D2, LCg.lst ys) :: (D1, listOf ws.toArray 0) :: []) (fun _ _ => []) (fun _ => True) ["numbers", "at", "data"]
    (fun i c => 0 ≤ c.seat ∧ c.seat ≤ 100 * i ∧ 0 ≤ c.great) ⟨0, 0, _, _⟩ lF lN rgX rfl (by decide) (by decide) trivial (by kst_all) ?_ ?_ ?_
  · refine ⟨?_, ?_, ?_⟩ <;> (dsimp only; decide)
  · intro cc pre k t u h tk own hi hoff hf hp' F' N'
    obtain ⟨seat, great, ts, tg⟩ := cc
    dsimp only at hf hp' F' N'
    obtain ⟨hc1, hc2, hc3⟩ := hp'
    clear lF lN rgX
    have kM := kstMark
    dsimp only [kstB, List.map_cons, List.map_nil] at F' hoff
    simp only [List.cons_append, List.nil_append, List.append_assoc, List.map_cons] at N' hoff
    have hLT : LawTurn := ⟨⟩
    (try k_fold)
    (repeat' (first | (k_unfold; (try dsimp only)) | (k_end; wrow_close) | ((with_reducible show wpAny _ _ (exec _ _) _ _ _); (try dsimp only); with_reducible refine atT1 ?_; intro tk) | ((with_reducible show wpAny _ _ (binaryOp _ _ _) _ _ _); (try dsimp only); with_reducible refine atT1 ?_; intro tk) | (((with_reducible rename LawTurn => hLT); k_here; (with_reducible show wpAny _ _ (compareOp CmpOp.NotEq (Value.ref _) (Value.ref _)) _ _ _); refine stop_here ?_)) | (((with_reducible rename LawTurn => hLT); k_here; (with_reducible show wpAny _ _ (subscriptTail _ _ (Value.ref _) (Value.int _ _)) _ _ _); k_dflt (refine item_three (by k_asm) (by k_mem) (by omega) (by omega) (by decide) (by decide) (by decide) ?_ (by with_unfolding_all rfl)); intro c' t' hcut'; (rename News _ _ _ _ => nJ'); (have N' := drop3rd nJ'); clear nJ')) | (((with_reducible rename LawTurn => hLT); k_here; (with_reducible show wpAny _ _ (call (Value.builtin "len") [Value.bytes _ _]) _ _ _); k_dflt (refine len_any (by omega) ?_); intro t' tk')) | (((with_reducible rename LawTurn => hLT); k_here; (with_reducible show wpAny _ _ (binaryOp Operator.Add (Value.bytes _ _) (Value.bytes _ _)) _ _ _); k_dflt (refine add_any (by omega) ?_); intro c' t' tk' hcut')) | (((with_reducible rename LawTurn => hLT); k_here; (try dsimp only [List.append_nil, List.nil_append, List.cons_append]); (with_reducible show wpAny _ _ (call (Value.builtin "bytes.join") [Value.bytes _ _, Value.ref _]) _ _ _); k_dflt (refine join_K (by k_asm) (by k_mem) (by assumption) (by omega) (by omega) ?_); intro c' t' tk' hcut'; (rename News _ _ _ _ => nJ'); (have N' := drop1st nJ'); clear nJ')) | (((with_reducible rename LawTurn => hLT); k_here; (with_reducible show wpAny _ _ (call (Value.type "bytes") [Value.ref _]) _ _ _); k_dflt (refine bytes_two (by k_asm) (by k_asm) rfl (by k_mem) (by assumption) ?_); intro c' h' t' tk' F' N' hcut')) | ((with_reducible show wpAny _ _ (getMethod (Value.bytes _ _) _ _) _ _ _); (k_here; (with_reducible refine getMethod_join ?_))) | ((with_reducible show LCg.CompSrc _ _ _ _ _ _ _ _ _ _ _ _ _ _); ((with_reducible rename LawTurn => hLT); k_here; refine stop_here ?_)) | ((with_reducible show wpAny _ _ (eval (PySem.Expr.ListComp _ _ _ _) _) _ _ _); ((with_reducible rename LawTurn => hLT); k_here; k_dflt (refine LCg.ListComp_U (F₀ := by k_asm) (by with_unfolding_all rfl) (by decide) (by rfl) (by decide) (by rfl) ?_))) | ((k_here; (with_reducible show wpAny _ _ (subscriptTail _ (Expr.Slice _ _ none _) (Value.bytes _ _) (Value.ref _)) _ _ _); (with_reducible rename Fr _ _ _ _ => F'); (with_reducible rename News _ _ _ _ => N'); k_dflt (refine cut_any (s := ⟨_, _, _, _, _⟩) F' N' (by first | decide | omega) (by omega) (by first | omega | (simp only [List.size_toArray, List.length_cons, List.length_nil]; omega)) ?_); intro c' h' t' tk' F' N' hcut')) | ((k_here; (try dsimp only [List.append_nil, List.nil_append, List.cons_append]); (with_reducible show wpAny _ _ (call (Value.ref 244) _) _ _ _); k_dflt (first | refine sr_use (by k_asm) (by k_asm) (by k_asm) (by k_asm) (by k_asm) (by first | exact rfl | assumption) (draw_says _ _ _ _ _ _ _ _ _ _ _ _ _ _ _ _ _ (by assumption) (by omega) (by omega) (by omega) (by omega) (by omega) (by omega) (by k_ne) (by k_ne) (off2 (by k_all) (by k_all))) (by ktr_room) (by ktr_units) ?_ | refine sr_use (by k_asm) (by k_asm) (by k_asm) (by k_asm) (by k_asm) (by first | exact rfl | assumption) (SaysR.of1 (draw_says _ _ _ _ _ _ _ _ _ _ _ _ _ _ _ _ _ (by assumption) (by omega) (by omega) (by omega) (by omega) (by omega) (by omega) (by k_ne) (by k_ne) (off2 (by k_all) (by k_all)))) (by ktr_room) (by ktr_units) ?_); k_dflt (intro nw' v' h' tk' F' N' hR'; obtain ⟨seat', great', ts', tg', d', td', hd1', hd2', hd3', hd4', hd5', hv', hnw'⟩ := hR'; subst hnw' hv'; (try k_sweep); (try dsimp only)))) | ((k_here; (try dsimp only [List.append_nil, List.nil_append, List.cons_append]); (with_reducible show wpAny _ _ (call (Value.ref 258) _) _ _ _); k_dflt (refine sr_use (by k_asm) (by k_asm) (by k_asm) (by k_asm) (by k_asm) (by first | exact rfl | assumption) (SaysR.of1 (bent_says _ _ _ _ _ _ _ _ _ _ _ _ _ _ _ _ _ _ _ (by assumption) (by omega) (by omega) (by omega) (by omega) (by k_ne) (by k_ne) (by k_ne) (by k_ne) (off2 (by k_all) (by k_all)) (by k_all) (by assumption) (by omega) (by omega) (by assumption))) (by ktr_room) (by ktr_units) ?_); k_dflt (intro nw' v' h' tk' F' N' hR'; obtain ⟨seat', great', ts', tg', us', xs', n', hb1', hb2', hb3', hv', hbI', hb4', hb5', hnw'⟩ := hR'; subst hnw' hv'; (try dsimp only)))) | ((k_here; (try dsimp only [List.append_nil, List.nil_append, List.cons_append]); (with_reducible show wpAny _ _ (call (Value.ref 251) _) _ _ _); k_dflt (refine sr_use (by k_asm) (by k_asm) (by k_asm) (by k_asm) (by k_asm) (by first | exact rfl | assumption) (numbers_says _ _ _ _ _ _ _ _ _ _ _ _ _ _ _ (by assumption) (by omega) (by omega) (by omega) (by omega) (by k_ne) (by k_ne) (off2 (by k_all) (by k_all))) (by ktr_room) (by ktr_units) ?_); k_dflt (intro nw' v' h' tk' F' N' hR'; obtain ⟨seat', great', ts', tg', l', us', xs', n', hn1', hn2', hn3', hv', hnI', hn4', hn5', hn6', hn7', hnw'⟩ := hR'; subst hnw' hv'; have hnA' := toN hn7'.1; have hnB' := toN hn7'.2.1; have hnC' := hn7'.2.2; clear hn7'; (try dsimp only)))) | (((with_reducible rename LawTurn => hLT); k_here; (with_reducible show wpAny _ _ (call (Value.ref _) _) _ _ _); refine stop_here ?_)) | ((k_here; (with_reducible show wpAny _ _ (call _ [Value.int _ _]) _ _ _); (rename Fr _ _ _ _ => F'); (rename News _ _ _ _ => N'); with_unfolding_all refine range1_rows F' N' ?_; intro _ _ _ _ _ _ _ _ _)) | ((with_reducible show wpAny _ _ (exec (PySem.Stmt.For (PySem.Expr.Name _ _) (PySem.Expr.Call _ _ _ _) _ _ _) _) _ _ _); (k_here; (rename Fr _ _ _ _ => lF'); (with_unfolding_all refine' For_invVF lF' ?k1 ?k2 ?_; (case k1 => exact rfl); (case k2 => exact rfl); k_whole))) | (((with_reducible show wpAny _ _ (pyIter (Value.ref _)) (fun it s₂ => LoopAtV _ _ _ _ _ _ _ _ _ it s₂) _ _); k_here; refine stop_here ?_)) | ((with_reducible show InvEndN _ _ _ _ _ _ _); (refine stop_here ?_)) | walk1 | (dsimp only; walk1) | (leave1; walk_say "STEP leave1"; try dsimp only) | fail "no step"))
    unfold StopHere
    rename News _ _ _ _ => lN
    rename Fr _ _ _ _ => lF
    refine LCg.CompSrc.ledger (by rfl) lF lN (by k_mem) (by rw [sizeLine_eq]; simp only [List.size_toArray]; have := IntsAre.length (by assumption); omega) ?_
    intro g'
    refine lc_bytes (by assumption) ?_ ?_
    · intro kk kt I oI C oC D m₂ zs h tk E' hkm hC hx F' N' off' ne'
      have hkb : 0 ≤ kk ∧ kk ≤ 65535 := by solve_by_elim
      clear lF lN
      (try k_fold)
      (repeat' (first | (k_unfold; (try dsimp only)) | (k_end; wrow_close) | ((with_reducible show wpAny _ _ (exec _ _) _ _ _); (try dsimp only); with_reducible refine atT1 ?_; intro tk) | ((with_reducible show wpAny _ _ (binaryOp _ _ _) _ _ _); (try dsimp only); with_reducible refine atT1 ?_; intro tk) | (((with_reducible rename LawTurn => hLT); k_here; (with_reducible show wpAny _ _ (compareOp CmpOp.NotEq (Value.ref _) (Value.ref _)) _ _ _); refine stop_here ?_)) | (((with_reducible rename LawTurn => hLT); k_here; (with_reducible show wpAny _ _ (subscriptTail _ _ (Value.ref _) (Value.int _ _)) _ _ _); k_dflt (refine item_three (by k_asm) (by k_mem) (by omega) (by omega) (by decide) (by decide) (by decide) ?_ (by with_unfolding_all rfl)); intro c' t' hcut'; (rename News _ _ _ _ => nJ'); (have N' := drop3rd nJ'); clear nJ')) | (((with_reducible rename LawTurn => hLT); k_here; (with_reducible show wpAny _ _ (call (Value.builtin "len") [Value.bytes _ _]) _ _ _); k_dflt (refine len_any (by omega) ?_); intro t' tk')) | (((with_reducible rename LawTurn => hLT); k_here; (with_reducible show wpAny _ _ (binaryOp Operator.Add (Value.bytes _ _) (Value.bytes _ _)) _ _ _); k_dflt (refine add_any (by omega) ?_); intro c' t' tk' hcut')) | (((with_reducible rename LawTurn => hLT); k_here; (try dsimp only [List.append_nil, List.nil_append, List.cons_append]); (with_reducible show wpAny _ _ (call (Value.builtin "bytes.join") [Value.bytes _ _, Value.ref _]) _ _ _); k_dflt (refine join_K (by k_asm) (by k_mem) (by assumption) (by omega) (by omega) ?_); intro c' t' tk' hcut'; (rename News _ _ _ _ => nJ'); (have N' := drop1st nJ'); clear nJ')) | (((with_reducible rename LawTurn => hLT); k_here; (with_reducible show wpAny _ _ (call (Value.type "bytes") [Value.ref _]) _ _ _); k_dflt (refine bytes_two (by k_asm) (by k_asm) rfl (by k_mem) (by assumption) ?_); intro c' h' t' tk' F' N' hcut')) | ((with_reducible show wpAny _ _ (getMethod (Value.bytes _ _) _ _) _ _ _); (k_here; (with_reducible refine getMethod_join ?_))) | ((with_reducible show LCg.CompSrc _ _ _ _ _ _ _ _ _ _ _ _ _ _); ((with_reducible rename LawTurn => hLT); k_here; refine stop_here ?_)) | ((with_reducible show wpAny _ _ (eval (PySem.Expr.ListComp _ _ _ _) _) _ _ _); ((with_reducible rename LawTurn => hLT); k_here; k_dflt (refine LCg.ListComp_U (F₀ := by k_asm) (by with_unfolding_all rfl) (by decide) (by rfl) (by decide) (by rfl) ?_))) | ((k_here; (with_reducible show wpAny _ _ (subscriptTail _ (Expr.Slice _ _ none _) (Value.bytes _ _) (Value.ref _)) _ _ _); (with_reducible rename Fr _ _ _ _ => F'); (with_reducible rename News _ _ _ _ => N'); k_dflt (refine cut_any (s := ⟨_, _, _, _, _⟩) F' N' (by first | decide | omega) (by omega) (by first | omega | (simp only [List.size_toArray, List.length_cons, List.length_nil]; omega)) ?_); intro c' h' t' tk' F' N' hcut')) | ((k_here; (try dsimp only [List.append_nil, List.nil_append, List.cons_append]); (with_reducible show wpAny _ _ (call (Value.ref 244) _) _ _ _); k_dflt (first | refine sr_use (by k_asm) (by k_asm) (by k_asm) (by k_asm) (by k_asm) (by first | exact rfl | assumption) (draw_says _ _ _ _ _ _ _ _ _ _ _ _ _ _ _ _ _ (by assumption) (by omega) (by omega) (by omega) (by omega) (by omega) (by omega) (by k_ne) (by k_ne) (off2 (by k_all) (by k_all))) (by ktr_room) (by ktr_units) ?_ | refine sr_use (by k_asm) (by k_asm) (by k_asm) (by k_asm) (by k_asm) (by first | exact rfl | assumption) (SaysR.of1 (draw_says _ _ _ _ _ _ _ _ _ _ _ _ _ _ _ _ _ (by assumption) (by omega) (by omega) (by omega) (by omega) (by omega) (by omega) (by k_ne) (by k_ne) (off2 (by k_all) (by k_all)))) (by ktr_room) (by ktr_units) ?_); k_dflt (intro nw' v' h' tk' F' N' hR'; obtain ⟨seat', great', ts', tg', d', td', hd1', hd2', hd3', hd4', hd5', hv', hnw'⟩ := hR'; subst hnw' hv'; (try k_sweep); (try dsimp only)))) | ((k_here; (try dsimp only [List.append_nil, List.nil_append, List.cons_append]); (with_reducible show wpAny _ _ (call (Value.ref 258) _) _ _ _); k_dflt (refine sr_use (by k_asm) (by k_asm) (by k_asm) (by k_asm) (by k_asm) (by first | exact rfl | assumption) (SaysR.of1 (bent_says _ _ _ _ _ _ _ _ _ _ _ _ _ _ _ _ _ _ _ (by assumption) (by omega) (by omega) (by omega) (by omega) (by k_ne) (by k_ne) (by k_ne) (by k_ne) (off2 (by k_all) (by k_all)) (by k_all) (by assumption) (by omega) (by omega) (by assumption))) (by ktr_room) (by ktr_units) ?_); k_dflt (intro nw' v' h' tk' F' N' hR'; obtain ⟨seat', great', ts', tg', us', xs', n', hb1', hb2', hb3', hv', hbI', hb4', hb5', hnw'⟩ := hR'; subst hnw' hv'; (try dsimp only)))) | ((k_here; (try dsimp only [List.append_nil, List.nil_append, List.cons_append]); (with_reducible show wpAny _ _ (call (Value.ref 251) _) _ _ _); k_dflt (refine sr_use (by k_asm) (by k_asm) (by k_asm) (by k_asm) (by k_asm) (by first | exact rfl | assumption) (numbers_says _ _ _ _ _ _ _ _ _ _ _ _ _ _ _ (by assumption) (by omega) (by omega) (by omega) (by omega) (by k_ne) (by k_ne) (off2 (by k_all) (by k_all))) (by ktr_room) (by ktr_units) ?_); k_dflt (intro nw' v' h' tk' F' N' hR'; obtain ⟨seat', great', ts', tg', l', us', xs', n', hn1', hn2', hn3', hv', hnI', hn4', hn5', hn6', hn7', hnw'⟩ := hR'; subst hnw' hv'; have hnA' := toN hn7'.1; have hnB' := toN hn7'.2.1; have hnC' := hn7'.2.2; clear hn7'; (try dsimp only)))) | (((with_reducible rename LawTurn => hLT); k_here; (with_reducible show wpAny _ _ (call (Value.ref _) _) _ _ _); refine stop_here ?_)) | ((k_here; (with_reducible show wpAny _ _ (call _ [Value.int _ _]) _ _ _); (rename Fr _ _ _ _ => F'); (rename News _ _ _ _ => N'); with_unfolding_all refine range1_rows F' N' ?_; intro _ _ _ _ _ _ _ _ _)) | ((with_reducible show wpAny _ _ (exec (PySem.Stmt.For (PySem.Expr.Name _ _) (PySem.Expr.Call _ _ _ _) _ _ _) _) _ _ _); (k_here; (rename Fr _ _ _ _ => lF'); (with_unfolding_all refine' For_invVF lF' ?k1 ?k2 ?_; (case k1 => exact rfl); (case k2 => exact rfl); k_whole))) | (((with_reducible show wpAny _ _ (pyIter (Value.ref _)) (fun it s₂ => LoopAtV _ _ _ _ _ _ _ _ _ it s₂) _ _); k_here; refine stop_here ?_)) | ((with_reducible show InvEndN _ _ _ _ _ _ _); (refine stop_here ?_)) | walk1 | (dsimp only; walk1) | (leave1; walk_say "STEP leave1"; try dsimp only) | fail "no step"))
      refine LCg.CompEnd.intro (by assumption) (by assumption) _ (by kcf_all) (by assumption) (by first | lcg_src | assumption) ⟨rfl, _, _, rfl, by assumption⟩
    · intro zs hzl hzb
      unfold LCg.FinE
      intro D' h' tk' F' N' o1'
      clear lF lN
      (try simp only [List.nil_append, List.cons_append] at N')
      (try dsimp only)
      (try k_fold)
      (repeat' (first | (k_unfold; (try dsimp only)) | (k_end; wrow_close) | ((with_reducible show wpAny _ _ (exec _ _) _ _ _); (try dsimp only); with_reducible refine atT1 ?_; intro tk) | ((with_reducible show wpAny _ _ (binaryOp _ _ _) _ _ _); (try dsimp only); with_reducible refine atT1 ?_; intro tk) | (((with_reducible rename LawTurn => hLT); k_here; (with_reducible show wpAny _ _ (compareOp CmpOp.NotEq (Value.ref _) (Value.ref _)) _ _ _); refine stop_here ?_)) | (((with_reducible rename LawTurn => hLT); k_here; (with_reducible show wpAny _ _ (subscriptTail _ _ (Value.ref _) (Value.int _ _)) _ _ _); k_dflt (refine item_three (by k_asm) (by k_mem) (by omega) (by omega) (by decide) (by decide) (by decide) ?_ (by with_unfolding_all rfl)); intro c' t' hcut'; (rename News _ _ _ _ => nJ'); (have N' := drop3rd nJ'); clear nJ')) | (((with_reducible rename LawTurn => hLT); k_here; (with_reducible show wpAny _ _ (call (Value.builtin "len") [Value.bytes _ _]) _ _ _); k_dflt (refine len_any (by omega) ?_); intro t' tk')) | (((with_reducible rename LawTurn => hLT); k_here; (with_reducible show wpAny _ _ (binaryOp Operator.Add (Value.bytes _ _) (Value.bytes _ _)) _ _ _); k_dflt (refine add_any (by omega) ?_); intro c' t' tk' hcut')) | (((with_reducible rename LawTurn => hLT); k_here; (try dsimp only [List.append_nil, List.nil_append, List.cons_append]); (with_reducible show wpAny _ _ (call (Value.builtin "bytes.join") [Value.bytes _ _, Value.ref _]) _ _ _); k_dflt (refine join_K (by k_asm) (by k_mem) (by assumption) (by omega) (by omega) ?_); intro c' t' tk' hcut'; (rename News _ _ _ _ => nJ'); (have N' := drop1st nJ'); clear nJ')) | (((with_reducible rename LawTurn => hLT); k_here; (with_reducible show wpAny _ _ (call (Value.type "bytes") [Value.ref _]) _ _ _); k_dflt (refine bytes_two (by k_asm) (by k_asm) rfl (by k_mem) (by assumption) ?_); intro c' h' t' tk' F' N' hcut')) | ((with_reducible show wpAny _ _ (getMethod (Value.bytes _ _) _ _) _ _ _); (k_here; (with_reducible refine getMethod_join ?_))) | ((with_reducible show LCg.CompSrc _ _ _ _ _ _ _ _ _ _ _ _ _ _); ((with_reducible rename LawTurn => hLT); k_here; refine stop_here ?_)) | ((with_reducible show wpAny _ _ (eval (PySem.Expr.ListComp _ _ _ _) _) _ _ _); ((with_reducible rename LawTurn => hLT); k_here; k_dflt (refine LCg.ListComp_U (F₀ := by k_asm) (by with_unfolding_all rfl) (by decide) (by rfl) (by decide) (by rfl) ?_))) | ((k_here; (with_reducible show wpAny _ _ (subscriptTail _ (Expr.Slice _ _ none _) (Value.bytes _ _) (Value.ref _)) _ _ _); (with_reducible rename Fr _ _ _ _ => F'); (with_reducible rename News _ _ _ _ => N'); k_dflt (refine cut_any (s := ⟨_, _, _, _, _⟩) F' N' (by first | decide | omega) (by omega) (by first | omega | (simp only [List.size_toArray, List.length_cons, List.length_nil]; omega)) ?_); intro c' h' t' tk' F' N' hcut')) | ((k_here; (try dsimp only [List.append_nil, List.nil_append, List.cons_append]); (with_reducible show wpAny _ _ (call (Value.ref 244) _) _ _ _); k_dflt (first | refine sr_use (by k_asm) (by k_asm) (by k_asm) (by k_asm) (by k_asm) (by first | exact rfl | assumption) (draw_says _ _ _ _ _ _ _ _ _ _ _ _ _ _ _ _ _ (by assumption) (by omega) (by omega) (by omega) (by omega) (by omega) (by omega) (by k_ne) (by k_ne) (off2 (by k_all) (by k_all))) (by ktr_room) (by ktr_units) ?_ | refine sr_use (by k_asm) (by k_asm) (by k_asm) (by k_asm) (by k_asm) (by first | exact rfl | assumption) (SaysR.of1 (draw_says _ _ _ _ _ _ _ _ _ _ _ _ _ _ _ _ _ (by assumption) (by omega) (by omega) (by omega) (by omega) (by omega) (by omega) (by k_ne) (by k_ne) (off2 (by k_all) (by k_all)))) (by ktr_room) (by ktr_units) ?_); k_dflt (intro nw' v' h' tk' F' N' hR'; obtain ⟨seat', great', ts', tg', d', td', hd1', hd2', hd3', hd4', hd5', hv', hnw'⟩ := hR'; subst hnw' hv'; (try k_sweep); (try dsimp only)))) | ((k_here; (try dsimp only [List.append_nil, List.nil_append, List.cons_append]); (with_reducible show wpAny _ _ (call (Value.ref 258) _) _ _ _); k_dflt (refine sr_use (by k_asm) (by k_asm) (by k_asm) (by k_asm) (by k_asm) (by first | exact rfl | assumption) (SaysR.of1 (bent_says _ _ _ _ _ _ _ _ _ _ _ _ _ _ _ _ _ _ _ (by assumption) (by omega) (by omega) (by omega) (by omega) (by k_ne) (by k_ne) (by k_ne) (by k_ne) (off2 (by k_all) (by k_all)) (by k_all) (by assumption) (by omega) (by omega) (by assumption))) (by ktr_room) (by ktr_units) ?_); k_dflt (intro nw' v' h' tk' F' N' hR'; obtain ⟨seat', great', ts', tg', us', xs', n', hb1', hb2', hb3', hv', hbI', hb4', hb5', hnw'⟩ := hR'; subst hnw' hv'; (try dsimp only)))) | ((k_here; (try dsimp only [List.append_nil, List.nil_append, List.cons_append]); (with_reducible show wpAny _ _ (call (Value.ref 251) _) _ _ _); k_dflt (refine sr_use (by k_asm) (by k_asm) (by k_asm) (by k_asm) (by k_asm) (by first | exact rfl | assumption) (numbers_says _ _ _ _ _ _ _ _ _ _ _ _ _ _ _ (by assumption) (by omega) (by omega) (by omega) (by omega) (by k_ne) (by k_ne) (off2 (by k_all) (by k_all))) (by ktr_room) (by ktr_units) ?_); k_dflt (intro nw' v' h' tk' F' N' hR'; obtain ⟨seat', great', ts', tg', l', us', xs', n', hn1', hn2', hn3', hv', hnI', hn4', hn5', hn6', hn7', hnw'⟩ := hR'; subst hnw' hv'; have hnA' := toN hn7'.1; have hnB' := toN hn7'.2.1; have hnC' := hn7'.2.2; clear hn7'; (try dsimp only)))) | (((with_reducible rename LawTurn => hLT); k_here; (with_reducible show wpAny _ _ (call (Value.ref _) _) _ _ _); refine stop_here ?_)) | ((k_here; (with_reducible show wpAny _ _ (call _ [Value.int _ _]) _ _ _); (rename Fr _ _ _ _ => F'); (rename News _ _ _ _ => N'); with_unfolding_all refine range1_rows F' N' ?_; intro _ _ _ _ _ _ _ _ _)) | ((with_reducible show wpAny _ _ (exec (PySem.Stmt.For (PySem.Expr.Name _ _) (PySem.Expr.Call _ _ _ _) _ _ _) _) _ _ _); (k_here; (rename Fr _ _ _ _ => lF'); (with_unfolding_all refine' For_invVF lF' ?k1 ?k2 ?_; (case k1 => exact rfl); (case k2 => exact rfl); k_whole))) | (((with_reducible show wpAny _ _ (pyIter (Value.ref _)) (fun it s₂ => LoopAtV _ _ _ _ _ _ _ _ _ it s₂) _ _); k_here; refine stop_here ?_)) | ((with_reducible show InvEndN _ _ _ _ _ _ _); (refine stop_here ?_)) | walk1 | (dsimp only; walk1) | (leave1; walk_say "STEP leave1"; try dsimp only) | fail "no step"))
      all_goals
        unfold StopHere
        with_reducible show wpAny _ _ (call (Value.ref 279) [Value.bytes _ _, Value.int _ _]) _ _ _
        refine heard_says _ _ _ _ _ _ _ _ _ _ rfl (by rw [KBw.ints_length]; omega) (by omega) (by omega) _ _ _ _ _ _ _ _ _ _ _ _ _ _ _ _ (by assumption) (by assumption) (by assumption) (by assumption) (by assumption) rfl (by ktr_room) (by ktr_units) ?_
        intro nw v h' tk' F2 N2 hR
        obtain ⟨r, tw, rfl, (⟨la, va, na, hca, hia, hza, rfl⟩ | ⟨ea, ta, hca, rfl⟩)⟩ := hR
      all_goals
        (try dsimp only)
        (repeat' (first | (k_unfold; (try dsimp only)) | (k_end; wrow_close) | ((with_reducible show wpAny _ _ (exec _ _) _ _ _); (try dsimp only); with_reducible refine atT1 ?_; intro tk) | ((with_reducible show wpAny _ _ (binaryOp _ _ _) _ _ _); (try dsimp only); with_reducible refine atT1 ?_; intro tk) | (((with_reducible rename LawTurn => hLT); k_here; (with_reducible show wpAny _ _ (compareOp CmpOp.NotEq (Value.ref _) (Value.ref _)) _ _ _); refine stop_here ?_)) | (((with_reducible rename LawTurn => hLT); k_here; (with_reducible show wpAny _ _ (subscriptTail _ _ (Value.ref _) (Value.int _ _)) _ _ _); k_dflt (refine item_three (by k_asm) (by k_mem) (by omega) (by omega) (by decide) (by decide) (by decide) ?_ (by with_unfolding_all rfl)); intro c' t' hcut'; (rename News _ _ _ _ => nJ'); (have N' := drop3rd nJ'); clear nJ')) | (((with_reducible rename LawTurn => hLT); k_here; (with_reducible show wpAny _ _ (call (Value.builtin "len") [Value.bytes _ _]) _ _ _); k_dflt (refine len_any (by omega) ?_); intro t' tk')) | (((with_reducible rename LawTurn => hLT); k_here; (with_reducible show wpAny _ _ (binaryOp Operator.Add (Value.bytes _ _) (Value.bytes _ _)) _ _ _); k_dflt (refine add_any (by omega) ?_); intro c' t' tk' hcut')) | (((with_reducible rename LawTurn => hLT); k_here; (try dsimp only [List.append_nil, List.nil_append, List.cons_append]); (with_reducible show wpAny _ _ (call (Value.builtin "bytes.join") [Value.bytes _ _, Value.ref _]) _ _ _); k_dflt (refine join_K (by k_asm) (by k_mem) (by assumption) (by omega) (by omega) ?_); intro c' t' tk' hcut'; (rename News _ _ _ _ => nJ'); (have N' := drop1st nJ'); clear nJ')) | (((with_reducible rename LawTurn => hLT); k_here; (with_reducible show wpAny _ _ (call (Value.type "bytes") [Value.ref _]) _ _ _); k_dflt (refine bytes_two (by k_asm) (by k_asm) rfl (by k_mem) (by assumption) ?_); intro c' h' t' tk' F' N' hcut')) | ((with_reducible show wpAny _ _ (getMethod (Value.bytes _ _) _ _) _ _ _); (k_here; (with_reducible refine getMethod_join ?_))) | ((with_reducible show LCg.CompSrc _ _ _ _ _ _ _ _ _ _ _ _ _ _); ((with_reducible rename LawTurn => hLT); k_here; refine stop_here ?_)) | ((with_reducible show wpAny _ _ (eval (PySem.Expr.ListComp _ _ _ _) _) _ _ _); ((with_reducible rename LawTurn => hLT); k_here; k_dflt (refine LCg.ListComp_U (F₀ := by k_asm) (by with_unfolding_all rfl) (by decide) (by rfl) (by decide) (by rfl) ?_))) | ((k_here; (with_reducible show wpAny _ _ (subscriptTail _ (Expr.Slice _ _ none _) (Value.bytes _ _) (Value.ref _)) _ _ _); (with_reducible rename Fr _ _ _ _ => F'); (with_reducible rename News _ _ _ _ => N'); k_dflt (refine cut_any (s := ⟨_, _, _, _, _⟩) F' N' (by first | decide | omega) (by omega) (by first | omega | (simp only [List.size_toArray, List.length_cons, List.length_nil]; omega)) ?_); intro c' h' t' tk' F' N' hcut')) | ((k_here; (try dsimp only [List.append_nil, List.nil_append, List.cons_append]); (with_reducible show wpAny _ _ (call (Value.ref 244) _) _ _ _); k_dflt (first | refine sr_use (by k_asm) (by k_asm) (by k_asm) (by k_asm) (by k_asm) (by first | exact rfl | assumption) (draw_says _ _ _ _ _ _ _ _ _ _ _ _ _ _ _ _ _ (by assumption) (by omega) (by omega) (by omega) (by omega) (by omega) (by omega) (by k_ne) (by k_ne) (off2 (by k_all) (by k_all))) (by ktr_room) (by ktr_units) ?_ | refine sr_use (by k_asm) (by k_asm) (by k_asm) (by k_asm) (by k_asm) (by first | exact rfl | assumption) (SaysR.of1 (draw_says _ _ _ _ _ _ _ _ _ _ _ _ _ _ _ _ _ (by assumption) (by omega) (by omega) (by omega) (by omega) (by omega) (by omega) (by k_ne) (by k_ne) (off2 (by k_all) (by k_all)))) (by ktr_room) (by ktr_units) ?_); k_dflt (intro nw' v' h' tk' F' N' hR'; obtain ⟨seat', great', ts', tg', d', td', hd1', hd2', hd3', hd4', hd5', hv', hnw'⟩ := hR'; subst hnw' hv'; (try k_sweep); (try dsimp only)))) | ((k_here; (try dsimp only [List.append_nil, List.nil_append, List.cons_append]); (with_reducible show wpAny _ _ (call (Value.ref 258) _) _ _ _); k_dflt (refine sr_use (by k_asm) (by k_asm) (by k_asm) (by k_asm) (by k_asm) (by first | exact rfl | assumption) (SaysR.of1 (bent_says _ _ _ _ _ _ _ _ _ _ _ _ _ _ _ _ _ _ _ (by assumption) (by omega) (by omega) (by omega) (by omega) (by k_ne) (by k_ne) (by k_ne) (by k_ne) (off2 (by k_all) (by k_all)) (by k_all) (by assumption) (by omega) (by omega) (by assumption))) (by ktr_room) (by ktr_units) ?_); k_dflt (intro nw' v' h' tk' F' N' hR'; obtain ⟨seat', great', ts', tg', us', xs', n', hb1', hb2', hb3', hv', hbI', hb4', hb5', hnw'⟩ := hR'; subst hnw' hv'; (try dsimp only)))) | ((k_here; (try dsimp only [List.append_nil, List.nil_append, List.cons_append]); (with_reducible show wpAny _ _ (call (Value.ref 251) _) _ _ _); k_dflt (refine sr_use (by k_asm) (by k_asm) (by k_asm) (by k_asm) (by k_asm) (by first | exact rfl | assumption) (numbers_says _ _ _ _ _ _ _ _ _ _ _ _ _ _ _ (by assumption) (by omega) (by omega) (by omega) (by omega) (by k_ne) (by k_ne) (off2 (by k_all) (by k_all))) (by ktr_room) (by ktr_units) ?_); k_dflt (intro nw' v' h' tk' F' N' hR'; obtain ⟨seat', great', ts', tg', l', us', xs', n', hn1', hn2', hn3', hv', hnI', hn4', hn5', hn6', hn7', hnw'⟩ := hR'; subst hnw' hv'; have hnA' := toN hn7'.1; have hnB' := toN hn7'.2.1; have hnC' := hn7'.2.2; clear hn7'; (try dsimp only)))) | (((with_reducible rename LawTurn => hLT); k_here; (with_reducible show wpAny _ _ (call (Value.ref _) _) _ _ _); refine stop_here ?_)) | ((k_here; (with_reducible show wpAny _ _ (call _ [Value.int _ _]) _ _ _); (rename Fr _ _ _ _ => F'); (rename News _ _ _ _ => N'); with_unfolding_all refine range1_rows F' N' ?_; intro _ _ _ _ _ _ _ _ _)) | ((with_reducible show wpAny _ _ (exec (PySem.Stmt.For (PySem.Expr.Name _ _) (PySem.Expr.Call _ _ _ _) _ _ _) _) _ _ _); (k_here; (rename Fr _ _ _ _ => lF'); (with_unfolding_all refine' For_invVF lF' ?k1 ?k2 ?_; (case k1 => exact rfl); (case k2 => exact rfl); k_whole))) | (((with_reducible show wpAny _ _ (pyIter (Value.ref _)) (fun it s₂ => LoopAtV _ _ _ _ _ _ _ _ _ it s₂) _ _); k_here; refine stop_here ?_)) | ((with_reducible show InvEndN _ _ _ _ _ _ _); (refine stop_here ?_)) | walk1 | (dsimp only; walk1) | (leave1; walk_say "STEP leave1"; try dsimp only) | fail "no step"))
        unfold StopHere
        with_reducible show wpAny _ _ (call (Value.ref 272) [Value.bytes _ _, Value.int _ _]) _ _ _
        rename News _ _ _ _ => nR
        rename Fr _ _ _ _ => fR
        refine sr_use BB fR (by assumption) nR (by assumption) rfl (read_says _ _ _ _ _ _ _ _ _ _ rfl (by rw [KBw.ints_length]; omega) (by omega) (by omega)) (by ktr_room) (by ktr_units) ?_
        clear nR fR
        intro nw v h' tk' F3 N3 hR
        obtain ⟨r2, tw2, rfl, (⟨lb, vb, nb, hcb, hib, hzb, rfl⟩ | ⟨eb, tb, hcb, rfl⟩)⟩ := hR
        all_goals rw [hca] at hcb
        all_goals first | (exfalso; cases hcb; done) | cases hcb
        (try dsimp only)
        (repeat' (first | (k_unfold; (try dsimp only)) | (k_end; wrow_close) | ((with_reducible show wpAny _ _ (exec _ _) _ _ _); (try dsimp only); with_reducible refine atT1 ?_; intro tk) | ((with_reducible show wpAny _ _ (binaryOp _ _ _) _ _ _); (try dsimp only); with_reducible refine atT1 ?_; intro tk) | (((with_reducible rename LawTurn => hLT); k_here; (with_reducible show wpAny _ _ (compareOp CmpOp.NotEq (Value.ref _) (Value.ref _)) _ _ _); refine stop_here ?_)) | (((with_reducible rename LawTurn => hLT); k_here; (with_reducible show wpAny _ _ (subscriptTail _ _ (Value.ref _) (Value.int _ _)) _ _ _); k_dflt (refine item_three (by k_asm) (by k_mem) (by omega) (by omega) (by decide) (by decide) (by decide) ?_ (by with_unfolding_all rfl)); intro c' t' hcut'; (rename News _ _ _ _ => nJ'); (have N' := drop3rd nJ'); clear nJ')) | (((with_reducible rename LawTurn => hLT); k_here; (with_reducible show wpAny _ _ (call (Value.builtin "len") [Value.bytes _ _]) _ _ _); k_dflt (refine len_any (by omega) ?_); intro t' tk')) | (((with_reducible rename LawTurn => hLT); k_here; (with_reducible show wpAny _ _ (binaryOp Operator.Add (Value.bytes _ _) (Value.bytes _ _)) _ _ _); k_dflt (refine add_any (by omega) ?_); intro c' t' tk' hcut')) | (((with_reducible rename LawTurn => hLT); k_here; (try dsimp only [List.append_nil, List.nil_append, List.cons_append]); (with_reducible show wpAny _ _ (call (Value.builtin "bytes.join") [Value.bytes _ _, Value.ref _]) _ _ _); k_dflt (refine join_K (by k_asm) (by k_mem) (by assumption) (by omega) (by omega) ?_); intro c' t' tk' hcut'; (rename News _ _ _ _ => nJ'); (have N' := drop1st nJ'); clear nJ')) | (((with_reducible rename LawTurn => hLT); k_here; (with_reducible show wpAny _ _ (call (Value.type "bytes") [Value.ref _]) _ _ _); k_dflt (refine bytes_two (by k_asm) (by k_asm) rfl (by k_mem) (by assumption) ?_); intro c' h' t' tk' F' N' hcut')) | ((with_reducible show wpAny _ _ (getMethod (Value.bytes _ _) _ _) _ _ _); (k_here; (with_reducible refine getMethod_join ?_))) | ((with_reducible show LCg.CompSrc _ _ _ _ _ _ _ _ _ _ _ _ _ _); ((with_reducible rename LawTurn => hLT); k_here; refine stop_here ?_)) | ((with_reducible show wpAny _ _ (eval (PySem.Expr.ListComp _ _ _ _) _) _ _ _); ((with_reducible rename LawTurn => hLT); k_here; k_dflt (refine LCg.ListComp_U (F₀ := by k_asm) (by with_unfolding_all rfl) (by decide) (by rfl) (by decide) (by rfl) ?_))) | ((k_here; (with_reducible show wpAny _ _ (subscriptTail _ (Expr.Slice _ _ none _) (Value.bytes _ _) (Value.ref _)) _ _ _); (with_reducible rename Fr _ _ _ _ => F'); (with_reducible rename News _ _ _ _ => N'); k_dflt (refine cut_any (s := ⟨_, _, _, _, _⟩) F' N' (by first | decide | omega) (by omega) (by first | omega | (simp only [List.size_toArray, List.length_cons, List.length_nil]; omega)) ?_); intro c' h' t' tk' F' N' hcut')) | ((k_here; (try dsimp only [List.append_nil, List.nil_append, List.cons_append]); (with_reducible show wpAny _ _ (call (Value.ref 244) _) _ _ _); k_dflt (first | refine sr_use (by k_asm) (by k_asm) (by k_asm) (by k_asm) (by k_asm) (by first | exact rfl | assumption) (draw_says _ _ _ _ _ _ _ _ _ _ _ _ _ _ _ _ _ (by assumption) (by omega) (by omega) (by omega) (by omega) (by omega) (by omega) (by k_ne) (by k_ne) (off2 (by k_all) (by k_all))) (by ktr_room) (by ktr_units) ?_ | refine sr_use (by k_asm) (by k_asm) (by k_asm) (by k_asm) (by k_asm) (by first | exact rfl | assumption) (SaysR.of1 (draw_says _ _ _ _ _ _ _ _ _ _ _ _ _ _ _ _ _ (by assumption) (by omega) (by omega) (by omega) (by omega) (by omega) (by omega) (by k_ne) (by k_ne) (off2 (by k_all) (by k_all)))) (by ktr_room) (by ktr_units) ?_); k_dflt (intro nw' v' h' tk' F' N' hR'; obtain ⟨seat', great', ts', tg', d', td', hd1', hd2', hd3', hd4', hd5', hv', hnw'⟩ := hR'; subst hnw' hv'; (try k_sweep); (try dsimp only)))) | ((k_here; (try dsimp only [List.append_nil, List.nil_append, List.cons_append]); (with_reducible show wpAny _ _ (call (Value.ref 258) _) _ _ _); k_dflt (refine sr_use (by k_asm) (by k_asm) (by k_asm) (by k_asm) (by k_asm) (by first | exact rfl | assumption) (SaysR.of1 (bent_says _ _ _ _ _ _ _ _ _ _ _ _ _ _ _ _ _ _ _ (by assumption) (by omega) (by omega) (by omega) (by omega) (by k_ne) (by k_ne) (by k_ne) (by k_ne) (off2 (by k_all) (by k_all)) (by k_all) (by assumption) (by omega) (by omega) (by assumption))) (by ktr_room) (by ktr_units) ?_); k_dflt (intro nw' v' h' tk' F' N' hR'; obtain ⟨seat', great', ts', tg', us', xs', n', hb1', hb2', hb3', hv', hbI', hb4', hb5', hnw'⟩ := hR'; subst hnw' hv'; (try dsimp only)))) | ((k_here; (try dsimp only [List.append_nil, List.nil_append, List.cons_append]); (with_reducible show wpAny _ _ (call (Value.ref 251) _) _ _ _); k_dflt (refine sr_use (by k_asm) (by k_asm) (by k_asm) (by k_asm) (by k_asm) (by first | exact rfl | assumption) (numbers_says _ _ _ _ _ _ _ _ _ _ _ _ _ _ _ (by assumption) (by omega) (by omega) (by omega) (by omega) (by k_ne) (by k_ne) (off2 (by k_all) (by k_all))) (by ktr_room) (by ktr_units) ?_); k_dflt (intro nw' v' h' tk' F' N' hR'; obtain ⟨seat', great', ts', tg', l', us', xs', n', hn1', hn2', hn3', hv', hnI', hn4', hn5', hn6', hn7', hnw'⟩ := hR'; subst hnw' hv'; have hnA' := toN hn7'.1; have hnB' := toN hn7'.2.1; have hnC' := hn7'.2.2; clear hn7'; (try dsimp only)))) | (((with_reducible rename LawTurn => hLT); k_here; (with_reducible show wpAny _ _ (call (Value.ref _) _) _ _ _); refine stop_here ?_)) | ((k_here; (with_reducible show wpAny _ _ (call _ [Value.int _ _]) _ _ _); (rename Fr _ _ _ _ => F'); (rename News _ _ _ _ => N'); with_unfolding_all refine range1_rows F' N' ?_; intro _ _ _ _ _ _ _ _ _)) | ((with_reducible show wpAny _ _ (exec (PySem.Stmt.For (PySem.Expr.Name _ _) (PySem.Expr.Call _ _ _ _) _ _ _) _) _ _ _); (k_here; (rename Fr _ _ _ _ => lF'); (with_unfolding_all refine' For_invVF lF' ?k1 ?k2 ?_; (case k1 => exact rfl); (case k2 => exact rfl); k_whole))) | (((with_reducible show wpAny _ _ (pyIter (Value.ref _)) (fun it s₂ => LoopAtV _ _ _ _ _ _ _ _ _ it s₂) _ _); k_here; refine stop_here ?_)) | ((with_reducible show InvEndN _ _ _ _ _ _ _); (refine stop_here ?_)) | walk1 | (dsimp only; walk1) | (leave1; walk_say "STEP leave1"; try dsimp only) | fail "no step"))
        unfold StopHere
        with_reducible show wpAny _ _ (compareOp CmpOp.NotEq (Value.ref r) (Value.ref r2)) _ _ _
        first
          | refine ne_glyphs N3 (.tail _ (.tail _ (.head _))) (.tail _ (.tail _ (.tail _ (.head _)))) (.head _) (.tail _ (.head _)) hia hib (by ke_room) ?_
          | refine ne_fault N3 (.tail _ (.head _)) (.head _) (by ke_room) ?_
        (try dsimp only)
        (repeat' (first | (k_unfold; (try dsimp only)) | (k_end; wrow_close) | ((with_reducible show wpAny _ _ (exec _ _) _ _ _); (try dsimp only); with_reducible refine atT1 ?_; intro tk) | ((with_reducible show wpAny _ _ (binaryOp _ _ _) _ _ _); (try dsimp only); with_reducible refine atT1 ?_; intro tk) | (((with_reducible rename LawTurn => hLT); k_here; (with_reducible show wpAny _ _ (compareOp CmpOp.NotEq (Value.ref _) (Value.ref _)) _ _ _); refine stop_here ?_)) | (((with_reducible rename LawTurn => hLT); k_here; (with_reducible show wpAny _ _ (subscriptTail _ _ (Value.ref _) (Value.int _ _)) _ _ _); k_dflt (refine item_three (by k_asm) (by k_mem) (by omega) (by omega) (by decide) (by decide) (by decide) ?_ (by with_unfolding_all rfl)); intro c' t' hcut'; (rename News _ _ _ _ => nJ'); (have N' := drop3rd nJ'); clear nJ')) | (((with_reducible rename LawTurn => hLT); k_here; (with_reducible show wpAny _ _ (call (Value.builtin "len") [Value.bytes _ _]) _ _ _); k_dflt (refine len_any (by omega) ?_); intro t' tk')) | (((with_reducible rename LawTurn => hLT); k_here; (with_reducible show wpAny _ _ (binaryOp Operator.Add (Value.bytes _ _) (Value.bytes _ _)) _ _ _); k_dflt (refine add_any (by omega) ?_); intro c' t' tk' hcut')) | (((with_reducible rename LawTurn => hLT); k_here; (try dsimp only [List.append_nil, List.nil_append, List.cons_append]); (with_reducible show wpAny _ _ (call (Value.builtin "bytes.join") [Value.bytes _ _, Value.ref _]) _ _ _); k_dflt (refine join_K (by k_asm) (by k_mem) (by assumption) (by omega) (by omega) ?_); intro c' t' tk' hcut'; (rename News _ _ _ _ => nJ'); (have N' := drop1st nJ'); clear nJ')) | (((with_reducible rename LawTurn => hLT); k_here; (with_reducible show wpAny _ _ (call (Value.type "bytes") [Value.ref _]) _ _ _); k_dflt (refine bytes_two (by k_asm) (by k_asm) rfl (by k_mem) (by assumption) ?_); intro c' h' t' tk' F' N' hcut')) | ((with_reducible show wpAny _ _ (getMethod (Value.bytes _ _) _ _) _ _ _); (k_here; (with_reducible refine getMethod_join ?_))) | ((with_reducible show LCg.CompSrc _ _ _ _ _ _ _ _ _ _ _ _ _ _); ((with_reducible rename LawTurn => hLT); k_here; refine stop_here ?_)) | ((with_reducible show wpAny _ _ (eval (PySem.Expr.ListComp _ _ _ _) _) _ _ _); ((with_reducible rename LawTurn => hLT); k_here; k_dflt (refine LCg.ListComp_U (F₀ := by k_asm) (by with_unfolding_all rfl) (by decide) (by rfl) (by decide) (by rfl) ?_))) | ((k_here; (with_reducible show wpAny _ _ (subscriptTail _ (Expr.Slice _ _ none _) (Value.bytes _ _) (Value.ref _)) _ _ _); (with_reducible rename Fr _ _ _ _ => F'); (with_reducible rename News _ _ _ _ => N'); k_dflt (refine cut_any (s := ⟨_, _, _, _, _⟩) F' N' (by first | decide | omega) (by omega) (by first | omega | (simp only [List.size_toArray, List.length_cons, List.length_nil]; omega)) ?_); intro c' h' t' tk' F' N' hcut')) | ((k_here; (try dsimp only [List.append_nil, List.nil_append, List.cons_append]); (with_reducible show wpAny _ _ (call (Value.ref 244) _) _ _ _); k_dflt (first | refine sr_use (by k_asm) (by k_asm) (by k_asm) (by k_asm) (by k_asm) (by first | exact rfl | assumption) (draw_says _ _ _ _ _ _ _ _ _ _ _ _ _ _ _ _ _ (by assumption) (by omega) (by omega) (by omega) (by omega) (by omega) (by omega) (by k_ne) (by k_ne) (off2 (by k_all) (by k_all))) (by ktr_room) (by ktr_units) ?_ | refine sr_use (by k_asm) (by k_asm) (by k_asm) (by k_asm) (by k_asm) (by first | exact rfl | assumption) (SaysR.of1 (draw_says _ _ _ _ _ _ _ _ _ _ _ _ _ _ _ _ _ (by assumption) (by omega) (by omega) (by omega) (by omega) (by omega) (by omega) (by k_ne) (by k_ne) (off2 (by k_all) (by k_all)))) (by ktr_room) (by ktr_units) ?_); k_dflt (intro nw' v' h' tk' F' N' hR'; obtain ⟨seat', great', ts', tg', d', td', hd1', hd2', hd3', hd4', hd5', hv', hnw'⟩ := hR'; subst hnw' hv'; (try k_sweep); (try dsimp only)))) | ((k_here; (try dsimp only [List.append_nil, List.nil_append, List.cons_append]); (with_reducible show wpAny _ _ (call (Value.ref 258) _) _ _ _); k_dflt (refine sr_use (by k_asm) (by k_asm) (by k_asm) (by k_asm) (by k_asm) (by first | exact rfl | assumption) (SaysR.of1 (bent_says _ _ _ _ _ _ _ _ _ _ _ _ _ _ _ _ _ _ _ (by assumption) (by omega) (by omega) (by omega) (by omega) (by k_ne) (by k_ne) (by k_ne) (by k_ne) (off2 (by k_all) (by k_all)) (by k_all) (by assumption) (by omega) (by omega) (by assumption))) (by ktr_room) (by ktr_units) ?_); k_dflt (intro nw' v' h' tk' F' N' hR'; obtain ⟨seat', great', ts', tg', us', xs', n', hb1', hb2', hb3', hv', hbI', hb4', hb5', hnw'⟩ := hR'; subst hnw' hv'; (try dsimp only)))) | ((k_here; (try dsimp only [List.append_nil, List.nil_append, List.cons_append]); (with_reducible show wpAny _ _ (call (Value.ref 251) _) _ _ _); k_dflt (refine sr_use (by k_asm) (by k_asm) (by k_asm) (by k_asm) (by k_asm) (by first | exact rfl | assumption) (numbers_says _ _ _ _ _ _ _ _ _ _ _ _ _ _ _ (by assumption) (by omega) (by omega) (by omega) (by omega) (by k_ne) (by k_ne) (off2 (by k_all) (by k_all))) (by ktr_room) (by ktr_units) ?_); k_dflt (intro nw' v' h' tk' F' N' hR'; obtain ⟨seat', great', ts', tg', l', us', xs', n', hn1', hn2', hn3', hv', hnI', hn4', hn5', hn6', hn7', hnw'⟩ := hR'; subst hnw' hv'; have hnA' := toN hn7'.1; have hnB' := toN hn7'.2.1; have hnC' := hn7'.2.2; clear hn7'; (try dsimp only)))) | (((with_reducible rename LawTurn => hLT); k_here; (with_reducible show wpAny _ _ (call (Value.ref _) _) _ _ _); refine stop_here ?_)) | ((k_here; (with_reducible show wpAny _ _ (call _ [Value.int _ _]) _ _ _); (rename Fr _ _ _ _ => F'); (rename News _ _ _ _ => N'); with_unfolding_all refine range1_rows F' N' ?_; intro _ _ _ _ _ _ _ _ _)) | ((with_reducible show wpAny _ _ (exec (PySem.Stmt.For (PySem.Expr.Name _ _) (PySem.Expr.Call _ _ _ _) _ _ _) _) _ _ _); (k_here; (rename Fr _ _ _ _ => lF'); (with_unfolding_all refine' For_invVF lF' ?k1 ?k2 ?_; (case k1 => exact rfl); (case k2 => exact rfl); k_whole))) | (((with_reducible show wpAny _ _ (pyIter (Value.ref _)) (fun it s₂ => LoopAtV _ _ _ _ _ _ _ _ _ it s₂) _ _); k_here; refine stop_here ?_)) | ((with_reducible show InvEndN _ _ _ _ _ _ _); (refine stop_here ?_)) | walk1 | (dsimp only; walk1) | (leave1; walk_say "STEP leave1"; try dsimp only) | fail "no step"))
      all_goals
        unfold StopHere
        refine kst_end ⟨_, _, _, _⟩ (by assumption) N3 (by first | kst_in | kst_inAny) (by first | (intro p hp; kst_mem) | kst_anyIn) (by rfl) trivial (by kst_all) (by kst_same) ?_
        simp only [List.length_append, List.length_cons, List.length_nil]
        refine ⟨?_, ?_, ?_⟩ <;> omega
  · intro cc u h tk hf hp' F' N'
    obtain ⟨seat, great, ts, tg⟩ := cc
    dsimp only at hf hp' F' N'
    clear lF lN rgX
    have kM := kstMark
    (try dsimp only [kstB, List.map_cons, List.map_nil] at F')
    (try k_fold)
    (repeat' (first | (k_unfold; (try dsimp only)) | (k_end; wrow_close) | ((with_reducible show wpAny _ _ (exec _ _) _ _ _); (try dsimp only); with_reducible refine atT1 ?_; intro tk) | ((with_reducible show wpAny _ _ (binaryOp _ _ _) _ _ _); (try dsimp only); with_reducible refine atT1 ?_; intro tk) | (((with_reducible rename LawTurn => hLT); k_here; (with_reducible show wpAny _ _ (compareOp CmpOp.NotEq (Value.ref _) (Value.ref _)) _ _ _); refine stop_here ?_)) | (((with_reducible rename LawTurn => hLT); k_here; (with_reducible show wpAny _ _ (subscriptTail _ _ (Value.ref _) (Value.int _ _)) _ _ _); k_dflt (refine item_three (by k_asm) (by k_mem) (by omega) (by omega) (by decide) (by decide) (by decide) ?_ (by with_unfolding_all rfl)); intro c' t' hcut'; (rename News _ _ _ _ => nJ'); (have N' := drop3rd nJ'); clear nJ')) | (((with_reducible rename LawTurn => hLT); k_here; (with_reducible show wpAny _ _ (call (Value.builtin "len") [Value.bytes _ _]) _ _ _); k_dflt (refine len_any (by omega) ?_); intro t' tk')) | (((with_reducible rename LawTurn => hLT); k_here; (with_reducible show wpAny _ _ (binaryOp Operator.Add (Value.bytes _ _) (Value.bytes _ _)) _ _ _); k_dflt (refine add_any (by omega) ?_); intro c' t' tk' hcut')) | (((with_reducible rename LawTurn => hLT); k_here; (try dsimp only [List.append_nil, List.nil_append, List.cons_append]); (with_reducible show wpAny _ _ (call (Value.builtin "bytes.join") [Value.bytes _ _, Value.ref _]) _ _ _); k_dflt (refine join_K (by k_asm) (by k_mem) (by assumption) (by omega) (by omega) ?_); intro c' t' tk' hcut'; (rename News _ _ _ _ => nJ'); (have N' := drop1st nJ'); clear nJ')) | (((with_reducible rename LawTurn => hLT); k_here; (with_reducible show wpAny _ _ (call (Value.type "bytes") [Value.ref _]) _ _ _); k_dflt (refine bytes_two (by k_asm) (by k_asm) rfl (by k_mem) (by assumption) ?_); intro c' h' t' tk' F' N' hcut')) | ((with_reducible show wpAny _ _ (getMethod (Value.bytes _ _) _ _) _ _ _); (k_here; (with_reducible refine getMethod_join ?_))) | ((with_reducible show LCg.CompSrc _ _ _ _ _ _ _ _ _ _ _ _ _ _); ((with_reducible rename LawTurn => hLT); k_here; refine stop_here ?_)) | ((with_reducible show wpAny _ _ (eval (PySem.Expr.ListComp _ _ _ _) _) _ _ _); ((with_reducible rename LawTurn => hLT); k_here; k_dflt (refine LCg.ListComp_U (F₀ := by k_asm) (by with_unfolding_all rfl) (by decide) (by rfl) (by decide) (by rfl) ?_))) | ((k_here; (with_reducible show wpAny _ _ (subscriptTail _ (Expr.Slice _ _ none _) (Value.bytes _ _) (Value.ref _)) _ _ _); (with_reducible rename Fr _ _ _ _ => F'); (with_reducible rename News _ _ _ _ => N'); k_dflt (refine cut_any (s := ⟨_, _, _, _, _⟩) F' N' (by first | decide | omega) (by omega) (by first | omega | (simp only [List.size_toArray, List.length_cons, List.length_nil]; omega)) ?_); intro c' h' t' tk' F' N' hcut')) | ((k_here; (try dsimp only [List.append_nil, List.nil_append, List.cons_append]); (with_reducible show wpAny _ _ (call (Value.ref 244) _) _ _ _); k_dflt (first | refine sr_use (by k_asm) (by k_asm) (by k_asm) (by k_asm) (by k_asm) (by first | exact rfl | assumption) (draw_says _ _ _ _ _ _ _ _ _ _ _ _ _ _ _ _ _ (by assumption) (by omega) (by omega) (by omega) (by omega) (by omega) (by omega) (by k_ne) (by k_ne) (off2 (by k_all) (by k_all))) (by ktr_room) (by ktr_units) ?_ | refine sr_use (by k_asm) (by k_asm) (by k_asm) (by k_asm) (by k_asm) (by first | exact rfl | assumption) (SaysR.of1 (draw_says _ _ _ _ _ _ _ _ _ _ _ _ _ _ _ _ _ (by assumption) (by omega) (by omega) (by omega) (by omega) (by omega) (by omega) (by k_ne) (by k_ne) (off2 (by k_all) (by k_all)))) (by ktr_room) (by ktr_units) ?_); k_dflt (intro nw' v' h' tk' F' N' hR'; obtain ⟨seat', great', ts', tg', d', td', hd1', hd2', hd3', hd4', hd5', hv', hnw'⟩ := hR'; subst hnw' hv'; (try k_sweep); (try dsimp only)))) | ((k_here; (try dsimp only [List.append_nil, List.nil_append, List.cons_append]); (with_reducible show wpAny _ _ (call (Value.ref 258) _) _ _ _); k_dflt (refine sr_use (by k_asm) (by k_asm) (by k_asm) (by k_asm) (by k_asm) (by first | exact rfl | assumption) (SaysR.of1 (bent_says _ _ _ _ _ _ _ _ _ _ _ _ _ _ _ _ _ _ _ (by assumption) (by omega) (by omega) (by omega) (by omega) (by k_ne) (by k_ne) (by k_ne) (by k_ne) (off2 (by k_all) (by k_all)) (by k_all) (by assumption) (by omega) (by omega) (by assumption))) (by ktr_room) (by ktr_units) ?_); k_dflt (intro nw' v' h' tk' F' N' hR'; obtain ⟨seat', great', ts', tg', us', xs', n', hb1', hb2', hb3', hv', hbI', hb4', hb5', hnw'⟩ := hR'; subst hnw' hv'; (try dsimp only)))) | ((k_here; (try dsimp only [List.append_nil, List.nil_append, List.cons_append]); (with_reducible show wpAny _ _ (call (Value.ref 251) _) _ _ _); k_dflt (refine sr_use (by k_asm) (by k_asm) (by k_asm) (by k_asm) (by k_asm) (by first | exact rfl | assumption) (numbers_says _ _ _ _ _ _ _ _ _ _ _ _ _ _ _ (by assumption) (by omega) (by omega) (by omega) (by omega) (by k_ne) (by k_ne) (off2 (by k_all) (by k_all))) (by ktr_room) (by ktr_units) ?_); k_dflt (intro nw' v' h' tk' F' N' hR'; obtain ⟨seat', great', ts', tg', l', us', xs', n', hn1', hn2', hn3', hv', hnI', hn4', hn5', hn6', hn7', hnw'⟩ := hR'; subst hnw' hv'; have hnA' := toN hn7'.1; have hnB' := toN hn7'.2.1; have hnC' := hn7'.2.2; clear hn7'; (try dsimp only)))) | (((with_reducible rename LawTurn => hLT); k_here; (with_reducible show wpAny _ _ (call (Value.ref _) _) _ _ _); refine stop_here ?_)) | ((k_here; (with_reducible show wpAny _ _ (call _ [Value.int _ _]) _ _ _); (rename Fr _ _ _ _ => F'); (rename News _ _ _ _ => N'); with_unfolding_all refine range1_rows F' N' ?_; intro _ _ _ _ _ _ _ _ _)) | ((with_reducible show wpAny _ _ (exec (PySem.Stmt.For (PySem.Expr.Name _ _) (PySem.Expr.Call _ _ _ _) _ _ _) _) _ _ _); (k_here; (rename Fr _ _ _ _ => lF'); (with_unfolding_all refine' For_invVF lF' ?k1 ?k2 ?_; (case k1 => exact rfl); (case k2 => exact rfl); k_whole))) | (((with_reducible show wpAny _ _ (pyIter (Value.ref _)) (fun it s₂ => LoopAtV _ _ _ _ _ _ _ _ _ it s₂) _ _); k_here; refine stop_here ?_)) | ((with_reducible show InvEndN _ _ _ _ _ _ _); (refine stop_here ?_)) | walk1 | (dsimp only; walk1) | (leave1; walk_say "STEP leave1"; try dsimp only) | fail "no step"))
    all_goals fail "last")
end
end Mine
end
open PySem PySem.W PyProof.Rows
theorem PySem.Challenge.cw_nu0158_01_holds : PySem.Challenge.rw_nu0158_01.Holds := by
  exact Mine.law_holds
