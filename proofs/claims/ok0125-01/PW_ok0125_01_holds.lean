import PyProof.Rows.All
import Wide.All
import OpenK.AllK
import Wide.FinOn
import PySem.Challenge.RW_ok0125_01
open PySem PySem.W PyProof.Rows PySem.Spec PySem.Calls
set_option Elab.async false
set_option maxRecDepth 100000
set_option maxHeartbeats 16000000
set_option linter.unusedVariables false
set_option compiler.extract_closed false
namespace Mine
open PySem.Challenge in
noncomputable def vw : Program := { pw_ok0125_01 with main := { pw_ok0125_01.main with body := (pw_ok0125_01.main.body.drop 1).take 3 ++ (pw_ok0125_01.main.body.drop 5).take 16 ++ pw_ok0125_01.main.body.drop 22 } }
abbrev lv : List (Str × WData) := [(Str.ofString "HALF", WData.int 32768)]
local macro_rules | `(tactic| o_head $H) => `(tactic| (
  refine holds_open (q := Mine.vw) (loose := [Str.ofString "HALF"]) (Xt := fun s => xlAt Mine.vw lv s && recOk (RowW.records _) s) (XP := XL Mine.vw lv) (Yf := Hook.obs $H) (Ya := Hook.val $H) (YP := Hook.says $H) (N := 2190) ?hl (Hook.of $H) (Hook.keeps $H) (fun s e => xl_of s (Bool.and_eq_true_iff.mp e).1) XL.keeps (by rfl) (by rfl) (by rfl) (fun s e => recFacts_of (Bool.and_eq_true_iff.mp e).2) (by rfl) (by first | assumption | decide +kernel) (by decide +kernel) ⟨rfl, rfl, rfl, rfl, rfl, by decide +kernel⟩ ?hw ?hc
  (case hl => intro w; show Option.map _ (openEnds treeTable PySem.Challenge.pw_ok0125_01 w _) = _; unfold openEnds fencedOpening topFrom openSeen openGood Mine.vw; rewrite [Fast.te14082659384304107361, Fast.te10274390034422433532, Fast.te14364793385576792824, Fast.te1435165496053646825, Fast.te14289696077712309145, Fast.te8920871248978507458, Fast.te5923862056798008813, Fast.te16090120013241838585, Fast.te7409074990110511671, Fast.te5991557255702980513, Fast.te11698064438423848299, Fast.te10994771534591457954, Fast.te2386780881361962483, Fast.te7317090234206586261, Fast.te821141287760084731, Fast.te5160383126252970620, Fast.te3399658132070893891, Fast.te3247288618530077131, Fast.te479339242167458305, Fast.te7369524293546568484, Fast.te14722251495701143533, Fast.te13664370479719496447, Fast.te10880121769531294198]; kernel_rfl)))
open_top hd for PySem.Challenge.rw_ok0125_01
theorem off0 : True := by w_top off; exact True.intro
abbrev Led := List (Addr × Obj)
/-- a list of two ints -/
abbrev two (x y : Int) (tx ty : Tok) (n : Nat) : Obj := listOf #[.int x tx, .int y ty] n
/-- what a def's call says: `lv` frames of room, the ledger `news` at the call, the arguments, what comes back and the ledger behind it -/
def Con (lv : Nat) (w : World) (mean : ExcName → Option Value) (mg mb : Str → Option Value) (f : Addr) (news : Led) (vs : List Value) (Ret : Value → Led → Prop) : Prop :=
  ∀ (dp un : Nat) (gd : Option (List Code)) (cn : Str) (cs : Scope) (a : Addr) (ccd : Value) (cl : List (Str × Addr)) (outer : List Env) (A₀ : Around) (base h₀ : Heap) (L : Addr) (m : Str → Option Value) (hp : Heap) (gn : Array GenState) (dr : Drawn) (tk : Nat) (os : OsState) (Q E : Value → Shared → Prop),
    Below A₀ base outer h₀ → Fr h₀ L hp m → (hd.heap_39 w.params).In h₀ → News h₀ L hp news → Top Mine.vw (looseW Mine.vw [Str.ofString "HALF"]) mean mg mb h₀ → cs.kind = .function →
    dp + lv < recursionLimit → un + 8 * lv < cLine →
    (∀ v news' h' tk', Ret v news' → Fr h₀ L h' m → News h₀ L h' news' → Q v (Shared.mk h' gn dr tk' os)) →
    wpAny (model PySem.Challenge.rw_ok0125_01.row.prog w) (ktrTop dp un gd cn cs L a ccd cl outer) (call (.ref f) vs) Q E (Shared.mk hp gn dr tk os)
theorem con_use {lv : Nat} {w : World} {mean : ExcName → Option Value} {mg mb : Str → Option Value} {f : Addr} {news : Led} {vs : List Value} {Ret : Value → Led → Prop} (C : Con lv w mean mg mb f news vs Ret)
    {dp un : Nat} {gd : Option (List Code)} {cn : Str} {cs : Scope} {a : Addr} {ccd : Value} {cl : List (Str × Addr)} {outer : List Env} {A₀ : Around} {base h₀ : Heap} {L : Addr} {m : Str → Option Value} {hp : Heap} {gn : Array GenState} {dr : Drawn} {tk : Nat} {os : OsState} {Q E : Value → Shared → Prop}
    (B : Below A₀ base outer h₀) (F : Fr h₀ L hp m) (X : (hd.heap_39 w.params).In h₀) (N : News h₀ L hp news) (T : Top Mine.vw (looseW Mine.vw [Str.ofString "HALF"]) mean mg mb h₀) (hk : cs.kind = .function)
    (hdp : dp + lv < recursionLimit) (hun : un + 8 * lv < cLine)
    (ret : ∀ v news' h' tk', Ret v news' → Fr h₀ L h' m → News h₀ L h' news' → Q v (Shared.mk h' gn dr tk' os)) :
    wpAny (model PySem.Challenge.rw_ok0125_01.row.prog w) (ktrTop dp un gd cn cs L a ccd cl outer) (call (.ref f) vs) Q E (Shared.mk hp gn dr tk os) := C _ _ _ _ _ _ _ _ _ _ _ _ _ _ _ _ _ _ _ _ _ B F X N T hk hdp hun ret
theorem use_int {lv : Nat} {w : World} {mean : ExcName → Option Value} {mg mb : Str → Option Value} {f : Addr} {news : Led} {vs : List Value} {x : Int} (C : Con lv w mean mg mb f news vs (fun v nw => (∃ t, v = .int x t) ∧ nw = news))
    {dp un : Nat} {gd : Option (List Code)} {cn : Str} {cs : Scope} {a : Addr} {ccd : Value} {cl : List (Str × Addr)} {outer : List Env} {A₀ : Around} {base h₀ : Heap} {L : Addr} {m : Str → Option Value} {hp : Heap} {gn : Array GenState} {dr : Drawn} {tk : Nat} {os : OsState} {Q E : Value → Shared → Prop}
    (ret : ∀ t h' tk', Fr h₀ L h' m → News h₀ L h' (news) → Q (.int x t) (Shared.mk h' gn dr tk' os))
    (B : Below A₀ base outer h₀ := by k_asm) (F : Fr h₀ L hp m := by k_asm) (X : (hd.heap_39 w.params).In h₀ := by k_asm) (N : News h₀ L hp news := by k_asm) (T : Top Mine.vw (looseW Mine.vw [Str.ofString "HALF"]) mean mg mb h₀ := by k_asm) (hk : cs.kind = .function := by first | exact rfl | assumption)
    (hdp : dp + lv < recursionLimit := by ktr_room) (hun : un + 8 * lv < cLine := by ktr_units) :
    wpAny (model PySem.Challenge.rw_ok0125_01.row.prog w) (ktrTop dp un gd cn cs L a ccd cl outer) (call (.ref f) vs) Q E (Shared.mk hp gn dr tk os) := C _ _ _ _ _ _ _ _ _ _ _ _ _ _ _ _ _ _ _ _ _ B F X N T hk hdp hun (by
  intro v nw h' tk' hR F' N'
  obtain ⟨⟨t, rfl⟩, e⟩ := hR; subst e; exact ret _ _ _ F' N')
theorem use_bool {lv : Nat} {w : World} {mean : ExcName → Option Value} {mg mb : Str → Option Value} {f : Addr} {news : Led} {vs : List Value} {b : Bool} (C : Con lv w mean mg mb f news vs (fun v nw => v = .bool b ∧ nw = news))
    {dp un : Nat} {gd : Option (List Code)} {cn : Str} {cs : Scope} {a : Addr} {ccd : Value} {cl : List (Str × Addr)} {outer : List Env} {A₀ : Around} {base h₀ : Heap} {L : Addr} {m : Str → Option Value} {hp : Heap} {gn : Array GenState} {dr : Drawn} {tk : Nat} {os : OsState} {Q E : Value → Shared → Prop}
    (ret : ∀ h' tk', Fr h₀ L h' m → News h₀ L h' (news) → Q (.bool b) (Shared.mk h' gn dr tk' os))
    (B : Below A₀ base outer h₀ := by k_asm) (F : Fr h₀ L hp m := by k_asm) (X : (hd.heap_39 w.params).In h₀ := by k_asm) (N : News h₀ L hp news := by k_asm) (T : Top Mine.vw (looseW Mine.vw [Str.ofString "HALF"]) mean mg mb h₀ := by k_asm) (hk : cs.kind = .function := by first | exact rfl | assumption)
    (hdp : dp + lv < recursionLimit := by ktr_room) (hun : un + 8 * lv < cLine := by ktr_units) :
    wpAny (model PySem.Challenge.rw_ok0125_01.row.prog w) (ktrTop dp un gd cn cs L a ccd cl outer) (call (.ref f) vs) Q E (Shared.mk hp gn dr tk os) := C _ _ _ _ _ _ _ _ _ _ _ _ _ _ _ _ _ _ _ _ _ B F X N T hk hdp hun (by
  intro v nw h' tk' hR F' N'
  obtain ⟨rfl, e⟩ := hR; subst e; exact ret _ _ F' N')

/-- a fact kept from the arithmetic's eyes -/
def Kept (p : Prop) : Prop := p
theorem Kept.out {p : Prop} (h : Kept p) : p := h
theorem storeX_m {M : Model} {A : Around} {E : Value → Shared → Prop} {s : Shared} {h₀ : Heap} {L a : Addr} {m : Str → Option Value} {cn : Str} {cs : Scope} {ccd : Value} {cl : List (Str × Addr)} {x : Str} {v : Value} {Q : Unit → Shared → Prop} {news : Led}
    (F : Fr h₀ L s.heap m) (N : News h₀ L s.heap news)
    (h : ∀ h', let mk := fun y => if y = x then some v else m y; Fr h₀ L h' mk → News h₀ L h' news → Q () { s with heap := h', toks := s.toks + 1 })
    (hk : cs.kind = .function) (hx : (envX cn cs L a ccd cl).kindOf x = some .local) : wpAny M A (storeName (envX cn cs L a ccd cl) x v) Q E s :=
  storeX_L F N (fun h' F' N' => h h' F' N') hk hx
theorem foldQ {α : Type} {M : Model} {A : Around} {t : Sem α} {Q : α → Shared → Prop} {E : Value → Shared → Prop} {s : Shared} (h : let qk := Q; let ek := E; wpAny M A t qk ek s) : wpAny M A t Q E s := h
theorem foldQ1 {α : Type} {M : Model} {A : Around} {t : Sem α} {Q : α → Shared → Prop} {E : Value → Shared → Prop} {s : Shared} (h : let qk := Q; wpAny M A t qk E s) : wpAny M A t Q E s := h
theorem mulok6 {x y : Int} (h : 0 ≤ y ∧ y < 65536) : IntMulOk x y := IntMulOk.of_right (intBits_le_64 (by omega) (by omega))
theorem mulok7 {x y : Int} (h : 0 ≤ y ∧ y < 131072) : IntMulOk x y := IntMulOk.of_right (intBits_le_64 (by omega) (by omega))
theorem add2 {x a b c C : Nat} (h : x + c < C) (e : a + b ≤ c) : x + a + b < C := by omega
theorem ite_le {c : Prop} [Decidable c] {a b k : Int} (ha : a ≤ k) (hb : b ≤ k) : (if c then a else b) ≤ k := by split <;> assumption
local macro_rules | `(tactic| walk_at "M:code") => `(tactic| (k_dflt (first
  | (refine' code_def ?k1 ?k2 ?k3 ?k4 ?k5 ?kA ?kF ?kK ?k6 ?k7 ?k8 ?k9 ?kB ?_ ?c2 ?c3 ?c4 ?c5; (case kA => exact rfl); (case kF => exact rfl); (case kK => first | exact rfl | assumption); (case k1 => k_asm); (case k2 => k_asm); (case k3 => k_asm); (case k4 => k_asm); (case k5 => k_asm); (case k6 => k_is); (case k7 => k_is); (case k8 => ktr_room); (case k9 => exact BindsTo.of_eq rfl); (case c5 => decide); (case kB => exact locs rfl); (case c2 => exact rfl); (case c3 => exact rfl); (case c4 => exact rfl); k_whole; intro g' L' h' FG' F' N' B' X' T'; (try dsimp only); (try k_lift B'); (try (refine' foldQ ?_; intro qk' ek')))
  | (refine' code_defC ?k1 ?k2 ?k3 ?k4 ?k5 ?kA ?kF ?kK ?k6 ?k7 ?k8 ?k9 ?kB ?kD ?_ ?c2 ?c3 ?c4; (case kA => exact rfl); (case kF => exact rfl); (case kK => first | exact rfl | assumption); (case k1 => k_asm); (case k2 => k_asm); (case k3 => k_asm); (case k4 => k_asm); (case k5 => k_asm); (case k6 => k_is); (case k7 => k_is); (case k8 => ktr_room); (case k9 => exact BindsTo.of_eq rfl); (case kB => exact rfl); (case kD => decide +kernel); (case c2 => exact rfl); (case c3 => exact rfl); (case c4 => exact rfl); k_whole; intro g' L' h' tk' cells' FG' F' N' Y' B' X' T' l1; (try k_lt l1); k_cells Y'; (try simp only [List.cons_append, List.nil_append] at N'); (try dsimp only); (try k_lift B'); (try (refine' foldQ ?_; intro qk' ek'))))))
local macro_rules | `(tactic| walk_at "M:enter") => `(tactic| (refine wpAny_call ?_; walk_at "M:code"))
local macro_rules | `(tactic| walk_at "M:start") => `(tactic| (unfold Con; intro dp un gd cn cs a ccd cl outer A₀ base h₀ L m hp gn dr tk os Q E B F X N T hk hdp hun hret; walk_at "call ref"))
local macro_rules | `(tactic| walk_at "call ref") => `(tactic| (k_here; first
  | (k_dflt (refine' call_cls ?k1 ?k2 ?k3 ?k4 ?k5 ?k6 ?_; (case k1 => k_asm); (case k2 => k_asm); (case k3 => k_asm); (case k4 => k_is); (case k5 => k_is); (case k6 => k_is); k_whole; intro x' d' h' F' N' l1 l2; (try k_lt l1); (try k_lt2 l2); (try k_sweep)); walk_at "M:code")
  | (k_dflt (refine' call_meth ?k1 ?k2 ?_; (case k1 => k_asm); (case k2 => k_mem); k_whole); walk_at "M:code")
  | walk_at "M:enter"))
local macro_rules | `(tactic| walk_at "M:end") => `(tactic| ((rename (∀ (v : Value) (news' : Led) (h' : Heap) (tk' : Nat), _) => hret); refine hret _ _ _ _ ?_ (by assumption) (by assumption)))
local macro_rules | `(tactic| k_all) => `(tactic| with_reducible assumption)
local macro_rules | `(tactic| walk_at "binaryOp Mult int int") => `(tactic| (k_here; first | (with_reducible refine mul_int ?_ (IntMulOk.of_right (intBits_le_64 (by omega) (by omega)))) | (k_fmods; with_reducible refine mul_int ?_ (IntMulOk.of_right (intBits_le_64 (by omega) (by omega))))))
local macro_rules | `(tactic| walk_at "subscriptTail Name Constant ref int") => `(tactic| (k_here; (with_reducible show wpAny _ _ (subscriptTail _ _ (Value.ref _) (Value.int _ _)) _ _ _); (with_unfolding_all refine' item_litK ?k1 ?k2 ?k3 ?k4 ?_ ?k6; (case k1 => is_list); (case k2 => decide); (case k3 => decide); (case k4 => rfl); (case k6 => with_unfolding_all rfl); k_whole)))
local macro_rules | `(tactic| walk_at "M:endw") => `(tactic| ((rename (∀ (v : Value) (news' : Led) (h' : Heap) (tk' : Nat), _) => hret); refine' hret _ _ _ _ ?_ (by assumption) (cb_drop (by assumption) ?_)))
local macro_rules | `(tactic| walk_at "binaryOp Mult int int") => `(tactic| (k_here; (with_reducible refine mul_int ?_ (mulok6 (by with_reducible assumption)))))
local macro_rules | `(tactic| walk_at "M:ne") => `(tactic| ((first | (rename (_ ≠ _ ∧ _) => h9') | (rename ((_ ≠ _ ∧ _) ∧ _) => h9')); (first | (simp only [h9', ne_eq, not_false_eq_true]; done) | (clear h9'; walk_at "M:ne"))))
local macro_rules | `(tactic| walk_at "M:lt") => `(tactic| first | (with_reducible assumption) | ((rename (_ < _ ∧ _) => h9'); (first | (simp only [h9']; done) | (clear h9'; walk_at "M:lt"))))
local macro_rules | `(tactic| k_ne) => `(tactic| ((try dsimp only); first | (refine Nat.ne_of_lt ?_; walk_at "M:lt") | (refine Nat.ne_of_gt ?_; walk_at "M:lt") | walk_at "M:ne"))
local macro_rules | `(tactic| walk_at "binaryOp Mult int int") => `(tactic| (k_here; (with_reducible refine mul_int ?_ (mulok7 (by with_reducible assumption)))))
local macro_rules | `(tactic| ktr_room) => `(tactic| exact add2 (by with_reducible assumption) (by decide))
local macro_rules | `(tactic| ktr_units) => `(tactic| exact add2 (by with_reducible assumption) (by decide))
local macro_rules | `(tactic| walk_at "eval BinOp") => `(tactic| (k_here; walk_at "M:fold"))
local macro_rules | `(tactic| walk_at "eval Call") => `(tactic| (k_here; walk_at "M:fold"))
local macro_rules | `(tactic| walk_at "eval Call Attribute") => `(tactic| (k_here; walk_at "M:fold"))
local macro_rules | `(tactic| walk_at "eval Subscript") => `(tactic| (k_here; walk_at "M:fold"))
local macro_rules | `(tactic| walk_at "eval Tuple") => `(tactic| (k_here; walk_at "M:fold"))
local macro_rules | `(tactic| walk_at "eval Compare") => `(tactic| (k_here; walk_at "M:fold"))
local macro_rules | `(tactic| walk_at "eval Attribute Name") => `(tactic| (k_here; walk_at "M:fold"))
local macro_rules | `(tactic| walk_at "isTrue") => `(tactic| (k_here; walk_at "M:fold"))
local macro_rules | `(tactic| walk_at "isTrue Compare") => `(tactic| (k_here; walk_at "M:fold"))
local macro_rules | `(tactic| walk_at "isTrue UnaryOp") => `(tactic| (k_here; walk_at "M:fold"))
local macro_rules | `(tactic| walk_at "exec If") => `(tactic| (k_here; walk_at "M:fold"))
local macro_rules | `(tactic| walk_at "exec Assign") => `(tactic| (k_here; walk_at "M:fold"))
local macro_rules | `(tactic| walk_at "eval Name") => `(tactic| (k_here; k_dflt (refine' nameX_L ?F ?v ?_ ?a ?b; (case F => k_asm); (case a => rfl); (case b => rfl); (case v => exact @rfl _ (some _)); k_whole)))
local macro_rules | `(tactic| walk_at "storeName") => `(tactic| (k_here; k_dflt (refine' storeX_m ?F ?N ?_ ?a ?b; (case F => k_asm); (case N => k_asm); (case a => rfl); (case b => rfl); k_whole; intro h' mk' F' N'; (try k_sweep))))
local macro_rules | `(tactic| walk_at "M:fold") => `(tactic| ((fail_if_success (fail_if_success k_fold)); refine' foldQ1 ?_; intro qk'))
local macro_rules | `(tactic| k_steps) => `(tactic| repeat' (first | ((fail_if_success (fail_if_success k_unfold)); (try dsimp only); k_unfold) | (k_end; wrow_close) | walk1 | (dsimp only; walk1) | (leave1; walk_say "STEP leave1"; try dsimp only) | fail "no step"))
local macro_rules | `(tactic| walk_at "M:sa") => `(tactic| first | with_reducible assumption | exact ⟨by with_reducible assumption, by with_reducible assumption⟩ | omega)
theorem off_P1 : True := by w_top off; exact True.intro
/-- two to the power -/
def pw (p : Int) : Int := 2 ^ p.toNat
theorem pw_small : ∀ n : Fin 15, 2 ≤ pw ((n.val : Int) + 2 - 1) ∧ pw ((n.val : Int) + 2 - 1) ≤ 32768 ∧ pw ((n.val : Int) + 2) = 2 * pw ((n.val : Int) + 2 - 1) := by decide
theorem pw_facts {p : Int} (h : 2 ≤ p ∧ p ≤ 16) : 2 ≤ pw (p - 1) ∧ pw (p - 1) ≤ 32768 ∧ pw p = 2 * pw (p - 1) := by
  have q := pw_small ⟨(p - 2).toNat, by omega⟩
  have e : (((p - 2).toNat : Nat) : Int) + 2 = p := by omega
  dsimp only at q
  rw [e] at q
  exact q
/-- a value cut to 0 .. m -/
def clp (v m : Int) : Int := if v < 0 then 0 else if v < m then v else m
def yY (r g b : Int) : Int := (19595 * r + 38470 * g + 7471 * b + 32768) / 65536
theorem to_light_c (w : World) (mean mg mb) (r g b : Int) (tr tg tb : Tok) (news : Led) (hr : 0 ≤ r ∧ r < 65536) (hg : 0 ≤ g ∧ g < 65536) (hb : 0 ≤ b ∧ b < 65536) :
   Con 5 w mean mg mb 80 news [.int r tr, .int g tg, .int b tb] (fun v news' => (∃ t, v = .int (yY r g b) t) ∧ news' = news) := by
  walk_at "M:start"
  k_steps
  walk_at "M:end"
  refine ⟨⟨_, congrArg (Value.int · _) ?_⟩, rfl⟩
  show Int.fdiv _ 65536 = _
  exact Int.fdiv_eq_ediv_of_nonneg _ (by omega)
theorem great_c (w : World) (mean mg mb) (p : Int) (tr : Tok) (news : Led) (hp : 2 ≤ p ∧ p ≤ 16) :
   Con 5 w mean mg mb 21 news [.int p tr] (fun v news' => (∃ t, v = .int (pw p - 1) t) ∧ news' = news) := by
  walk_at "M:start"
  k_steps
  walk_at "M:end"
  exact ⟨⟨_, congrArg (Value.int · _) (by rw [Int.one_mul]; rfl)⟩, rfl⟩
theorem mid_c (w : World) (mean mg mb) (p : Int) (tr : Tok) (news : Led) (hp : 2 ≤ p ∧ p ≤ 16) :
   Con 5 w mean mg mb 28 news [.int p tr] (fun v news' => (∃ t, v = .int (pw (p - 1)) t) ∧ news' = news) := by
  walk_at "M:start"
  k_steps
  walk_at "M:end"
  exact ⟨⟨_, congrArg (Value.int · _) (by rw [Int.one_mul]; rfl)⟩, rfl⟩
theorem clamp_c (w : World) (mean mg mb) (v m : Int) (tv tm : Tok) (news : Led) :
   Con 5 w mean mg mb 35 news [.int v tv, .int m tm] (fun r news' => (∃ t, r = .int (clp v m) t) ∧ news' = news) := by
  walk_at "M:start"
  k_steps
  all_goals walk_at "M:end"
  all_goals (refine ⟨⟨_, congrArg (Value.int · _) ?_⟩, rfl⟩; unfold clp; (repeat' split) <;> omega)
theorem take_c (w : World) (mean mg mb) (d : Addr) (x y top : Int) (tx ty tt : Tok) (n : Nat) (news : Led) (hn : ∀ p ∈ news, p.1 ≠ d) (ht : 0 < top ∧ top ≤ 65536) (hy : 0 ≤ y ∧ y < 2147483647) :
   Con 5 w mean mg mb 122 ((d, listOf #[.int x tx, .int y ty] n) :: news) [.ref d, .int top tt] (fun r news' => ∃ (k x' y' : Int) (t tx' ty' : Tok) (n' : Nat), r = .int k t ∧ 0 ≤ k ∧ k < top ∧ 0 ≤ y' ∧ y' < 2147483647 ∧ news' = (d, listOf #[.int x' tx', .int y' ty'] n') :: news) := by
  walk_at "M:start"
  k_steps
  all_goals walk_at "M:end"
  · exact ⟨_, _, _, _, _, _, _, rfl, Int.fmod_nonneg_of_pos _ (by omega), Int.fmod_lt_of_pos _ (by omega), hy.1, hy.2, rfl⟩
  · exact ⟨_, _, _, _, _, _, _, rfl, Int.fmod_nonneg_of_pos _ (by omega), Int.fmod_lt_of_pos _ (by omega), Int.fmod_nonneg_of_pos _ (by decide), Int.fmod_lt_of_pos _ (by decide), rfl⟩
theorem take_use {w : World} {mean mg mb} {d : Addr} {x y top : Int} {tx ty tt : Tok} {n : Nat} {nw : Led} {g : Obj → Led} (U : UpdF d (listOf #[.int x tx, .int y ty] n) nw g) (ht : 0 < top ∧ top ≤ 65536) (hy : 0 ≤ y ∧ y < 2147483647) :
   Con 5 w mean mg mb 122 nw [.ref d, .int top tt] (fun r news' => ∃ (k x' y' : Int) (t tx' ty' : Tok) (n' : Nat), r = .int k t ∧ 0 ≤ k ∧ k < top ∧ 0 ≤ y' ∧ y' < 2147483647 ∧ news' = g (listOf #[.int x' tx', .int y' ty'] n')) := by
  obtain ⟨pre, post, e, hg, h1, h2⟩ := U.split
  subst e
  intro dp un gd cn cs a ccd cl outer A₀ base h₀ L m hp gn dr tk os Q E B F X N T hk hdp hun hret
  refine con_use (take_c w mean mg mb d x y top tx ty tt n (pre ++ post) (fun p hp => (List.mem_append.mp hp).elim (h1 p) (h2 p)) ht hy) B F X (fun p hp => N p ?_) T hk hdp hun ?_
  · simp only [List.mem_cons, List.mem_append] at hp ⊢
    rcases hp with hp | hp | hp <;> simp only [hp, true_or, or_true]
  · rintro v news' h' tk' ⟨k, x', y', t, tx', ty', n', rfl, a1, a2, a3, a4, rfl⟩ F' N'
    refine hret _ _ _ _ ⟨k, x', y', t, tx', ty', n', rfl, a1, a2, a3, a4, (hg _).symm⟩ F' fun p hp => N' p ?_
    simp only [List.mem_cons, List.mem_append] at hp ⊢
    rcases hp with hp | hp | hp <;> simp only [hp, true_or, or_true]
theorem use_take {lv : Nat} {w : World} {mean : ExcName → Option Value} {mg mb : Str → Option Value} {f : Addr} {news : Led} {vs : List Value} {top : Int} {g : Obj → Led} (C : Con lv w mean mg mb f news vs (fun r nw => ∃ (k x' y' : Int) (t tx' ty' : Tok) (n' : Nat), r = .int k t ∧ 0 ≤ k ∧ k < top ∧ 0 ≤ y' ∧ y' < 2147483647 ∧ nw = g (listOf #[.int x' tx', .int y' ty'] n')))
    {dp un : Nat} {gd : Option (List Code)} {cn : Str} {cs : Scope} {a : Addr} {ccd : Value} {cl : List (Str × Addr)} {outer : List Env} {A₀ : Around} {base h₀ : Heap} {L : Addr} {m : Str → Option Value} {hp : Heap} {gn : Array GenState} {dr : Drawn} {tk : Nat} {os : OsState} {Q E : Value → Shared → Prop}
    (ret : ∀ k x' y' t tx' ty' n' h' tk', 0 ≤ k → k < top → 0 ≤ y' → y' < 2147483647 → Fr h₀ L h' m → News h₀ L h' (g (listOf #[.int x' tx', .int y' ty'] n')) → Q (.int k t) (Shared.mk h' gn dr tk' os))
    (B : Below A₀ base outer h₀ := by k_asm) (F : Fr h₀ L hp m := by k_asm) (X : (hd.heap_39 w.params).In h₀ := by k_asm) (N : News h₀ L hp news := by k_asm) (T : Top Mine.vw (looseW Mine.vw [Str.ofString "HALF"]) mean mg mb h₀ := by k_asm) (hk : cs.kind = .function := by first | exact rfl | assumption)
    (hdp : dp + lv < recursionLimit := by ktr_room) (hun : un + 8 * lv < cLine := by ktr_units) :
    wpAny (model PySem.Challenge.rw_ok0125_01.row.prog w) (ktrTop dp un gd cn cs L a ccd cl outer) (call (.ref f) vs) Q E (Shared.mk hp gn dr tk os) := C _ _ _ _ _ _ _ _ _ _ _ _ _ _ _ _ _ _ _ _ _ B F X N T hk hdp hun (by
  intro v nw h' tk' hR F' N'
  obtain ⟨k, x', y', t, tx', ty', n', rfl, a1, a2, a3, a4, rfl⟩ := hR; exact ret _ _ _ _ _ _ _ _ _ a1 a2 a3 a4 F' N')
theorem off_P2 : True := by w_top off; exact True.intro
local macro_rules | `(tactic| walk_at "call ref") => `(tactic| (k_here; (with_reducible show wpAny _ _ (call (Value.ref 122) _) _ _ _); k_dflt (refine' use_take (take_use  ?h1 ?h2 ?h3) ?_; (case h1 => k_updF); (case h2 => walk_at "M:sa"); (case h3 => walk_at "M:sa"); k_whole; intro k' x' y' t' tx' ty' n' h' tk' b1' b2' b3' b4' F' N'; (try dsimp only at N'); (try k_sweep); skip)))
theorem dropA {h₀ h : Heap} {L : Addr} {q : Addr × Obj} {r : Led} (N : News h₀ L h (q :: r)) : News h₀ L h r := fun p hp => N p (.tail _ hp)
theorem dropB {h₀ h : Heap} {L : Addr} {q a b : Addr × Obj} {r : Led} (N : News h₀ L h (q :: a :: b :: r)) : News h₀ L h (q :: r) := fun p hp => N p (by
  rcases List.mem_cons.mp hp with rfl | hp
  · exact .head _
  · exact .tail _ (.tail _ (.tail _ hp)))
theorem getD5 {a b c e f m k : Int} (ha : 0 ≤ a ∧ a ≤ m) (hb : 0 ≤ b ∧ b ≤ m) (hc : 0 ≤ c ∧ c ≤ m) (he : 0 ≤ e ∧ e ≤ m) (hf : 0 ≤ f ∧ f ≤ m) (hk : 0 ≤ k) (hk' : k < 5) : 0 ≤ [a, b, c, e, f].getD k.toNat 0 ∧ [a, b, c, e, f].getD k.toNat 0 ≤ m := by
  have : k = 0 ∨ k = 1 ∨ k = 2 ∨ k = 3 ∨ k = 4 := by omega
  rcases this with rfl | rfl | rfl | rfl | rfl
  · exact ha
  · exact hb
  · exact hc
  · exact he
  · exact hf
theorem sample_c (w : World) (mean mg mb) (d : Addr) (x y most : Int) (tx ty tt : Tok) (n : Nat) (news : Led) (hn : ∀ p ∈ news, p.1 ≠ d) (ht : 0 < most ∧ most < 65536) (hy : 0 ≤ y ∧ y < 2147483647) :
   Con 10 w mean mg mb 136 ((d, listOf #[.int x tx, .int y ty] n) :: news) [.ref d, .int most tt] (fun r news' => ∃ (k x' y' : Int) (t tx' ty' : Tok) (n' : Nat), r = .int k t ∧ 0 ≤ k ∧ k ≤ most ∧ 0 ≤ y' ∧ y' < 2147483647 ∧ news' = (d, listOf #[.int x' tx', .int y' ty'] n') :: news) := by
  walk_at "M:start"
  k_steps
  (rename (∀ (v : Value) (news' : Led) (h' : Heap) (tk' : Nat), _) => hret)
  refine hret _ _ _ _ ?_ (by assumption) (dropA (by assumption))
  have q := Int.fdiv_eq_ediv_of_nonneg (most + 1) (show (0 : Int) ≤ 2 by omega)
  have key : ∀ e f k : Int, 0 ≤ e ∧ e ≤ most → 0 ≤ f ∧ f ≤ most → 0 ≤ k → k < 5 → 0 ≤ [0, most, (most + 1).fdiv 2, e, f].getD k.toNat 0 ∧ [0, most, (most + 1).fdiv 2, e, f].getD k.toNat 0 ≤ most := fun e f k he hf hk hk' => getD5 (by omega) (by omega) (by rw [q]; omega) he hf hk hk'
  exact ⟨_, _, _, _, _, _, _, rfl, (key _ _ _ (by omega) (by omega) (by assumption) (by assumption)).1, (key _ _ _ (by omega) (by omega) (by assumption) (by assumption)).2, by assumption, by assumption, rfl⟩
theorem sample_use {w : World} {mean mg mb} {d : Addr} {x y most : Int} {tx ty tt : Tok} {n : Nat} {nw : Led} {g : Obj → Led} (U : UpdF d (listOf #[.int x tx, .int y ty] n) nw g) (ht : 0 < most ∧ most < 65536) (hy : 0 ≤ y ∧ y < 2147483647) :
   Con 10 w mean mg mb 136 nw [.ref d, .int most tt] (fun r news' => ∃ (k x' y' : Int) (t tx' ty' : Tok) (n' : Nat), r = .int k t ∧ 0 ≤ k ∧ k ≤ most ∧ 0 ≤ y' ∧ y' < 2147483647 ∧ news' = g (listOf #[.int x' tx', .int y' ty'] n')) := by
  obtain ⟨pre, post, e, hg, h1, h2⟩ := U.split
  subst e
  intro dp un gd cn cs a ccd cl outer A₀ base h₀ L m hp gn dr tk os Q E B F X N T hk hdp hun hret
  refine con_use (sample_c w mean mg mb d x y most tx ty tt n (pre ++ post) (fun p hp => (List.mem_append.mp hp).elim (h1 p) (h2 p)) ht hy) B F X (fun p hp => N p ?_) T hk hdp hun ?_
  · simp only [List.mem_cons, List.mem_append] at hp ⊢
    rcases hp with hp | hp | hp <;> simp only [hp, true_or, or_true]
  · rintro v news' h' tk' ⟨k, x', y', t, tx', ty', n', rfl, a1, a2, a3, a4, rfl⟩ F' N'
    refine hret _ _ _ _ ⟨k, x', y', t, tx', ty', n', rfl, a1, a2, a3, a4, (hg _).symm⟩ F' fun p hp => N' p ?_
    simp only [List.mem_cons, List.mem_append] at hp ⊢
    rcases hp with hp | hp | hp <;> simp only [hp, true_or, or_true]
theorem off_P3 : True := by w_top off; exact True.intro
local macro_rules | `(tactic| walk_at "call ref") => `(tactic| (k_here; (with_reducible show wpAny _ _ (call (Value.ref 21) _) _ _ _); k_dflt (refine' use_int (great_c _ _ _ _ _ _ _ ?h1) ?_; (case h1 => walk_at "M:sa"); k_whole; intro t' h' tk' F' N'; skip)))
local macro_rules | `(tactic| walk_at "call ref") => `(tactic| (k_here; (with_reducible show wpAny _ _ (call (Value.ref 28) _) _ _ _); k_dflt (refine' use_int (mid_c _ _ _ _ _ _ _ ?h1) ?_; (case h1 => walk_at "M:sa"); k_whole; intro t' h' tk' F' N'; skip)))
local macro_rules | `(tactic| walk_at "call ref") => `(tactic| (k_here; (with_reducible show wpAny _ _ (call (Value.ref 35) _) _ _ _); k_dflt (refine' use_int (clamp_c _ _ _ _ _ _ _ _ _ ) ?_; k_whole; intro t' h' tk' F' N'; skip)))
def cB (r g b mid : Int) : Int := (-11058 * r + -21710 * g + 32768 * b + mid * 65536 + 32767) / 65536
def cR (r g b mid : Int) : Int := (32768 * r + -27439 * g + -5329 * b + mid * 65536 + 32767) / 65536
def rR (y cr mid most : Int) : Int := clp (y + (91881 * (cr - mid) + 32768) / 65536) most
def gG (y cb cr mid most : Int) : Int := clp (y + (32768 - 22553 * (cb - mid) - 46802 * (cr - mid)) / 65536) most
def bB (y cb mid most : Int) : Int := clp (y + (116130 * (cb - mid) + 32768) / 65536) most
/-- a tuple of three ints -/
abbrev tup3 (a b c : Int) (ta tb tc : Tok) (n : Nat) : Obj := { cls := .type "tuple", data := .seq #[.int a ta, .int b tb, .int c tc] n }
/-- a tuple of four ints -/
abbrev tup4 (a b c d : Int) (ta tb tc td : Tok) (n : Nat) : Obj := { cls := .type "tuple", data := .seq #[.int a ta, .int b tb, .int c tc, .int d td] n }
abbrev Ret3 (a b c : Int) (news : Led) : Value → Led → Prop := fun v news' => ∃ D t1 t2 t3 n, v = .ref D ∧ AllLt D news ∧ news' = (D, tup3 a b c t1 t2 t3 n) :: news
abbrev Ret4 (a b c d : Int) (news : Led) : Value → Led → Prop := fun v news' => ∃ D t1 t2 t3 t4 n, v = .ref D ∧ AllLt D news ∧ news' = (D, tup4 a b c d t1 t2 t3 t4 n) :: news
theorem ret3 {D : Addr} {news : Led} {a b c a' b' c' : Int} {ta tb tc : Tok} {n : Nat} (hl : AllLt D news) (ea : a' = a) (eb : b' = b) (ec : c' = c) : Ret3 a b c news (.ref D) ((D, tup3 a' b' c' ta tb tc n) :: news) := by
  subst ea; subst eb; subst ec
  exact ⟨_, _, _, _, _, rfl, hl, rfl⟩
theorem ret4 {D : Addr} {news : Led} {a b c d a' b' c' d' : Int} {ta tb tc td : Tok} {n : Nat} (hl : AllLt D news) (ea : a' = a) (eb : b' = b) (ec : c' = c) (ed : d' = d) : Ret4 a b c d news (.ref D) ((D, tup4 a' b' c' d' ta tb tc td n) :: news) := by
  subst ea; subst eb; subst ec; subst ed
  exact ⟨_, _, _, _, _, _, rfl, hl, rfl⟩
theorem fd (x : Int) : x.fdiv (2 ^ Int.toNat 16) = x / 65536 := Int.fdiv_eq_ediv_of_nonneg x (by decide)
theorem use_3 {lv : Nat} {w : World} {mean : ExcName → Option Value} {mg mb : Str → Option Value} {f : Addr} {news : Led} {vs : List Value} {x y z : Int} (C : Con lv w mean mg mb f news vs (Ret3 x y z news))
    {dp un : Nat} {gd : Option (List Code)} {cn : Str} {cs : Scope} {a : Addr} {ccd : Value} {cl : List (Str × Addr)} {outer : List Env} {A₀ : Around} {base h₀ : Heap} {L : Addr} {m : Str → Option Value} {hp : Heap} {gn : Array GenState} {dr : Drawn} {tk : Nat} {os : OsState} {Q E : Value → Shared → Prop}
    (ret : ∀ D t1 t2 t3 n h' tk', AllLt D news → Fr h₀ L h' m → News h₀ L h' ((D, tup3 x y z t1 t2 t3 n) :: news) → Q (.ref D) (Shared.mk h' gn dr tk' os))
    (B : Below A₀ base outer h₀ := by k_asm) (F : Fr h₀ L hp m := by k_asm) (X : (hd.heap_39 w.params).In h₀ := by k_asm) (N : News h₀ L hp news := by k_asm) (T : Top Mine.vw (looseW Mine.vw [Str.ofString "HALF"]) mean mg mb h₀ := by k_asm) (hk : cs.kind = .function := by first | exact rfl | assumption)
    (hdp : dp + lv < recursionLimit := by ktr_room) (hun : un + 8 * lv < cLine := by ktr_units) :
    wpAny (model PySem.Challenge.rw_ok0125_01.row.prog w) (ktrTop dp un gd cn cs L a ccd cl outer) (call (.ref f) vs) Q E (Shared.mk hp gn dr tk os) := C _ _ _ _ _ _ _ _ _ _ _ _ _ _ _ _ _ _ _ _ _ B F X N T hk hdp hun (by
  intro v nw h' tk' hR F' N'
  obtain ⟨D, t1, t2, t3, n, rfl, l, rfl⟩ := hR; exact ret _ _ _ _ _ _ _ l F' N')
theorem use_4 {lv : Nat} {w : World} {mean : ExcName → Option Value} {mg mb : Str → Option Value} {f : Addr} {news : Led} {vs : List Value} {x y z u : Int} (C : Con lv w mean mg mb f news vs (Ret4 x y z u news))
    {dp un : Nat} {gd : Option (List Code)} {cn : Str} {cs : Scope} {a : Addr} {ccd : Value} {cl : List (Str × Addr)} {outer : List Env} {A₀ : Around} {base h₀ : Heap} {L : Addr} {m : Str → Option Value} {hp : Heap} {gn : Array GenState} {dr : Drawn} {tk : Nat} {os : OsState} {Q E : Value → Shared → Prop}
    (ret : ∀ D t1 t2 t3 t4 n h' tk', AllLt D news → Fr h₀ L h' m → News h₀ L h' ((D, tup4 x y z u t1 t2 t3 t4 n) :: news) → Q (.ref D) (Shared.mk h' gn dr tk' os))
    (B : Below A₀ base outer h₀ := by k_asm) (F : Fr h₀ L hp m := by k_asm) (X : (hd.heap_39 w.params).In h₀ := by k_asm) (N : News h₀ L hp news := by k_asm) (T : Top Mine.vw (looseW Mine.vw [Str.ofString "HALF"]) mean mg mb h₀ := by k_asm) (hk : cs.kind = .function := by first | exact rfl | assumption)
    (hdp : dp + lv < recursionLimit := by ktr_room) (hun : un + 8 * lv < cLine := by ktr_units) :
    wpAny (model PySem.Challenge.rw_ok0125_01.row.prog w) (ktrTop dp un gd cn cs L a ccd cl outer) (call (.ref f) vs) Q E (Shared.mk hp gn dr tk os) := C _ _ _ _ _ _ _ _ _ _ _ _ _ _ _ _ _ _ _ _ _ B F X N T hk hdp hun (by
  intro v nw h' tk' hR F' N'
  obtain ⟨D, t1, t2, t3, t4, n, rfl, l, rfl⟩ := hR; exact ret _ _ _ _ _ _ _ _ l F' N')
theorem use_3g {lv : Nat} {w : World} {mean : ExcName → Option Value} {mg mb : Str → Option Value} {f : Addr} {news : Led} {vs : List Value} {x y z : Int} (C : Con lv w mean mg mb f news vs (Ret3 x y z news))
    {dp un : Nat} {gd : Option (List Code)} {cn : Str} {cs : Scope} {a : Addr} {ccd : Value} {cl : List (Str × Addr)} {outer : List Env} {A₀ : Around} {base h₀ : Heap} {L : Addr} {m : Str → Option Value} {hp : Heap} {gn : Array GenState} {dr : Drawn} {tk : Nat} {os : OsState} {Q E : Value → Shared → Prop}
    (ret : ∀ x' y' z' D t1 t2 t3 n h' tk', x' = x → y' = y → z' = z → AllLt D news → Fr h₀ L h' m → News h₀ L h' ((D, tup3 x' y' z' t1 t2 t3 n) :: news) → Q (.ref D) (Shared.mk h' gn dr tk' os))
    (B : Below A₀ base outer h₀ := by k_asm) (F : Fr h₀ L hp m := by k_asm) (X : (hd.heap_39 w.params).In h₀ := by k_asm) (N : News h₀ L hp news := by k_asm) (T : Top Mine.vw (looseW Mine.vw [Str.ofString "HALF"]) mean mg mb h₀ := by k_asm) (hk : cs.kind = .function := by first | exact rfl | assumption)
    (hdp : dp + lv < recursionLimit := by ktr_room) (hun : un + 8 * lv < cLine := by ktr_units) :
    wpAny (model PySem.Challenge.rw_ok0125_01.row.prog w) (ktrTop dp un gd cn cs L a ccd cl outer) (call (.ref f) vs) Q E (Shared.mk hp gn dr tk os) := C _ _ _ _ _ _ _ _ _ _ _ _ _ _ _ _ _ _ _ _ _ B F X N T hk hdp hun (by
  intro v nw h' tk' hR F' N'
  obtain ⟨D, t1, t2, t3, n, rfl, l, rfl⟩ := hR; exact ret _ _ _ _ _ _ _ _ _ _ rfl rfl rfl l F' N')
theorem use_4g {lv : Nat} {w : World} {mean : ExcName → Option Value} {mg mb : Str → Option Value} {f : Addr} {news : Led} {vs : List Value} {x y z u : Int} (C : Con lv w mean mg mb f news vs (Ret4 x y z u news))
    {dp un : Nat} {gd : Option (List Code)} {cn : Str} {cs : Scope} {a : Addr} {ccd : Value} {cl : List (Str × Addr)} {outer : List Env} {A₀ : Around} {base h₀ : Heap} {L : Addr} {m : Str → Option Value} {hp : Heap} {gn : Array GenState} {dr : Drawn} {tk : Nat} {os : OsState} {Q E : Value → Shared → Prop}
    (ret : ∀ x' y' z' D t1 t2 t3 t4 n h' tk', x' = x → y' = y → z' = z → AllLt D news → Fr h₀ L h' m → News h₀ L h' ((D, tup4 x' y' z' u t1 t2 t3 t4 n) :: news) → Q (.ref D) (Shared.mk h' gn dr tk' os))
    (B : Below A₀ base outer h₀ := by k_asm) (F : Fr h₀ L hp m := by k_asm) (X : (hd.heap_39 w.params).In h₀ := by k_asm) (N : News h₀ L hp news := by k_asm) (T : Top Mine.vw (looseW Mine.vw [Str.ofString "HALF"]) mean mg mb h₀ := by k_asm) (hk : cs.kind = .function := by first | exact rfl | assumption)
    (hdp : dp + lv < recursionLimit := by ktr_room) (hun : un + 8 * lv < cLine := by ktr_units) :
    wpAny (model PySem.Challenge.rw_ok0125_01.row.prog w) (ktrTop dp un gd cn cs L a ccd cl outer) (call (.ref f) vs) Q E (Shared.mk hp gn dr tk os) := C _ _ _ _ _ _ _ _ _ _ _ _ _ _ _ _ _ _ _ _ _ B F X N T hk hdp hun (by
  intro v nw h' tk' hR F' N'
  obtain ⟨D, t1, t2, t3, t4, n, rfl, l, rfl⟩ := hR; exact ret _ _ _ _ _ _ _ _ _ _ _ rfl rfl rfl l F' N')
theorem to_ycc_c (w : World) (mean mg mb) (r g b p : Int) (tr tg tb tp : Tok) (news : Led) (hr : 0 ≤ r ∧ r < 65536) (hg : 0 ≤ g ∧ g < 65536) (hb : 0 ≤ b ∧ b < 65536) (hp : 2 ≤ p ∧ p ≤ 16) :
   Con 10 w mean mg mb 52 news [.int r tr, .int g tg, .int b tb, .int p tp] (Ret3 (yY r g b) (cB r g b (pw (p-1))) (cR r g b (pw (p-1))) news) := by
  have hpw := pw_facts hp
  walk_at "M:start"
  k_steps
  walk_at "M:end"
  have e : (2 : Int) ^ Int.toNat 16 = 65536 := by decide
  refine ret3 (by ktn_lt) (fd _) ((fd _).trans ?_) ((fd _).trans ?_)
  · rw [e]; unfold cB; congr 1; omega
  · rw [e]; unfold cR; congr 1; omega
theorem to_rgb_c (w : World) (mean mg mb) (r g b p : Int) (tr tg tb tp : Tok) (news : Led) (hr : 0 ≤ r ∧ r < 65536) (hg : 0 ≤ g ∧ g < 65536) (hb : 0 ≤ b ∧ b < 65536) (hp : 2 ≤ p ∧ p ≤ 16) :
   Con 10 w mean mg mb 59 news [.int r tr, .int g tg, .int b tb, .int p tp] (Ret3 (rR r b (pw (p-1)) (pw p - 1)) (gG r g b (pw (p-1)) (pw p - 1)) (bB r g (pw (p-1)) (pw p - 1)) news) := by
  have hpw := pw_facts hp
  walk_at "M:start"
  k_steps
  (rename (∀ (v : Value) (news' : Led) (h' : Heap) (tk' : Nat), _) => hret)
  refine hret _ _ _ _ ?_ (by assumption) (dropB (by assumption))
  refine ret3 (show _ ∧ _ ∧ AllLt _ _ by assumption).2.2 ?_ ?_ ?_
  · unfold rR; rw [fd]
  · unfold gG; rw [fd]
  · unfold bB; rw [fd]
theorem off_P4 : True := by w_top off; exact True.intro
local macro_rules | `(tactic| walk_at "call ref") => `(tactic| (k_here; (with_reducible show wpAny _ _ (call (Value.ref 52) _) _ _ _); k_dflt (refine' use_3 (to_ycc_c _ _ _ _ _ _ _ _ _ _ _ _ _ ?h1 ?h2 ?h3 ?h4) ?_; (case h1 => walk_at "M:sa"); (case h2 => walk_at "M:sa"); (case h3 => walk_at "M:sa"); (case h4 => walk_at "M:sa"); k_whole; intro D' t1' t2' t3' n' h' tk' l1' F' N'; (try simp only [AllLt, and_true] at l1'); skip)))
local macro_rules | `(tactic| walk_at "call ref") => `(tactic| (k_here; (with_reducible show wpAny _ _ (call (Value.ref 59) _) _ _ _); k_dflt (refine' use_3 (to_rgb_c _ _ _ _ _ _ _ _ _ _ _ _ _ ?h1 ?h2 ?h3 ?h4) ?_; (case h1 => walk_at "M:sa"); (case h2 => walk_at "M:sa"); (case h3 => walk_at "M:sa"); (case h4 => walk_at "M:sa"); k_whole; intro D' t1' t2' t3' n' h' tk' l1' F' N'; (try simp only [AllLt, and_true] at l1'); skip)))
theorem dropC {h₀ h : Heap} {L : Addr} {q a : Addr × Obj} {r : Led} (N : News h₀ L h (q :: a :: r)) : News h₀ L h (q :: r) := fun p hp => N p (by
  rcases List.mem_cons.mp hp with rfl | hp
  · exact .head _
  · exact .tail _ (.tail _ hp))
theorem to_ycck_c (w : World) (mean mg mb) (c m y k p : Int) (tc tm ty tk tp : Tok) (news : Led) (hc : 0 ≤ c ∧ c < pw p) (hm : 0 ≤ m ∧ m < pw p) (hy : 0 ≤ y ∧ y < pw p) (hp : 2 ≤ p ∧ p ≤ 16) :
   Con 15 w mean mg mb 66 news [.int c tc, .int m tm, .int y ty, .int k tk, .int p tp] (Ret4 (yY (pw p - 1 - c) (pw p - 1 - m) (pw p - 1 - y)) (cB (pw p - 1 - c) (pw p - 1 - m) (pw p - 1 - y) (pw (p-1))) (cR (pw p - 1 - c) (pw p - 1 - m) (pw p - 1 - y) (pw (p-1))) k news) := by
  have hpw := pw_facts hp
  walk_at "M:start"
  k_steps
  (rename (∀ (v : Value) (news' : Led) (h' : Heap) (tk' : Nat), _) => hret)
  refine hret _ _ _ _ ?_ (by assumption) (dropC (by assumption))
  exact ret4 (show _ ∧ AllLt _ _ by assumption).2 rfl rfl rfl rfl
theorem to_cmyk_c (w : World) (mean mg mb) (c m y k p : Int) (tc tm ty tk tp : Tok) (news : Led) (hc : 0 ≤ c ∧ c < 65536) (hm : 0 ≤ m ∧ m < 65536) (hy : 0 ≤ y ∧ y < 65536) (hp : 2 ≤ p ∧ p ≤ 16) :
   Con 15 w mean mg mb 73 news [.int c tc, .int m tm, .int y ty, .int k tk, .int p tp] (Ret4 (pw p - 1 - rR c y (pw (p-1)) (pw p - 1)) (pw p - 1 - gG c m y (pw (p-1)) (pw p - 1)) (pw p - 1 - bB c m (pw (p-1)) (pw p - 1)) k news) := by
  have hpw := pw_facts hp
  walk_at "M:start"
  k_steps
  (rename (∀ (v : Value) (news' : Led) (h' : Heap) (tk' : Nat), _) => hret)
  refine hret _ _ _ _ ?_ (by assumption) (dropC (by assumption))
  exact ret4 (show _ ∧ AllLt _ _ by assumption).2 rfl rfl rfl rfl
theorem off_P5 : True := by w_top off; exact True.intro
theorem k9 : (10 : Int) ^ Int.toNat 9 = 1000000000 := by decide
theorem fd2 (x : Int) : x.fdiv 2 = x / 2 := Int.fdiv_eq_ediv_of_nonneg x (by decide)
/-- the greatest of 0 and the least of two -/
def kpt (x m : Int) : Int := max 0 (min x (m * 1000000000))
theorem near_c (w : World) (mean mg mb) (n x e : Int) (tn tx te : Tok) (news : Led) (hn : 0 ≤ n ∧ n < 65536) (h : n * 1000000000 - x ≤ e ∧ x - n * 1000000000 ≤ e) :
   Con 5 w mean mg mb 143 news [.int n tn, .int x tx, .int e te] (fun v news' => v = .bool true ∧ news' = news) := by
  walk_at "M:start"
  k_steps
  walk_at "M:end"
  rw [k9]
  refine ⟨congrArg Value.bool (decide_eq_true ?_), rfl⟩
  split <;> omega
theorem kept_c (w : World) (mean mg mb) (x m : Int) (tx tm : Tok) (news : Led) (hm : 0 ≤ m ∧ m < 65536) :
   Con 5 w mean mg mb 155 news [.int x tx, .int m tm] (fun v news' => (∃ t, v = .int (kpt x m) t) ∧ news' = news) := by
  walk_at "M:start"
  k_steps
  walk_at "M:end"
  rw [k9]
  refine ⟨⟨_, congrArg (Value.int · _) ?_⟩, rfl⟩
  unfold kpt
  (repeat' split) <;> omega
theorem off_P6 : True := by w_top off; exact True.intro
/-- the ledger bears the tuple at ax -/
def SrcTup (ax : Addr) (its : Array Value) (nw : Led) : Prop := ∃ k, (ax, ({ cls := .type "tuple", data := .seq its k } : Obj)) ∈ nw
section
variable {prog : Program} {w : World} {A : Around} {E : Value → Shared → Prop} {s : Shared} {h₀ : Heap} {L : Addr} {m : Str → Option Value} {env : Env}
theorem SrcTup.at {ax : Addr} {its : Array Value} {nw : Led} {h : Heap} (x : SrcTup ax its nw) (N : News h₀ L h nw) : h.IsTuple ax its := by
  obtain ⟨k, hm⟩ := x
  exact ⟨_, (N _ hm).1, rfl, k, rfl⟩
theorem tup_still {ax I : Addr} {its : Array Value} (i : Nat) (h h' : Heap) (o : Obj) (nw : Led) (st : h.IsTupleIter I ax i ∧ h.IsTuple ax its) (e : h.get? I = some o) (e' : h'.get? I = some o)
    (_ : ∀ b o, h₀.get? b = some o → h'.get? b = some o) (N : News h₀ L h' nw) (S : SrcTup ax its nw) : h'.IsTupleIter I ax i ∧ h'.IsTuple ax its := by
  refine ⟨?_, S.at N⟩
  obtain ⟨o', q, r⟩ := st.1
  rw [e] at q
  cases q
  exact ⟨o, e', r⟩
/-- where a comprehension over a made tuple, without a test, goes on from -/
def TupU (prog : Program) (w : World) (A : Around) (h₀ : Heap) (L : Addr) (m : Str → Option Value) (env : Env) (elt : Expr) (x : Str) (scope : Scope) (cl : List (Str × Addr)) (Fin : Shared → List Value → Led → Prop) (xv : Value) (s₁ : Shared) : Prop :=
  ∃ ax its news, xv = .ref ax ∧ A.handled = none ∧ Fr h₀ L s₁.heap m ∧ News h₀ L s₁.heap news ∧ SrcTup ax its news ∧ its.size ≤ sizeLine ∧
    ∀ h, LCg.CompRest prog w A h₀ L m env elt x scope cl { s₁ with heap := h } (SrcTup ax its) (fun i v => its[i]? = some v) (Fin { s₁ with heap := h }) its.size 0 [] news
/-- the same with one test -/
def TupT (prog : Program) (w : World) (A : Around) (h₀ : Heap) (L : Addr) (m : Str → Option Value) (env : Env) (ct elt : Expr) (x : Str) (scope : Scope) (cl : List (Str × Addr)) (Fin : Shared → List Value → Led → Prop) (xv : Value) (s₁ : Shared) : Prop :=
  ∃ ax its news, xv = .ref ax ∧ A.handled = none ∧ Fr h₀ L s₁.heap m ∧ News h₀ L s₁.heap news ∧ SrcTup ax its news ∧ its.size ≤ sizeLine ∧
    ∀ h, LCt.CompRestT prog w A h₀ L m env ct elt x scope cl { s₁ with heap := h } (SrcTup ax its) (fun i v => its[i]? = some v) (Fin { s₁ with heap := h }) its.size 0 [] news
theorem comp_leaves {Q : Value → Shared → Prop} {s₂ : Shared} (D C : Addr) (h : Heap) (tk : Nat) (m' : Str → Option Value) (ys : List Value) (news' : Led) (F' : Fr h₀ L h m) (N' : News h₀ L h ((D, LCg.lst ys) :: news')) (o1 : LCg.Off1 D news')
    (hn : h.Ns C m') (hC₀ : h₀.get? C = none) (hCL : C ≠ L) (hCD : C ≠ D) (offC : ∀ p ∈ news', p.1 ≠ C) (fin : LCg.FinE h₀ L m s₂ Q ys news') :
    ∃ m₁, h.Ns C m₁ ∧ ∀ h'', Heap.SameBut C h h'' → Q (.ref D) { s₂ with heap := h'', toks := tk } := by
  refine ⟨m', hn, fun h'' hs => fin D h'' tk (F'.change hs hCL hC₀) (fun p hp => ⟨hs.extBut _ _ ?_ (N' p hp).1, (N' p hp).2⟩) o1⟩
  rcases List.mem_cons.mp hp with rfl | hp
  · exact hCD.symm
  · exact offC p hp
theorem ListComp_TupU {elt iter : Expr} {x : Str} {px : Pos} {scope : Scope} {cl : List (Str × Addr)} {pos : Pos} {Q : Value → Shared → Prop}
    (_F₀ : Fr h₀ L s.heap m) (hclos : closureFor scope env = pure cl) (hcell : ∀ y ∈ scope.names, y.2 ≠ .cell) (hkind : scope.kind = .function)
    (hnames : ∀ y ∈ scope.names, y.2 = .local → scope.names.lookup y.1 = some .local) (hx : scope.names.lookup x = some .local)
    (h : wpAny (model prog w) A (eval iter env) (TupU prog w A h₀ L m env elt x scope cl (fun s₂ => LCg.FinE h₀ L m s₂ Q)) E s)
    (hs : ∀ x, foldedSetIterable iter env x = pure x := by intro _; rfl) :
    wpAny (model prog w) A (eval (.ListComp elt [⟨.Name x px, iter, [], 0⟩] scope pos) env) Q E s := by
  rw [eval_ListComp]
  refine wpAny_comprehension_free (use := none) rfl hs hclos hkind hnames (wpAny_mono h (fun xv s₁ h₁ => ?_) fun _ _ e => e)
  obtain ⟨ax, its, news, rfl, hh, F, N, S, hsz, R⟩ := h₁
  have hl := S.at N
  have hlt : ax < s₁.heap.objs.size := by obtain ⟨_, e, _⟩ := hl; exact Heap.lt_size e
  refine wpAny_pyIter_tuple hl ?_
  have up : ∀ b o, s₁.heap.get? b = some o → (s₁.heap.push { cls := .type "tuple_iterator", data := .fields #[.ref ax, .int 0 0] }).get? b = some o := fun b o e => Heap.get?_push_of_some _ e
  refine LCg.block_U (Walks.tuple hh s₁.heap.objs.size ax (Nat.ne_of_lt hlt) its) hsz (fun i h st => by obtain ⟨o, e, _⟩ := st.1; exact ⟨o, e⟩) tup_still hcell hkind hx
    ⟨⟨_, Heap.get?_push_size _ rfl, rfl, rfl⟩, hl.at (up ax)⟩ (fun b hb => ?_) (F.keeps up) (N.grown up) (Nat.ne_of_lt F.ns.lt) (next_is_new F) (fun p hp => Nat.ne_of_lt (Heap.lt_size (N p hp).1)) S (R _) ?_
  · show b < (s₁.heap.push _).objs.size
    rw [Heap.size_push]
    rcases List.mem_cons.mp hb with rfl | hb
    · exact Nat.lt_succ_self _
    · rw [List.mem_singleton.mp hb]; exact Nat.lt_succ_of_lt hlt
  · exact fun D C h tk m' ys news' F' N' o1 hn hC₀ _ hCL _ hCD offC fin => comp_leaves D C h tk m' ys news' F' N' o1 hn hC₀ hCL hCD offC fin
theorem ListComp_TupT {ct elt iter : Expr} {x : Str} {px : Pos} {scope : Scope} {cl : List (Str × Addr)} {pos : Pos} {Q : Value → Shared → Prop}
    (_F₀ : Fr h₀ L s.heap m) (hclos : closureFor scope env = pure cl) (hcell : ∀ y ∈ scope.names, y.2 ≠ .cell) (hkind : scope.kind = .function)
    (hnames : ∀ y ∈ scope.names, y.2 = .local → scope.names.lookup y.1 = some .local) (hx : scope.names.lookup x = some .local)
    (h : wpAny (model prog w) A (eval iter env) (TupT prog w A h₀ L m env ct elt x scope cl (fun s₂ => LCg.FinE h₀ L m s₂ Q)) E s)
    (hs : ∀ x, foldedSetIterable iter env x = pure x := by intro _; rfl) :
    wpAny (model prog w) A (eval (.ListComp elt [⟨.Name x px, iter, [ct], 0⟩] scope pos) env) Q E s := by
  rw [eval_ListComp]
  refine wpAny_comprehension_free (use := none) rfl hs hclos hkind hnames (wpAny_mono h (fun xv s₁ h₁ => ?_) fun _ _ e => e)
  obtain ⟨ax, its, news, rfl, hh, F, N, S, hsz, R⟩ := h₁
  have hl := S.at N
  have hlt : ax < s₁.heap.objs.size := by obtain ⟨_, e, _⟩ := hl; exact Heap.lt_size e
  refine wpAny_pyIter_tuple hl ?_
  have up : ∀ b o, s₁.heap.get? b = some o → (s₁.heap.push { cls := .type "tuple_iterator", data := .fields #[.ref ax, .int 0 0] }).get? b = some o := fun b o e => Heap.get?_push_of_some _ e
  refine LCt.block_T (Walks.tuple hh s₁.heap.objs.size ax (Nat.ne_of_lt hlt) its) hsz (fun i h st => by obtain ⟨o, e, _⟩ := st.1; exact ⟨o, e⟩) tup_still hcell hkind hx
    ⟨⟨_, Heap.get?_push_size _ rfl, rfl, rfl⟩, hl.at (up ax)⟩ (fun b hb => ?_) (F.keeps up) (N.grown up) (Nat.ne_of_lt F.ns.lt) (next_is_new F) (fun p hp => Nat.ne_of_lt (Heap.lt_size (N p hp).1)) S (R _) ?_
  · show b < (s₁.heap.push _).objs.size
    rw [Heap.size_push]
    rcases List.mem_cons.mp hb with rfl | hb
    · exact Nat.lt_succ_self _
    · rw [List.mem_singleton.mp hb]; exact Nat.lt_succ_of_lt hlt
  · exact fun D C h tk m' ys news' F' N' o1 hn hC₀ _ hCL _ hCD offC fin => comp_leaves D C h tk m' ys news' F' N' o1 hn hC₀ hCL hCD offC fin
end
theorem off_P7 : True := by w_top off; exact True.intro
section
variable {prog : Program} {w : World} {A₀ A : Around} {s : Shared} {base h₀ : Heap} {outer : List Env} {L : Addr} {m mg mb : Str → Option Value} {env : Env} {news r : Led} {K : Frag} {p : Program} {loose : List Str} {mean : ExcName → Option Value}
  {R : Result → Shared → Prop} {name qual : Str} {params : Arguments} {body : List Stmt} {scope : Scope} {dV kV doc pm cdv ct oc : Value} {an od : Option Addr} {osl : Array (Option Value)} {f : Addr} {args : Args} {binds : List (Str × Value)}
/-- a def is entered with the ledger `news`; what else was made (`r`) stands in the callee's ground -/
theorem enter_plain (B : Below A₀ base outer h₀) (F : Fr h₀ L s.heap m) (X₀ : K.In h₀) (N : News h₀ L s.heap news) (T : Top p loose mean mg mb h₀) (Nr : News h₀ L s.heap r) (off : ∀ q ∈ r, q.1 ∉ news.map (·.1))
    (hA : A.frames = some (env :: outer)) (hf : env.frame = some L) (hke : env.scope.kind = .function)
    (ho : K.lookup f = some ⟨oc, od, .func (fnOf name qual params body scope dV kV doc pm an cdv ct), osl⟩) (hcd : codeIn K cdv qual = true) (hroom : A.depth < recursionLimit)
    (hbind : BindsTo s (fnOf name qual params body scope dV kV doc pm an cdv ct) args binds) (hloc : ∀ y ∈ binds, scope.names.lookup y.1 = some .local)
    (h : ∀ g L' h₁, Fr h₀ L g m → Fr g L' h₁ (fun y => binds.reverse.lookup y) → News g L' h₁ news → Below A base (env :: outer) g → K.In g → Top p loose mean mg mb g → (∀ q ∈ r, g.get? q.1 = some q.2) →
      wpAny (model prog w) (A.deeper (envOf qual scope L' f cdv)) (execs body (envOf qual scope L' f cdv))
        (fun fl s' => LeaveK h₀ L m g R (match fl with | .ret v => v | _ => .none) s')
        (fun e s' => wpAny (model prog w) (A.deeper (envOf qual scope L' f cdv)) (leaving (envOf qual scope L' f cdv) e) (fun _ s'' => R (.error e) s'') (fun e' s'' => R (.error e') s'') s')
        { s with heap := h₁, toks := s.toks + binds.length })
    (hco : scope.isCoroutine = false) (hgen : scope.isGenerator = false) (hk : scope.kind = .function)
    (hcell : ∀ x ∈ scope.names, x.2 ≠ .cell) : codeAny (model prog w) A (.call (.ref f) args) R s := by
  obtain ⟨FG, BG, st, lv⟩ := groundX (R := R) B F N hA hf hke
  refine codeAny_call_def (fd := fnX name qual params body scope [] dV kV doc pm an cdv ct) hroom ((X₀.keeps F.keep) _ _ ho) rfl (T.nolimit.keeps F.keep) (codeRec_of (X₀.keeps F.keep) hcd) rfl hbind hcell hloc (fun h₁ hns hk₁ => ?_) hco hgen hk
  have Fn : Fr (hideAll s.heap (news.map (·.1))) s.heap.objs.size h₁ (fun y => binds.reverse.lookup y) := ⟨hns, fun b o e => hk₁ b o (of_hideAll _ e), Nat.le_of_eq (hideAll_size _ _)⟩
  have Nn : News (hideAll s.heap (news.map (·.1))) s.heap.objs.size h₁ news := fun q hq => ⟨hk₁ _ _ (N q hq).1, Nat.ne_of_lt (Heap.lt_size (N q hq).1), hideAll_none _ (List.mem_map_of_mem hq)⟩
  exact wpAny_mono (h _ _ h₁ FG Fn Nn BG (X₀.keeps st) (T.keeps st) fun q hq => hideAll_get _ (Nr q hq).1 (off q hq)) (fun fl s' hl => lv _ _ hl) fun _ _ y => y
theorem enter_cells (B : Below A₀ base outer h₀) (F : Fr h₀ L s.heap m) (X₀ : K.In h₀) (N : News h₀ L s.heap news) (T : Top p loose mean mg mb h₀) (Nr : News h₀ L s.heap r) (off : ∀ q ∈ r, q.1 ∉ news.map (·.1))
    (hA : A.frames = some (env :: outer)) (hf : env.frame = some L) (hke : env.scope.kind = .function)
    (ho : K.lookup f = some ⟨oc, od, .func (fnOf name qual params body scope dV kV doc pm an cdv ct), osl⟩) (hcd : codeIn K cdv qual = true) (hroom : A.depth < recursionLimit)
    (hbind : BindsTo s (fnOf name qual params body scope dV kV doc pm an cdv ct) args binds) (hkind : (binds.all fun y => scope.names.lookup y.1 == some .local || scope.names.lookup y.1 == some .cell) = true)
    (hnd : ((cellsFrom 0 scope.names []).map (·.1)).Nodup)
    (h : ∀ g L' h₁ tk cells, Fr h₀ L g m → Fr g L' h₁ (bindL (envOfC qual scope L' f cdv).kindOf binds fun _ => none) → News g L' h₁ (cells ++ news) →
      CellsAre (bindC (envOfC qual scope L' f cdv).kindOf binds fun _ => none) (cellsFrom (L' + 1) scope.names []) cells → Below A base (env :: outer) g → K.In g → Top p loose mean mg mb g → (∀ q ∈ r, g.get? q.1 = some q.2) → (∀ p ∈ news, p.1 < L') →
      wpAny (model prog w) (A.deeper (envOfC qual scope L' f cdv)) (execs body (envOfC qual scope L' f cdv))
        (fun fl s' => LeaveK h₀ L m g R (match fl with | .ret v => v | _ => .none) s')
        (fun e s' => wpAny (model prog w) (A.deeper (envOfC qual scope L' f cdv)) (leaving (envOfC qual scope L' f cdv) e) (fun _ s'' => R (.error e) s'') (fun e' s'' => R (.error e') s'') s')
        { s with heap := h₁, toks := tk })
    (hco : scope.isCoroutine = false) (hgen : scope.isGenerator = false) (hk : scope.kind = .function) : codeAny (model prog w) A (.call (.ref f) args) R s := by
  obtain ⟨FG, BG, st, lv⟩ := groundX (R := R) B F N hA hf hke
  refine codeAny_call_function (fd := fnX name qual params body scope [] dV kV doc pm an cdv ct) hroom ((X₀.keeps F.keep) _ _ ho) rfl hco hgen rfl (codeRec_of (X₀.keeps F.keep) hcd) (hbind _ _ _ _ ?_)
  refine wpAny_newFunctionEnv_cells hk (kindsX hkind _) fun env' he s' x => ?_
  subst he
  refine ⟨(T.nolimit.keeps F.keep).keeps x.toInCall.keep, codeAny_func ?_⟩
  obtain ⟨h₁, tk, rfl, _⟩ := x.done
  have hk₁ := x.toInCall.keep
  obtain ⟨cells, NC, Y⟩ := Cl.news (h₀ := s.heap) (Nat.le_refl _) fun n c hm => ⟨x.cell n c (lookup_of_mem_nodup (cellsFrom_names scope.names 0 (s.heap.objs.size + 1) [] [] rfl ▸ hnd) hm), x.above n c hm⟩
  have Fn : Fr (hideAll s.heap (news.map (·.1))) s.heap.objs.size h₁ (bindL (envOfC qual scope s.heap.objs.size f cdv).kindOf binds fun _ => none) := ⟨x.toInCall.ns, fun b o e => hk₁ b o (of_hideAll _ e), Nat.le_of_eq (hideAll_size _ _)⟩
  have Nn : News (hideAll s.heap (news.map (·.1))) s.heap.objs.size h₁ (cells ++ news) := fun q hq => by
    rcases List.mem_append.mp hq with hq | hq
    · refine ⟨(NC q hq).1, (NC q hq).2.1, ?_⟩
      cases e : (hideAll s.heap (news.map (·.1))).get? q.1 with
      | none => rfl
      | some o => have := of_hideAll _ e; rw [(NC q hq).2.2] at this; cases this
    · exact ⟨hk₁ _ _ (N q hq).1, Nat.ne_of_lt (Heap.lt_size (N q hq).1), hideAll_none _ (List.mem_map_of_mem hq)⟩
  exact wpAny_mono (h _ s.heap.objs.size h₁ tk cells FG Fn Nn Y BG (X₀.keeps st) (T.keeps st) (fun q hq => hideAll_get _ (Nr q hq).1 (off q hq)) fun q hq => Heap.lt_size (N q hq).1) (fun fl s' hl => lv _ _ hl) fun _ _ y => y
theorem frame_end {h g h₀₀ : Heap} {L' L₀ : Addr} {m' : Str → Option Value} {nw : Led} (N : News h₀ L h nw) (F : Fr g L' h m') (hg : ∀ q ∈ r, g.get? q.1 = some q.2) (N0 : News h₀ L h₀₀ r) : News h₀ L h (nw ++ r) := fun q hq => by
  rcases List.mem_append.mp hq with hq | hq
  · exact N q hq
  · exact ⟨F.keep _ _ (hg q hq), (N0 q hq).2⟩
end
/-- a contract that leaves all else as it is -/
def ConF (lv : Nat) (w : World) (mean : ExcName → Option Value) (mg mb : Str → Option Value) (f : Addr) (small : Led) (vs : List Value) (Ret : Value → Led → Prop) : Prop :=
  ∀ r : Led, (∀ q ∈ r, q.1 ∉ small.map (·.1)) → Con lv w mean mg mb f (small ++ r) vs (fun v nw => ∃ sm, Ret v sm ∧ nw = sm ++ r)
theorem news_l {h₀ h : Heap} {L : Addr} {a b : Led} (N : News h₀ L h (a ++ b)) : News h₀ L h a := fun q hq => N q (List.mem_append_left _ hq)
theorem news_r {h₀ h : Heap} {L : Addr} {a b : Led} (N : News h₀ L h (a ++ b)) : News h₀ L h b := fun q hq => N q (List.mem_append_right _ hq)
/-- q taken out of a ledger -/
inductive Pick (q : Addr × Obj) : Led → Led → Prop
  | head {r} : (∀ p ∈ r, p.1 ≠ q.1) → Pick q (q :: r) r
  | tail {p l r} : p.1 ≠ q.1 → Pick q l r → Pick q (p :: l) (p :: r)
theorem Pick.sub {q : Addr × Obj} {l r : Led} (h : Pick q l r) : ∀ p ∈ q :: r, p ∈ l := by
  induction h with
  | head _ => exact fun _ h => h
  | tail _ _ ih =>
    intro p hp
    rcases List.mem_cons.mp hp with rfl | hp
    · exact .tail _ (ih _ (.head _))
    · rcases List.mem_cons.mp hp with rfl | hp
      · exact .head _
      · exact .tail _ (ih _ (.tail _ hp))
theorem Pick.off {q : Addr × Obj} {l r : Led} (h : Pick q l r) : ∀ p ∈ r, p.1 ≠ q.1 := by
  induction h with
  | head h => exact h
  | tail h _ ih =>
    intro p hp
    rcases List.mem_cons.mp hp with rfl | hp
    · exact h
    · exact ih p hp
theorem conF1 {lv : Nat} {w : World} {mean : ExcName → Option Value} {mg mb : Str → Option Value} {f : Addr} {q : Addr × Obj} {vs : List Value} {Ret : Value → Led → Prop} {big r : Led}
    (C : ConF lv w mean mg mb f [q] vs Ret) (P : Pick q big r) : Con lv w mean mg mb f big vs (fun v nw => ∃ sm, Ret v sm ∧ nw = sm ++ r) := by
  intro dp un gd cn cs a ccd cl outer A₀ base h₀ L m hp gn dr tk os Q E B F X N T hk hdp hun hret
  exact C r (fun p hp => by simpa using P.off p hp) _ _ _ _ _ _ _ _ _ _ _ _ _ _ _ _ _ _ _ _ _ B F X (fun p hp => N p (P.sub p hp)) T hk hdp hun hret
theorem conF2 {lv : Nat} {w : World} {mean : ExcName → Option Value} {mg mb : Str → Option Value} {f : Addr} {q₁ q₂ : Addr × Obj} {vs : List Value} {Ret : Value → Led → Prop} {big r₁ r : Led}
    (C : ConF lv w mean mg mb f [q₁, q₂] vs Ret) (P₁ : Pick q₁ big r₁) (P₂ : Pick q₂ r₁ r) : Con lv w mean mg mb f big vs (fun v nw => ∃ sm, Ret v sm ∧ nw = sm ++ r) := by
  intro dp un gd cn cs a ccd cl outer A₀ base h₀ L m hp gn dr tk os Q E B F X N T hk hdp hun hret
  refine C r (fun p hp => ?_) _ _ _ _ _ _ _ _ _ _ _ _ _ _ _ _ _ _ _ _ _ B F X (fun p hp => N p (P₁.sub p ?_)) T hk hdp hun hret
  · simp only [List.map_cons, List.map_nil, List.mem_cons, List.not_mem_nil, or_false, not_or]
    exact ⟨P₁.off p (P₂.sub p (.tail _ hp)), P₂.off p hp⟩
  · rcases List.mem_cons.mp hp with rfl | hp
    · exact .head _
    · exact .tail _ (P₂.sub p hp)
theorem use_F {lv : Nat} {w : World} {mean : ExcName → Option Value} {mg mb : Str → Option Value} {f : Addr} {news : Led} {vs : List Value} {b : Bool} {S r : Led} (C : Con lv w mean mg mb f news vs (fun v nw => ∃ sm, (v = .bool b ∧ sm = S) ∧ nw = sm ++ r))
    {dp un : Nat} {gd : Option (List Code)} {cn : Str} {cs : Scope} {a : Addr} {ccd : Value} {cl : List (Str × Addr)} {outer : List Env} {A₀ : Around} {base h₀ : Heap} {L : Addr} {m : Str → Option Value} {hp : Heap} {gn : Array GenState} {dr : Drawn} {tk : Nat} {os : OsState} {Q E : Value → Shared → Prop}
    (ret : ∀ h' tk', Fr h₀ L h' m → News h₀ L h' (S ++ r) → Q (.bool b) (Shared.mk h' gn dr tk' os))
    (B : Below A₀ base outer h₀ := by k_asm) (F : Fr h₀ L hp m := by k_asm) (X : (hd.heap_39 w.params).In h₀ := by k_asm) (N : News h₀ L hp news := by k_asm) (T : Top Mine.vw (looseW Mine.vw [Str.ofString "HALF"]) mean mg mb h₀ := by k_asm) (hk : cs.kind = .function := by first | exact rfl | assumption)
    (hdp : dp + lv < recursionLimit := by ktr_room) (hun : un + 8 * lv < cLine := by ktr_units) :
    wpAny (model PySem.Challenge.rw_ok0125_01.row.prog w) (ktrTop dp un gd cn cs L a ccd cl outer) (call (.ref f) vs) Q E (Shared.mk hp gn dr tk os) := C _ _ _ _ _ _ _ _ _ _ _ _ _ _ _ _ _ _ _ _ _ B F X N T hk hdp hun (by
  intro v nw h' tk' hR F' N'
  obtain ⟨sm, ⟨rfl, rfl⟩, rfl⟩ := hR; exact ret _ _ F' N')
theorem off_P8 : True := by w_top off; exact True.intro
local macro_rules | `(tactic| walk_at "M:startF") => `(tactic| (unfold ConF; intro rF hoff; unfold Con; intro dp un gd cn cs a ccd cl outer A₀ base h₀ L m hp gn dr tk os Q E B F X NF T hk hdp hun hret; have N := news_l NF; have NrF := news_r NF; clear NF; refine wpAny_call ?_; k_dflt (first
  | (refine' enter_plain ?k1 ?k2 ?k3 ?k4 ?k5 NrF hoff ?kA ?kF ?kK ?k6 ?k7 ?k8 ?k9 ?kB ?_ ?c2 ?c3 ?c4 ?c5; (case kA => exact rfl); (case kF => exact rfl); (case kK => first | exact rfl | assumption); (case k1 => k_asm); (case k2 => k_asm); (case k3 => k_asm); (case k4 => k_asm); (case k5 => k_asm); (case k6 => k_is); (case k7 => k_is); (case k8 => ktr_room); (case k9 => exact BindsTo.of_eq rfl); (case c5 => decide); (case kB => exact locs rfl); (case c2 => exact rfl); (case c3 => exact rfl); (case c4 => exact rfl); k_whole; intro g' L' h' FG' F' N' B' X' T' hrF; (try dsimp only); (try k_lift B'); (try (refine' foldQ ?_; intro qk' ek')))
  | (refine' enter_cells ?k1 ?k2 ?k3 ?k4 ?k5 NrF hoff ?kA ?kF ?kK ?k6 ?k7 ?k8 ?k9 ?kB ?kD ?_ ?c2 ?c3 ?c4; (case kA => exact rfl); (case kF => exact rfl); (case kK => first | exact rfl | assumption); (case k1 => k_asm); (case k2 => k_asm); (case k3 => k_asm); (case k4 => k_asm); (case k5 => k_asm); (case k6 => k_is); (case k7 => k_is); (case k8 => ktr_room); (case k9 => exact BindsTo.of_eq rfl); (case kB => exact rfl); (case kD => decide +kernel); (case c2 => exact rfl); (case c3 => exact rfl); (case c4 => exact rfl); k_whole; intro g' L' h' tk' cells' FG' F' N' Y' B' X' T' hrF l1; (try k_lt l1); k_cells Y'; (try simp only [List.cons_append, List.nil_append] at N'); (try dsimp only); (try k_lift B'); (try (refine' foldQ ?_; intro qk' ek'))))))
local macro_rules | `(tactic| walk_at "M:endF") => `(tactic| ((rename (∀ (v : Value) (news' : Led) (h' : Heap) (tk' : Nat), _) => hret); (rename (∀ (q : Addr × Obj), q ∈ _ → Heap.get? _ q.1 = some q.2) => hrF); refine' hret _ _ _ _ ⟨_, ?rt, rfl⟩ ?fr (frame_end (cb_drop ?nw ?sb) ?ff hrF ?nr); (case fr => assumption); (case nw => assumption); (case ff => assumption); (case nr => assumption)))
local macro_rules | `(tactic| lcg_src) => `(tactic| exact ⟨_, by k_mem⟩)
local macro_rules | `(tactic| walk_at "eval ListComp") => `(tactic| (k_here; lct_look; k_dflt (refine ListComp_TupT (_F₀ := by k_asm) (by with_unfolding_all rfl) (by decide) (by rfl) (by decide) (by rfl) ?_); walk1; (with_reducible show TupT _ _ _ _ _ _ _ _ _ _ _ _ _ _ _); k_dflt (refine ⟨_, _, _, rfl, by rfl, by k_asm, by k_asm, ⟨_, by k_mem⟩, by first | size_fits | exact Nat.le_of_ble_eq_true rfl, ?_⟩); intro g'; lct_lit))
local macro_rules | `(tactic| walk_at "eval ListComp") => `(tactic| (k_here; (first | lcf_look | lcg_look); k_dflt (refine ListComp_TupU (_F₀ := by k_asm) (by with_unfolding_all rfl) (by decide) (by rfl) (by decide) (by rfl) ?_); walk1; (with_reducible show TupU _ _ _ _ _ _ _ _ _ _ _ _ _ _); k_dflt (refine ⟨_, _, _, rfl, by rfl, by k_asm, by k_asm, ⟨_, by k_mem⟩, by first | size_fits | exact Nat.le_of_ble_eq_true rfl, ?_⟩); intro g'; lcg_lit))
local macro_rules | `(tactic| walk_at "call ref") => `(tactic| (k_here; (with_reducible show wpAny _ _ (call (Value.ref 143) _) _ _ _); k_dflt (refine' use_bool (near_c _ _ _ _ _ _ _ _ _ _ _ ?h1 ?h2) ?_; (case h1 => walk_at "M:sa"); (case h2 => first | exact Kept.out (by with_reducible assumption) | ((try simp only [k9, fd2]); constructor <;> first | omega | ((repeat' split) <;> omega))); k_whole; intro h' tk' F' N'; skip)))
local macro_rules | `(tactic| walk_at "call ref") => `(tactic| (k_here; (with_reducible show wpAny _ _ (call (Value.ref 155) _) _ _ _); k_dflt (refine' use_int (kept_c _ _ _ _ _ _ _ _ _ ?h1) ?_; (case h1 => walk_at "M:sa"); k_whole; intro t' h' tk' F' N'; skip)))
/-- a list of three ints -/
abbrev lst3 (a b c : Int) (ta tb tc : Tok) (n : Nat) : Obj := listOf #[.int a ta, .int b tb, .int c tc] n
theorem parts_c (w : World) (mean mg mb) (d1 d2 : Addr) (r g b y u v m q : Int) (tr tg tb ty tu tv tm : Tok) (n1 n2 : Nat)
   (hm : m + 1 = 2 * q ∧ 2 ≤ q ∧ q ≤ 32768) (hr : 0 ≤ r ∧ r ≤ m) (hg : 0 ≤ g ∧ g ≤ m) (hb : 0 ≤ b ∧ b ≤ m)
   (hy : 0 ≤ y ∧ y ≤ m) (hu : 0 ≤ u ∧ u ≤ m) (hv : 0 ≤ v ∧ v ≤ m)
   (e1 : Kept (y * 1000000000 - (299000000 * r + 587000000 * g + 114000000 * b) ≤ 500020000 + 5000 * r + 6000 * g + 2000 * b ∧
     299000000 * r + 587000000 * g + 114000000 * b - y * 1000000000 ≤ 500020000 + 5000 * r + 6000 * g + 2000 * b))
   (e2 : Kept (u * 1000000000 - ((m + 1).fdiv 2 * 10 ^ Int.toNat 9 + 500000000 * b - 168735892 * r - 331264108 * g) ≤ 500020000 + 5000 * (r + g) ∧
     (m + 1).fdiv 2 * 10 ^ Int.toNat 9 + 500000000 * b - 168735892 * r - 331264108 * g - u * 1000000000 ≤ 500020000 + 5000 * (r + g)))
   (e3 : Kept (v * 1000000000 - ((m + 1).fdiv 2 * 10 ^ Int.toNat 9 + 500000000 * r - 418687589 * g - 81312411 * b) ≤ 500020000 + 2000 * (g + b) ∧
     (m + 1).fdiv 2 * 10 ^ Int.toNat 9 + 500000000 * r - 418687589 * g - 81312411 * b - v * 1000000000 ≤ 500020000 + 2000 * (g + b))) :
   ConF 15 w mean mg mb 148 [(d2, { cls := .type "tuple", data := .seq #[.int y ty, .int u tu, .int v tv] n2 }), (d1, listOf #[.int r tr, .int g tg, .int b tb] n1)] [.ref d1, .ref d2, .int m tm]
     (fun v' sm => v' = .bool true ∧ sm = [(d2, { cls := .type "tuple", data := .seq #[.int y ty, .int u tu, .int v tv] n2 }), (d1, listOf #[.int r tr, .int g tg, .int b tb] n1)]) := by
  have hr6 : 0 ≤ r ∧ r < 65536 := by omega
  have hg6 : 0 ≤ g ∧ g < 65536 := by omega
  have hb6 : 0 ≤ b ∧ b < 65536 := by omega
  have hy6 : 0 ≤ y ∧ y < 65536 := by omega
  have hu6 : 0 ≤ u ∧ u < 65536 := by omega
  have hv6 : 0 ≤ v ∧ v < 65536 := by omega
  have hrg7 : 0 ≤ r + g ∧ r + g < 131072 := by omega
  have hgb7 : 0 ≤ g + b ∧ g + b < 131072 := by omega
  walk_at "M:startF"
  k_steps
  all_goals (try k_data)
  walk_at "M:endF"
  case rt => exact ⟨rfl, rfl⟩
  case sb => kcj_all
  all_goals exact (0 : Nat)
theorem off_P9 : True := by w_top off; exact True.intro
theorem back_c (w : World) (mean mg mb) (d1 d2 : Addr) (l u v R G B m : Int) (tl tu tv tR tG tB tm : Tok) (n1 n2 : Nat)
   (hm : 3 ≤ m ∧ m ≤ 65535) (hl : 0 ≤ l ∧ l ≤ m) (hu : 0 ≤ u ∧ u ≤ m) (hv : 0 ≤ v ∧ v ≤ m)
   (hR : 0 ≤ R ∧ R ≤ m) (hG : 0 ≤ G ∧ G ≤ m) (hB : 0 ≤ B ∧ B ≤ m)
   (eR : R * 1000000000 - kpt (l * 1000000000 + 1402000000 * (v - (m + 1) / 2)) m ≤ 500020000 + 8000 * max (v - (m + 1) / 2) (-(v - (m + 1) / 2)) ∧
         kpt (l * 1000000000 + 1402000000 * (v - (m + 1) / 2)) m - R * 1000000000 ≤ 500020000 + 8000 * max (v - (m + 1) / 2) (-(v - (m + 1) / 2)))
   (eG : G * 1000000000 - kpt (l * 1000000000 - 344136286 * (u - (m + 1) / 2) - 714136286 * (v - (m + 1) / 2)) m ≤ 500020000 + 6000 * max (u - (m + 1) / 2) (-(u - (m + 1) / 2)) + 6000 * max (v - (m + 1) / 2) (-(v - (m + 1) / 2)) ∧
         kpt (l * 1000000000 - 344136286 * (u - (m + 1) / 2) - 714136286 * (v - (m + 1) / 2)) m - G * 1000000000 ≤ 500020000 + 6000 * max (u - (m + 1) / 2) (-(u - (m + 1) / 2)) + 6000 * max (v - (m + 1) / 2) (-(v - (m + 1) / 2)))
   (eB : B * 1000000000 - kpt (l * 1000000000 + 1772000000 * (u - (m + 1) / 2)) m ≤ 500020000 + 4000 * max (u - (m + 1) / 2) (-(u - (m + 1) / 2)) ∧
         kpt (l * 1000000000 + 1772000000 * (u - (m + 1) / 2)) m - B * 1000000000 ≤ 500020000 + 4000 * max (u - (m + 1) / 2) (-(u - (m + 1) / 2))) :
   ConF 15 w mean mg mb 160 [(d2, { cls := .type "tuple", data := .seq #[.int R tR, .int G tG, .int B tB] n2 }), (d1, listOf #[.int l tl, .int u tu, .int v tv] n1)] [.ref d1, .ref d2, .int m tm]
     (fun v' sm => v' = .bool true ∧ sm = [(d2, { cls := .type "tuple", data := .seq #[.int R tR, .int G tG, .int B tB] n2 }), (d1, listOf #[.int l tl, .int u tu, .int v tv] n1)]) := by
  have hmx : ∀ x : Int, max x (-x) = if x < 0 then -x else x := by intro x; omega
  have fR : Kept (R * 1000000000 - kpt (l * 10 ^ Int.toNat 9 + 1402000000 * (v - (m + 1).fdiv 2)) m ≤ 500020000 + 8000 * (if v - (m + 1).fdiv 2 < 0 then -(v - (m + 1).fdiv 2) else v - (m + 1).fdiv 2) ∧ kpt (l * 10 ^ Int.toNat 9 + 1402000000 * (v - (m + 1).fdiv 2)) m - R * 1000000000 ≤ 500020000 + 8000 * (if v - (m + 1).fdiv 2 < 0 then -(v - (m + 1).fdiv 2) else v - (m + 1).fdiv 2)) := by
    show _ ∧ _
    rw [k9, fd2, ← hmx]; exact eR
  have fG : Kept (G * 1000000000 - kpt (l * 10 ^ Int.toNat 9 - 344136286 * (u - (m + 1).fdiv 2) - 714136286 * (v - (m + 1).fdiv 2)) m ≤ 500020000 + 6000 * (if u - (m + 1).fdiv 2 < 0 then -(u - (m + 1).fdiv 2) else u - (m + 1).fdiv 2) + 6000 * (if v - (m + 1).fdiv 2 < 0 then -(v - (m + 1).fdiv 2) else v - (m + 1).fdiv 2) ∧ kpt (l * 10 ^ Int.toNat 9 - 344136286 * (u - (m + 1).fdiv 2) - 714136286 * (v - (m + 1).fdiv 2)) m - G * 1000000000 ≤ 500020000 + 6000 * (if u - (m + 1).fdiv 2 < 0 then -(u - (m + 1).fdiv 2) else u - (m + 1).fdiv 2) + 6000 * (if v - (m + 1).fdiv 2 < 0 then -(v - (m + 1).fdiv 2) else v - (m + 1).fdiv 2)) := by
    show _ ∧ _
    rw [k9, fd2, ← hmx, ← hmx]; exact eG
  have fB : Kept (B * 1000000000 - kpt (l * 10 ^ Int.toNat 9 + 1772000000 * (u - (m + 1).fdiv 2)) m ≤ 500020000 + 4000 * (if u - (m + 1).fdiv 2 < 0 then -(u - (m + 1).fdiv 2) else u - (m + 1).fdiv 2) ∧ kpt (l * 10 ^ Int.toNat 9 + 1772000000 * (u - (m + 1).fdiv 2)) m - B * 1000000000 ≤ 500020000 + 4000 * (if u - (m + 1).fdiv 2 < 0 then -(u - (m + 1).fdiv 2) else u - (m + 1).fdiv 2)) := by
    show _ ∧ _
    rw [k9, fd2, ← hmx]; exact eB
  clear hmx eR eG eB
  have hm6 : 0 ≤ m ∧ m < 65536 := by omega
  have hR6 : 0 ≤ R ∧ R < 65536 := by omega
  have hG6 : 0 ≤ G ∧ G < 65536 := by omega
  have hB6 : 0 ≤ B ∧ B < 65536 := by omega
  walk_at "M:startF"
  k_steps
  all_goals (try k_data)
  walk_at "M:endF"
  case rt => exact ⟨rfl, rfl⟩
  case sb => kcj_all
  all_goals exact (0 : Nat)
theorem off_P10 : True := by w_top off; exact True.intro
local macro_rules | `(tactic| walk_at "call ref") => `(tactic| (k_here; (with_reducible show wpAny _ _ (call (Value.ref 66) _) _ _ _); k_dflt (refine' use_4 (to_ycck_c _ _ _ _ _ _ _ _ _ _ _ _ _ _ _ ?h1 ?h2 ?h3 ?h4) ?_; (case h1 => walk_at "M:sa"); (case h2 => walk_at "M:sa"); (case h3 => walk_at "M:sa"); (case h4 => walk_at "M:sa"); k_whole; intro D' t1' t2' t3' t4' n' h' tk' l1' F' N'; (try simp only [AllLt, and_true] at l1'); skip)))
local macro_rules | `(tactic| walk_at "call ref") => `(tactic| (k_here; (with_reducible show wpAny _ _ (call (Value.ref 73) _) _ _ _); k_dflt (refine' use_4 (to_cmyk_c _ _ _ _ _ _ _ _ _ _ _ _ _ _ _ ?h1 ?h2 ?h3 ?h4) ?_; (case h1 => walk_at "M:sa"); (case h2 => walk_at "M:sa"); (case h3 => walk_at "M:sa"); (case h4 => walk_at "M:sa"); k_whole; intro D' t1' t2' t3' t4' n' h' tk' l1' F' N'; (try simp only [AllLt, and_true] at l1'); skip)))
theorem four_c (w : World) (mean mg mb) (d1 : Addr) (a b c k p : Int) (ta tb tc tk tp tm : Tok) (n1 : Nat)
   (hp : 2 ≤ p ∧ p ≤ 16) (ha : 0 ≤ a ∧ a < pw p) (hb : 0 ≤ b ∧ b < pw p) (hc : 0 ≤ c ∧ c < pw p) :
   ConF 30 w mean mg mb 172 [(d1, listOf #[.int a ta, .int b tb, .int c tc] n1)] [.ref d1, .int k tk, .int p tp, .int (pw p - 1) tm]
     (fun v' sm => v' = .bool true ∧ sm = [(d1, listOf #[.int a ta, .int b tb, .int c tc] n1)]) := by
  have hpw := pw_facts hp
  have ha6 : 0 ≤ a ∧ a < 65536 := by omega
  have hb6 : 0 ≤ b ∧ b < 65536 := by omega
  have hc6 : 0 ≤ c ∧ c < 65536 := by omega
  have ha7 : 0 ≤ pw p - 1 - a ∧ pw p - 1 - a < 65536 := by omega
  have hb7 : 0 ≤ pw p - 1 - b ∧ pw p - 1 - b < 65536 := by omega
  have hc7 : 0 ≤ pw p - 1 - c ∧ pw p - 1 - c < 65536 := by omega
  walk_at "M:startF"
  k_steps
  all_goals (try k_data)
  all_goals (try (exfalso; (rename (List.cons (_ : Int) _ = List.nil) => hq'); exact nomatch hq'))
  walk_at "M:endF"
  case rt => exact ⟨rfl, rfl⟩
  case sb => kcj_all
  all_goals exact (0 : Nat)
theorem off_P11 : True := by w_top off; exact True.intro
abbrev turnDict (w : World) (x y : Str) (p : Int) (tx ty tp t1 t2 t3 : Tok) : Obj :=
  dictOf [{ hash := PyData.keyHash w.params (Str.ofString "source"), key := .str (Str.ofString "source") t1, val := .str x tx }, { hash := PyData.keyHash w.params (Str.ofString "goal"), key := .str (Str.ofString "goal") t2, val := .str y ty }, { hash := PyData.keyHash w.params (Str.ofString "precision"), key := .str (Str.ofString "precision") t3, val := .int p tp }] 3
theorem use_ctor {lv : Nat} {w : World} {mean : ExcName → Option Value} {mg mb : Str → Option Value} {f : Addr} {news : Led} {vs : List Value} {x y : Str} {p : Int} {tx ty tp : Tok} (C : Con lv w mean mg mb f news vs (fun v nw => ∃ X D t1 t2 t3, v = .ref X ∧ AllLt D news ∧ D < X ∧ nw = (X, instObj 104 D) :: (D, turnDict w x y p tx ty tp t1 t2 t3) :: news))
    {dp un : Nat} {gd : Option (List Code)} {cn : Str} {cs : Scope} {a : Addr} {ccd : Value} {cl : List (Str × Addr)} {outer : List Env} {A₀ : Around} {base h₀ : Heap} {L : Addr} {m : Str → Option Value} {hp : Heap} {gn : Array GenState} {dr : Drawn} {tk : Nat} {os : OsState} {Q E : Value → Shared → Prop}
    (ret : ∀ X D t1 t2 t3 h' tk', AllLt D news → D < X → Fr h₀ L h' m → News h₀ L h' ((X, instObj 104 D) :: (D, turnDict w x y p tx ty tp t1 t2 t3) :: news) → Q (.ref X) (Shared.mk h' gn dr tk' os))
    (B : Below A₀ base outer h₀ := by k_asm) (F : Fr h₀ L hp m := by k_asm) (X : (hd.heap_39 w.params).In h₀ := by k_asm) (N : News h₀ L hp news := by k_asm) (T : Top Mine.vw (looseW Mine.vw [Str.ofString "HALF"]) mean mg mb h₀ := by k_asm) (hk : cs.kind = .function := by first | exact rfl | assumption)
    (hdp : dp + lv < recursionLimit := by ktr_room) (hun : un + 8 * lv < cLine := by ktr_units) :
    wpAny (model PySem.Challenge.rw_ok0125_01.row.prog w) (ktrTop dp un gd cn cs L a ccd cl outer) (call (.ref f) vs) Q E (Shared.mk hp gn dr tk os) := C _ _ _ _ _ _ _ _ _ _ _ _ _ _ _ _ _ _ _ _ _ B F X N T hk hdp hun (by
  intro v nw h' tk' hR F' N'
  obtain ⟨X, D, t1, t2, t3, rfl, l1, l2, rfl⟩ := hR; exact ret _ _ _ _ _ _ _ l1 l2 F' N')
theorem ctor_c (w : World) (mean mg mb) (x y : Str) (p : Int) (tx ty tp : Tok) (news : Led) :
   Con 20 w mean mg mb 104 news [.str x tx, .str y ty, .int p tp] (fun v nw => ∃ X D t1 t2 t3, v = .ref X ∧ AllLt D news ∧ D < X ∧ nw = (X, instObj 104 D) :: (D, turnDict w x y p tx ty tp t1 t2 t3) :: news) := by
  walk_at "M:start"
  k_steps
  all_goals (try k_data)
  walk_at "M:end"
  exact ⟨_, _, _, _, _, rfl, by ktn_lt, by assumption, rfl⟩
/-- a tuple of one int -/
abbrev tup1 (a : Int) (ta : Tok) (n : Nat) : Obj := { cls := .type "tuple", data := .seq #[.int a ta] n }
abbrev Ret1 (a : Int) (news : Led) : Value → Led → Prop := fun v news' => ∃ D t1 n, v = .ref D ∧ AllLt D news ∧ news' = (D, tup1 a t1 n) :: news
theorem news3 {h₀ h : Heap} {L : Addr} {q1 q2 q3 : Addr × Obj} {l : Led} (N : News h₀ L h l) (m1 : q1 ∈ l) (m2 : q2 ∈ l) (m3 : q3 ∈ l) : News h₀ L h (q1 :: q2 :: q3 :: l) := fun p hp => N p (by
  rcases List.mem_cons.mp hp with rfl | hp
  · exact m1
  · rcases List.mem_cons.mp hp with rfl | hp
    · exact m2
    · rcases List.mem_cons.mp hp with rfl | hp
      · exact m3
      · exact hp)
theorem news3b {h₀ h : Heap} {L : Addr} {q q1 q2 q3 : Addr × Obj} {l : Led} (N : News h₀ L h (q :: q1 :: q2 :: q3 :: l)) : News h₀ L h (q :: l) := fun p hp => N p (by
  rcases List.mem_cons.mp hp with rfl | hp
  · exact .head _
  · exact .tail _ (.tail _ (.tail _ (.tail _ hp))))
/-- what a turn of the ways has made is let go -/
theorem dropW {h₀ h : Heap} {L X D D' : Addr} {o : Obj} {w : World} {x y : Str} {p : Int} {tx ty tp t1 t2 t3 : Tok} {l : Led} (N : News h₀ L h ((D', o) :: (X, instObj 104 D) :: (D, turnDict w x y p tx ty tp t1 t2 t3) :: l)) : News h₀ L h l := fun p hp => N p (.tail _ (.tail _ (.tail _ hp)))
theorem use_samp3 {lv : Nat} {w : World} {mean : ExcName → Option Value} {mg mb : Str → Option Value} {f : Addr} {news : Led} {q1 q2 q3 : Addr × Obj} {vs : List Value} {x y z : Int} (C : Con lv w mean mg mb f (q1 :: q2 :: q3 :: news) vs (Ret3 x y z (q1 :: q2 :: q3 :: news)))
    {dp un : Nat} {gd : Option (List Code)} {cn : Str} {cs : Scope} {a : Addr} {ccd : Value} {cl : List (Str × Addr)} {outer : List Env} {A₀ : Around} {base h₀ : Heap} {L : Addr} {m : Str → Option Value} {hp : Heap} {gn : Array GenState} {dr : Drawn} {tk : Nat} {os : OsState} {Q E : Value → Shared → Prop}
    (m1 : q1 ∈ news) (m2 : q2 ∈ news) (m3 : q3 ∈ news)
    (ret : ∀ D t1 t2 t3 n h' tk', AllLt D news → Fr h₀ L h' m → News h₀ L h' ((D, tup3 x y z t1 t2 t3 n) :: news) → Q (.ref D) (Shared.mk h' gn dr tk' os))
    (B : Below A₀ base outer h₀ := by k_asm) (F : Fr h₀ L hp m := by k_asm) (X : (hd.heap_39 w.params).In h₀ := by k_asm) (N : News h₀ L hp news := by k_asm) (T : Top Mine.vw (looseW Mine.vw [Str.ofString "HALF"]) mean mg mb h₀ := by k_asm) (hk : cs.kind = .function := by first | exact rfl | assumption)
    (hdp : dp + lv < recursionLimit := by ktr_room) (hun : un + 8 * lv < cLine := by ktr_units) :
    wpAny (model PySem.Challenge.rw_ok0125_01.row.prog w) (ktrTop dp un gd cn cs L a ccd cl outer) (call (.ref f) vs) Q E (Shared.mk hp gn dr tk os) := C _ _ _ _ _ _ _ _ _ _ _ _ _ _ _ _ _ _ _ _ _ B F X (news3 N m1 m2 m3) T hk hdp hun (by
  intro v nw h' tk' hR F' N'
  obtain ⟨D, t1, t2, t3, n, rfl, l, rfl⟩ := hR
  exact ret _ _ _ _ _ _ _ l.2.2.2 F' (news3b N'))
theorem use_samp4 {lv : Nat} {w : World} {mean : ExcName → Option Value} {mg mb : Str → Option Value} {f : Addr} {news : Led} {q1 q2 q3 : Addr × Obj} {vs : List Value} {x y z u : Int} (C : Con lv w mean mg mb f (q1 :: q2 :: q3 :: news) vs (Ret4 x y z u (q1 :: q2 :: q3 :: news)))
    {dp un : Nat} {gd : Option (List Code)} {cn : Str} {cs : Scope} {a : Addr} {ccd : Value} {cl : List (Str × Addr)} {outer : List Env} {A₀ : Around} {base h₀ : Heap} {L : Addr} {m : Str → Option Value} {hp : Heap} {gn : Array GenState} {dr : Drawn} {tk : Nat} {os : OsState} {Q E : Value → Shared → Prop}
    (m1 : q1 ∈ news) (m2 : q2 ∈ news) (m3 : q3 ∈ news)
    (ret : ∀ D t1 t2 t3 t4 n h' tk', AllLt D news → Fr h₀ L h' m → News h₀ L h' ((D, tup4 x y z u t1 t2 t3 t4 n) :: news) → Q (.ref D) (Shared.mk h' gn dr tk' os))
    (B : Below A₀ base outer h₀ := by k_asm) (F : Fr h₀ L hp m := by k_asm) (X : (hd.heap_39 w.params).In h₀ := by k_asm) (N : News h₀ L hp news := by k_asm) (T : Top Mine.vw (looseW Mine.vw [Str.ofString "HALF"]) mean mg mb h₀ := by k_asm) (hk : cs.kind = .function := by first | exact rfl | assumption)
    (hdp : dp + lv < recursionLimit := by ktr_room) (hun : un + 8 * lv < cLine := by ktr_units) :
    wpAny (model PySem.Challenge.rw_ok0125_01.row.prog w) (ktrTop dp un gd cn cs L a ccd cl outer) (call (.ref f) vs) Q E (Shared.mk hp gn dr tk os) := C _ _ _ _ _ _ _ _ _ _ _ _ _ _ _ _ _ _ _ _ _ B F X (news3 N m1 m2 m3) T hk hdp hun (by
  intro v nw h' tk' hR F' N'
  obtain ⟨D, t1, t2, t3, t4, n, rfl, l, rfl⟩ := hR
  exact ret _ _ _ _ _ _ _ _ l.2.2.2 F' (news3b N'))
theorem use_samp1 {lv : Nat} {w : World} {mean : ExcName → Option Value} {mg mb : Str → Option Value} {f : Addr} {news : Led} {q1 q2 q3 : Addr × Obj} {vs : List Value} {x : Int} (C : Con lv w mean mg mb f (q1 :: q2 :: q3 :: news) vs (Ret1 x (q1 :: q2 :: q3 :: news)))
    {dp un : Nat} {gd : Option (List Code)} {cn : Str} {cs : Scope} {a : Addr} {ccd : Value} {cl : List (Str × Addr)} {outer : List Env} {A₀ : Around} {base h₀ : Heap} {L : Addr} {m : Str → Option Value} {hp : Heap} {gn : Array GenState} {dr : Drawn} {tk : Nat} {os : OsState} {Q E : Value → Shared → Prop}
    (m1 : q1 ∈ news) (m2 : q2 ∈ news) (m3 : q3 ∈ news)
    (ret : ∀ D t1 n h' tk', AllLt D news → Fr h₀ L h' m → News h₀ L h' ((D, tup1 x t1 n) :: news) → Q (.ref D) (Shared.mk h' gn dr tk' os))
    (B : Below A₀ base outer h₀ := by k_asm) (F : Fr h₀ L hp m := by k_asm) (X : (hd.heap_39 w.params).In h₀ := by k_asm) (N : News h₀ L hp news := by k_asm) (T : Top Mine.vw (looseW Mine.vw [Str.ofString "HALF"]) mean mg mb h₀ := by k_asm) (hk : cs.kind = .function := by first | exact rfl | assumption)
    (hdp : dp + lv < recursionLimit := by ktr_room) (hun : un + 8 * lv < cLine := by ktr_units) :
    wpAny (model PySem.Challenge.rw_ok0125_01.row.prog w) (ktrTop dp un gd cn cs L a ccd cl outer) (call (.ref f) vs) Q E (Shared.mk hp gn dr tk os) := C _ _ _ _ _ _ _ _ _ _ _ _ _ _ _ _ _ _ _ _ _ B F X (news3 N m1 m2 m3) T hk hdp hun (by
  intro v nw h' tk' hR F' N'
  obtain ⟨D, t1, n, rfl, l, rfl⟩ := hR
  exact ret _ _ _ _ _ l.2.2.2 F' (news3b N'))
local macro_rules | `(tactic| walk_at "M:endS") => `(tactic| ((rename (∀ (v : Value) (news' : Led) (h' : Heap) (tk' : Nat), _) => hret); first
  | exact hret _ _ _ _ ⟨_, _, _, _, _, rfl, by ktn_lt, rfl⟩ (by assumption) (by assumption)
  | exact hret _ _ _ _ ⟨_, _, _, _, _, _, rfl, by ktn_lt, rfl⟩ (by assumption) (by assumption)
  | exact hret _ _ _ _ ⟨_, _, _, rfl, by ktn_lt, rfl⟩ (by assumption) (by assumption)))
local macro_rules | `(tactic| walk_at "call ref") => `(tactic| (k_here; (with_reducible show wpAny _ _ (call (Value.ref 80) _) _ _ _); k_dflt (refine' use_int (to_light_c _ _ _ _ _ _ _ _ _ _ _ ?h1 ?h2 ?h3) ?_; (case h1 => walk_at "M:sa"); (case h2 => walk_at "M:sa"); (case h3 => walk_at "M:sa"); k_whole; intro t' h' tk' F' N'; skip)))
theorem samp_ycc (w : World) (mean mg mb) (X D d4 : Addr) (a b c k p : Int) (ta tb tc tk tx ty tp t1 t2 t3 : Tok) (n4 : Nat) (news : Led) (hp : 2 ≤ p ∧ p ≤ 16) (ha : 0 ≤ a ∧ a < pw p) (hb : 0 ≤ b ∧ b < pw p) (hc : 0 ≤ c ∧ c < pw p) (x y z : Int) (hx : x = yY a b c) (hy : y = cB a b c (pw (p-1))) (hz : z = cR a b c (pw (p-1))) :
   Con 25 w mean mg mb 101 ((X, instObj 104 D) :: (D, turnDict w (Str.ofString "rgb") (Str.ofString "ycc") p tx ty tp t1 t2 t3) :: (d4, listOf #[.int a ta, .int b tb, .int c tc, .int k tk] n4) :: news) [.ref X, .ref d4] (Ret3 x y z ((X, instObj 104 D) :: (D, turnDict w (Str.ofString "rgb") (Str.ofString "ycc") p tx ty tp t1 t2 t3) :: (d4, listOf #[.int a ta, .int b tb, .int c tc, .int k tk] n4) :: news)) := by
  subst hx hy hz
  have hpw := pw_facts hp
  have ha6 : 0 ≤ a ∧ a < 65536 := by omega
  have hb6 : 0 ≤ b ∧ b < 65536 := by omega
  have hc6 : 0 ≤ c ∧ c < 65536 := by omega
  walk_at "M:start"
  k_steps
  all_goals (try k_data)
  walk_at "M:endS"
theorem samp_rgb (w : World) (mean mg mb) (X D d4 : Addr) (a b c k p : Int) (ta tb tc tk tx ty tp t1 t2 t3 : Tok) (n4 : Nat) (news : Led) (hp : 2 ≤ p ∧ p ≤ 16) (ha : 0 ≤ a ∧ a < pw p) (hb : 0 ≤ b ∧ b < pw p) (hc : 0 ≤ c ∧ c < pw p) (x y z : Int) (hx : x = rR a c (pw (p-1)) (pw p - 1)) (hy : y = gG a b c (pw (p-1)) (pw p - 1)) (hz : z = bB a b (pw (p-1)) (pw p - 1)) :
   Con 25 w mean mg mb 101 ((X, instObj 104 D) :: (D, turnDict w (Str.ofString "ycc") (Str.ofString "rgb") p tx ty tp t1 t2 t3) :: (d4, listOf #[.int a ta, .int b tb, .int c tc, .int k tk] n4) :: news) [.ref X, .ref d4] (Ret3 x y z ((X, instObj 104 D) :: (D, turnDict w (Str.ofString "ycc") (Str.ofString "rgb") p tx ty tp t1 t2 t3) :: (d4, listOf #[.int a ta, .int b tb, .int c tc, .int k tk] n4) :: news)) := by
  subst hx hy hz
  have hpw := pw_facts hp
  have ha6 : 0 ≤ a ∧ a < 65536 := by omega
  have hb6 : 0 ≤ b ∧ b < 65536 := by omega
  have hc6 : 0 ≤ c ∧ c < 65536 := by omega
  walk_at "M:start"
  k_steps
  all_goals (try k_data)
  walk_at "M:endS"
theorem samp_ycck (w : World) (mean mg mb) (X D d4 : Addr) (a b c k p : Int) (ta tb tc tk tx ty tp t1 t2 t3 : Tok) (n4 : Nat) (news : Led) (hp : 2 ≤ p ∧ p ≤ 16) (ha : 0 ≤ a ∧ a < pw p) (hb : 0 ≤ b ∧ b < pw p) (hc : 0 ≤ c ∧ c < pw p) (x y z : Int) (hx : x = yY (pw p - 1 - a) (pw p - 1 - b) (pw p - 1 - c)) (hy : y = cB (pw p - 1 - a) (pw p - 1 - b) (pw p - 1 - c) (pw (p-1))) (hz : z = cR (pw p - 1 - a) (pw p - 1 - b) (pw p - 1 - c) (pw (p-1))) :
   Con 25 w mean mg mb 101 ((X, instObj 104 D) :: (D, turnDict w (Str.ofString "cmyk") (Str.ofString "ycck") p tx ty tp t1 t2 t3) :: (d4, listOf #[.int a ta, .int b tb, .int c tc, .int k tk] n4) :: news) [.ref X, .ref d4] (Ret4 x y z k ((X, instObj 104 D) :: (D, turnDict w (Str.ofString "cmyk") (Str.ofString "ycck") p tx ty tp t1 t2 t3) :: (d4, listOf #[.int a ta, .int b tb, .int c tc, .int k tk] n4) :: news)) := by
  subst hx hy hz
  have hpw := pw_facts hp
  have ha6 : 0 ≤ a ∧ a < 65536 := by omega
  have hb6 : 0 ≤ b ∧ b < 65536 := by omega
  have hc6 : 0 ≤ c ∧ c < 65536 := by omega
  walk_at "M:start"
  k_steps
  all_goals (try k_data)
  walk_at "M:endS"
theorem samp_cmyk (w : World) (mean mg mb) (X D d4 : Addr) (a b c k p : Int) (ta tb tc tk tx ty tp t1 t2 t3 : Tok) (n4 : Nat) (news : Led) (hp : 2 ≤ p ∧ p ≤ 16) (ha : 0 ≤ a ∧ a < pw p) (hb : 0 ≤ b ∧ b < pw p) (hc : 0 ≤ c ∧ c < pw p) (x y z : Int) (hx : x = pw p - 1 - rR a c (pw (p-1)) (pw p - 1)) (hy : y = pw p - 1 - gG a b c (pw (p-1)) (pw p - 1)) (hz : z = pw p - 1 - bB a b (pw (p-1)) (pw p - 1)) :
   Con 25 w mean mg mb 101 ((X, instObj 104 D) :: (D, turnDict w (Str.ofString "ycck") (Str.ofString "cmyk") p tx ty tp t1 t2 t3) :: (d4, listOf #[.int a ta, .int b tb, .int c tc, .int k tk] n4) :: news) [.ref X, .ref d4] (Ret4 x y z k ((X, instObj 104 D) :: (D, turnDict w (Str.ofString "ycck") (Str.ofString "cmyk") p tx ty tp t1 t2 t3) :: (d4, listOf #[.int a ta, .int b tb, .int c tc, .int k tk] n4) :: news)) := by
  subst hx hy hz
  have hpw := pw_facts hp
  have ha6 : 0 ≤ a ∧ a < 65536 := by omega
  have hb6 : 0 ≤ b ∧ b < 65536 := by omega
  have hc6 : 0 ≤ c ∧ c < 65536 := by omega
  walk_at "M:start"
  k_steps
  all_goals (try k_data)
  walk_at "M:endS"
theorem samp_grey (w : World) (mean mg mb) (X D d4 : Addr) (a b c k p : Int) (ta tb tc tk tx ty tp t1 t2 t3 : Tok) (n4 : Nat) (news : Led) (hp : 2 ≤ p ∧ p ≤ 16) (ha : 0 ≤ a ∧ a < pw p) (hb : 0 ≤ b ∧ b < pw p) (hc : 0 ≤ c ∧ c < pw p) :
   Con 25 w mean mg mb 101 ((X, instObj 104 D) :: (D, turnDict w (Str.ofString "rgb") (Str.ofString "grey") p tx ty tp t1 t2 t3) :: (d4, listOf #[.int a ta, .int b tb, .int c tc, .int k tk] n4) :: news) [.ref X, .ref d4] (Ret1 (yY a b c) ((X, instObj 104 D) :: (D, turnDict w (Str.ofString "rgb") (Str.ofString "grey") p tx ty tp t1 t2 t3) :: (d4, listOf #[.int a ta, .int b tb, .int c tc, .int k tk] n4) :: news)) := by
  have hpw := pw_facts hp
  have ha6 : 0 ≤ a ∧ a < 65536 := by omega
  have hb6 : 0 ≤ b ∧ b < 65536 := by omega
  have hc6 : 0 ≤ c ∧ c < 65536 := by omega
  walk_at "M:start"
  k_steps
  all_goals (try k_data)
  walk_at "M:endS"
theorem samp_same (w : World) (mean mg mb) (X D d4 : Addr) (a b c k p : Int) (ta tb tc tk tx ty tp t1 t2 t3 : Tok) (n4 : Nat) (news : Led) (hp : 2 ≤ p ∧ p ≤ 16) (ha : 0 ≤ a ∧ a < pw p) (hb : 0 ≤ b ∧ b < pw p) (hc : 0 ≤ c ∧ c < pw p) :
   Con 25 w mean mg mb 101 ((X, instObj 104 D) :: (D, turnDict w (Str.ofString "grey") (Str.ofString "rgb") p tx ty tp t1 t2 t3) :: (d4, listOf #[.int a ta, .int b tb, .int c tc, .int k tk] n4) :: news) [.ref X, .ref d4] (Ret3 a a a ((X, instObj 104 D) :: (D, turnDict w (Str.ofString "grey") (Str.ofString "rgb") p tx ty tp t1 t2 t3) :: (d4, listOf #[.int a ta, .int b tb, .int c tc, .int k tk] n4) :: news)) := by
  have hpw := pw_facts hp
  have ha6 : 0 ≤ a ∧ a < 65536 := by omega
  have hb6 : 0 ≤ b ∧ b < 65536 := by omega
  have hc6 : 0 ≤ c ∧ c < 65536 := by omega
  walk_at "M:start"
  k_steps
  all_goals (try k_data)
  walk_at "M:endS"
theorem off_P12 : True := by w_top off; exact True.intro
local macro_rules | `(tactic| walk_at "call ref") => `(tactic| (k_here; (with_reducible show wpAny _ _ (call (Value.ref 104) _) _ _ _); k_dflt (refine' use_ctor (ctor_c _ _ _ _ _ _ _ _ _ _ _ ) ?_; k_whole; intro X' D' t1' t2' t3' h' tk' l1' l2' F' N'; (try simp only [AllLt, and_true] at l1'); skip)))
local macro_rules | `(tactic| walk_at "call ref") => `(tactic| (k_here; (with_reducible show wpAny _ _ (call (Value.ref 52) _) _ _ _); k_dflt (refine' use_3g (to_ycc_c _ _ _ _ _ _ _ _ _ _ _ _ _ ?h1 ?h2 ?h3 ?h4) ?_; (case h1 => walk_at "M:sa"); (case h2 => walk_at "M:sa"); (case h3 => walk_at "M:sa"); (case h4 => walk_at "M:sa"); k_whole; intro x' y' z' D' t1' t2' t3' n' h' tk' e1' e2' e3' l1' F' N'; (try simp only [AllLt, and_true] at l1'); skip)))
local macro_rules | `(tactic| walk_at "call ref") => `(tactic| (k_here; (with_reducible show wpAny _ _ (call (Value.ref 59) _) _ _ _); k_dflt (refine' use_3g (to_rgb_c _ _ _ _ _ _ _ _ _ _ _ _ _ ?h1 ?h2 ?h3 ?h4) ?_; (case h1 => walk_at "M:sa"); (case h2 => walk_at "M:sa"); (case h3 => walk_at "M:sa"); (case h4 => walk_at "M:sa"); k_whole; intro x' y' z' D' t1' t2' t3' n' h' tk' e1' e2' e3' l1' F' N'; (try simp only [AllLt, and_true] at l1'); skip)))
local macro_rules | `(tactic| walk_at "call ref") => `(tactic| (k_here; (with_reducible show wpAny _ _ (call (Value.ref 66) _) _ _ _); k_dflt (refine' use_4g (to_ycck_c _ _ _ _ _ _ _ _ _ _ _ _ _ _ _ ?h1 ?h2 ?h3 ?h4) ?_; (case h1 => walk_at "M:sa"); (case h2 => walk_at "M:sa"); (case h3 => walk_at "M:sa"); (case h4 => walk_at "M:sa"); k_whole; intro x' y' z' D' t1' t2' t3' t4' n' h' tk' e1' e2' e3' l1' F' N'; (try simp only [AllLt, and_true] at l1'); skip)))
local macro_rules | `(tactic| walk_at "call ref") => `(tactic| (k_here; (with_reducible show wpAny _ _ (call (Value.ref 73) _) _ _ _); k_dflt (refine' use_4g (to_cmyk_c _ _ _ _ _ _ _ _ _ _ _ _ _ _ _ ?h1 ?h2 ?h3 ?h4) ?_; (case h1 => walk_at "M:sa"); (case h2 => walk_at "M:sa"); (case h3 => walk_at "M:sa"); (case h4 => walk_at "M:sa"); k_whole; intro x' y' z' D' t1' t2' t3' t4' n' h' tk' e1' e2' e3' l1' F' N'; (try simp only [AllLt, and_true] at l1'); skip)))
local macro_rules | `(tactic| walk_at "call ref") => `(tactic| (k_here; (with_reducible show wpAny _ _ (call (Value.ref 101) _) _ _ _); k_dflt (refine' use_samp3 (samp_ycc _ _ _ _ _ _ _ _ _ _ _ _ _ _ _ _ _ _ _ _ _ _ _ _ ?h1 ?h2 ?h3 ?h4 _ _ _ ?e1 ?e2 ?e3) ?m1 ?m2 ?m3 ?_; (case m1 => k_mem); (case m2 => k_mem); (case m3 => k_mem); (case h1 => k_all); (case h2 => k_all); (case h3 => k_all); (case h4 => k_all); (case e1 => k_all); (case e2 => k_all); (case e3 => k_all); k_whole; intro D' t1' t2' t3' n' h' tk' l1' F' N'; (try simp only [AllLt, and_true] at l1'); skip)))
local macro_rules | `(tactic| walk_at "call ref") => `(tactic| (k_here; (with_reducible show wpAny _ _ (call (Value.ref 101) _) _ _ _); k_dflt (refine' use_samp3 (samp_rgb _ _ _ _ _ _ _ _ _ _ _ _ _ _ _ _ _ _ _ _ _ _ _ _ ?h1 ?h2 ?h3 ?h4 _ _ _ ?e1 ?e2 ?e3) ?m1 ?m2 ?m3 ?_; (case m1 => k_mem); (case m2 => k_mem); (case m3 => k_mem); (case h1 => k_all); (case h2 => k_all); (case h3 => k_all); (case h4 => k_all); (case e1 => k_all); (case e2 => k_all); (case e3 => k_all); k_whole; intro D' t1' t2' t3' n' h' tk' l1' F' N'; (try simp only [AllLt, and_true] at l1'); skip)))
local macro_rules | `(tactic| walk_at "call ref") => `(tactic| (k_here; (with_reducible show wpAny _ _ (call (Value.ref 101) _) _ _ _); k_dflt (refine' use_samp4 (samp_ycck _ _ _ _ _ _ _ _ _ _ _ _ _ _ _ _ _ _ _ _ _ _ _ _ ?h1 ?h2 ?h3 ?h4 _ _ _ ?e1 ?e2 ?e3) ?m1 ?m2 ?m3 ?_; (case m1 => k_mem); (case m2 => k_mem); (case m3 => k_mem); (case h1 => k_all); (case h2 => k_all); (case h3 => k_all); (case h4 => k_all); (case e1 => k_all); (case e2 => k_all); (case e3 => k_all); k_whole; intro D' t1' t2' t3' t4' n' h' tk' l1' F' N'; (try simp only [AllLt, and_true] at l1'); skip)))
local macro_rules | `(tactic| walk_at "call ref") => `(tactic| (k_here; (with_reducible show wpAny _ _ (call (Value.ref 101) _) _ _ _); k_dflt (refine' use_samp4 (samp_cmyk _ _ _ _ _ _ _ _ _ _ _ _ _ _ _ _ _ _ _ _ _ _ _ _ ?h1 ?h2 ?h3 ?h4 _ _ _ ?e1 ?e2 ?e3) ?m1 ?m2 ?m3 ?_; (case m1 => k_mem); (case m2 => k_mem); (case m3 => k_mem); (case h1 => k_all); (case h2 => k_all); (case h3 => k_all); (case h4 => k_all); (case e1 => k_all); (case e2 => k_all); (case e3 => k_all); k_whole; intro D' t1' t2' t3' t4' n' h' tk' l1' F' N'; (try simp only [AllLt, and_true] at l1'); skip)))
local macro_rules | `(tactic| walk_at "call ref") => `(tactic| (k_here; (with_reducible show wpAny _ _ (call (Value.ref 101) _) _ _ _); k_dflt (refine' use_samp1 (samp_grey _ _ _ _ _ _ _ _ _ _ _ _ _ _ _ _ _ _ _ _ _ _ _ _ ?h1 ?h2 ?h3 ?h4) ?m1 ?m2 ?m3 ?_; (case m1 => k_mem); (case m2 => k_mem); (case m3 => k_mem); (case h1 => k_all); (case h2 => k_all); (case h3 => k_all); (case h4 => k_all); k_whole; intro D' t1' n' h' tk' l1' F' N'; (try simp only [AllLt, and_true] at l1'); skip)))
local macro_rules | `(tactic| walk_at "call ref") => `(tactic| (k_here; (with_reducible show wpAny _ _ (call (Value.ref 101) _) _ _ _); k_dflt (refine' use_samp3 (samp_same _ _ _ _ _ _ _ _ _ _ _ _ _ _ _ _ _ _ _ _ _ _ _ _ ?h1 ?h2 ?h3 ?h4) ?m1 ?m2 ?m3 ?_; (case m1 => k_mem); (case m2 => k_mem); (case m3 => k_mem); (case h1 => k_all); (case h2 => k_all); (case h3 => k_all); (case h4 => k_all); k_whole; intro D' t1' t2' t3' n' h' tk' l1' F' N'; (try simp only [AllLt, and_true] at l1'); skip)))

local macro_rules | `(tactic| walk_at "UnrEndW") => `(tactic| ((rename News _ _ _ _ => N9'); (replace N9' := dropW N9'); walk1))
theorem ways_c (w : World) (mean mg mb) (d1 : Addr) (a b c k p : Int) (ta tb tc tk tp : Tok) (n1 : Nat)
   (hp : 2 ≤ p ∧ p ≤ 16) (ha : 0 ≤ a ∧ a < pw p) (hb : 0 ≤ b ∧ b < pw p) (hc : 0 ≤ c ∧ c < pw p) :
   ConF 30 w mean mg mb 167 [(d1, listOf #[.int a ta, .int b tb, .int c tc] n1)] [.ref d1, .int k tk, .int p tp]
     (fun v' sm => v' = .bool true ∧ sm = [(d1, listOf #[.int a ta, .int b tb, .int c tc] n1)]) := by
  have hpw := pw_facts hp
  have ha6 : 0 ≤ a ∧ a < 65536 := by omega
  have hb6 : 0 ≤ b ∧ b < 65536 := by omega
  have hc6 : 0 ≤ c ∧ c < 65536 := by omega
  walk_at "M:startF"
  k_steps
  all_goals (try k_data)
  walk_at "M:endF"
  case rt => exact ⟨congrArg Value.bool (beq_iff_eq.mpr (Eq.symm (by with_reducible assumption))), rfl⟩
  case sb => kcj_all
  all_goals exact (0 : Nat)
theorem clp_range {v m : Int} (hm : 0 ≤ m) : 0 ≤ clp v m ∧ clp v m ≤ m := by
  unfold clp
  (repeat' split) <;> omega
theorem clp_near {v m r k : Int} (hr : 0 ≤ r ∧ r ≤ m) (h : v - r ≤ k ∧ r - v ≤ k) : clp v m - r ≤ k ∧ r - clp v m ≤ k := by
  unfold clp
  (repeat' split) <;> omega
theorem clp_kpt {v m x e : Int} (hm : 0 ≤ m) (he : 0 ≤ e) (h : v * 1000000000 - x ≤ e ∧ x - v * 1000000000 ≤ e) : clp v m * 1000000000 - kpt x m ≤ e ∧ kpt x m - clp v m * 1000000000 ≤ e := by
  unfold clp kpt
  (repeat' split) <;> omega
section
variable {r g b q : Int} (hq : 2 ≤ q ∧ q ≤ 32768) (hr : 0 ≤ r ∧ r ≤ 2 * q - 1) (hg : 0 ≤ g ∧ g ≤ 2 * q - 1) (hb : 0 ≤ b ∧ b ≤ 2 * q - 1)
include hq hr hg hb
theorem yY_facts : (0 ≤ yY r g b ∧ yY r g b ≤ 2 * q - 1) ∧ 65536 * yY r g b ≤ 19595 * r + 38470 * g + 7471 * b + 32768 ∧ 19595 * r + 38470 * g + 7471 * b + 32768 < 65536 * yY r g b + 65536 := by
  unfold yY
  omega
theorem cB_facts : (0 ≤ cB r g b q ∧ cB r g b q ≤ 2 * q - 1) ∧ 65536 * cB r g b q ≤ -11058 * r + -21710 * g + 32768 * b + q * 65536 + 32767 ∧ -11058 * r + -21710 * g + 32768 * b + q * 65536 + 32767 < 65536 * cB r g b q + 65536 := by
  unfold cB
  omega
theorem cR_facts : (0 ≤ cR r g b q ∧ cR r g b q ≤ 2 * q - 1) ∧ 65536 * cR r g b q ≤ 32768 * r + -27439 * g + -5329 * b + q * 65536 + 32767 ∧ 32768 * r + -27439 * g + -5329 * b + q * 65536 + 32767 < 65536 * cR r g b q + 65536 := by
  unfold cR
  omega
theorem back_near :
    (rR (yY r g b) (cR r g b q) q (2 * q - 1) - r ≤ 2 ∧ r - rR (yY r g b) (cR r g b q) q (2 * q - 1) ≤ 2) ∧
    (gG (yY r g b) (cB r g b q) (cR r g b q) q (2 * q - 1) - g ≤ 2 ∧ g - gG (yY r g b) (cB r g b q) (cR r g b q) q (2 * q - 1) ≤ 2) ∧
    (bB (yY r g b) (cB r g b q) q (2 * q - 1) - b ≤ 2 ∧ b - bB (yY r g b) (cB r g b q) q (2 * q - 1) ≤ 2) := by
  have h1 := yY_facts hq hr hg hb
  have h2 := cB_facts hq hr hg hb
  have h3 := cR_facts hq hr hg hb
  generalize yY r g b = y at *
  generalize cB r g b q = u at *
  generalize cR r g b q = v at *
  refine ⟨?_, ?_, ?_⟩
  · unfold rR
    refine clp_near hr ?_
    omega
  · unfold gG
    refine clp_near hg ?_
    omega
  · unfold bB
    refine clp_near hb ?_
    omega
end
section
variable {r q : Int} (hq : 2 ≤ q ∧ q ≤ 32768) (hr : 0 ≤ r ∧ r ≤ 2 * q - 1)
include hq hr
theorem grey_back : rR (yY r r r) (cR r r r q) q (2 * q - 1) = r ∧ gG (yY r r r) (cB r r r q) (cR r r r q) q (2 * q - 1) = r ∧ bB (yY r r r) (cB r r r q) q (2 * q - 1) = r := by
  have e1 : yY r r r = r := by unfold yY; omega
  have e2 : cB r r r q = q := by unfold cB; omega
  have e3 : cR r r r q = q := by unfold cR; omega
  rw [e1, e2, e3]
  refine ⟨?_, ?_, ?_⟩
  · unfold rR clp
    (repeat' split) <;> omega
  · unfold gG clp
    (repeat' split) <;> omega
  · unfold bB clp
    (repeat' split) <;> omega
end
section
variable {l u v q : Int} (hq : 2 ≤ q ∧ q ≤ 32768) (hl : 0 ≤ l ∧ l ≤ 2 * q - 1) (hu : 0 ≤ u ∧ u ≤ 2 * q - 1) (hv : 0 ≤ v ∧ v ≤ 2 * q - 1)
include hq hl hu hv
theorem rR_kpt : rR l v q (2 * q - 1) * 1000000000 - kpt (l * 1000000000 + 1402000000 * (v - (2 * q - 1 + 1) / 2)) (2 * q - 1) ≤ 500020000 + 8000 * max (v - (2 * q - 1 + 1) / 2) (-(v - (2 * q - 1 + 1) / 2)) ∧
    kpt (l * 1000000000 + 1402000000 * (v - (2 * q - 1 + 1) / 2)) (2 * q - 1) - rR l v q (2 * q - 1) * 1000000000 ≤ 500020000 + 8000 * max (v - (2 * q - 1 + 1) / 2) (-(v - (2 * q - 1 + 1) / 2)) := by
  have e : (2 * q - 1 + 1) / 2 = q := by omega
  rw [e]
  unfold rR
  exact clp_kpt (by omega) (by omega) (by omega)
theorem gG_kpt : gG l u v q (2 * q - 1) * 1000000000 - kpt (l * 1000000000 - 344136286 * (u - (2 * q - 1 + 1) / 2) - 714136286 * (v - (2 * q - 1 + 1) / 2)) (2 * q - 1) ≤ 500020000 + 6000 * max (u - (2 * q - 1 + 1) / 2) (-(u - (2 * q - 1 + 1) / 2)) + 6000 * max (v - (2 * q - 1 + 1) / 2) (-(v - (2 * q - 1 + 1) / 2)) ∧
    kpt (l * 1000000000 - 344136286 * (u - (2 * q - 1 + 1) / 2) - 714136286 * (v - (2 * q - 1 + 1) / 2)) (2 * q - 1) - gG l u v q (2 * q - 1) * 1000000000 ≤ 500020000 + 6000 * max (u - (2 * q - 1 + 1) / 2) (-(u - (2 * q - 1 + 1) / 2)) + 6000 * max (v - (2 * q - 1 + 1) / 2) (-(v - (2 * q - 1 + 1) / 2)) := by
  have e : (2 * q - 1 + 1) / 2 = q := by omega
  rw [e]
  unfold gG
  exact clp_kpt (by omega) (by omega) (by omega)
theorem bB_kpt : bB l u q (2 * q - 1) * 1000000000 - kpt (l * 1000000000 + 1772000000 * (u - (2 * q - 1 + 1) / 2)) (2 * q - 1) ≤ 500020000 + 4000 * max (u - (2 * q - 1 + 1) / 2) (-(u - (2 * q - 1 + 1) / 2)) ∧
    kpt (l * 1000000000 + 1772000000 * (u - (2 * q - 1 + 1) / 2)) (2 * q - 1) - bB l u q (2 * q - 1) * 1000000000 ≤ 500020000 + 4000 * max (u - (2 * q - 1 + 1) / 2) (-(u - (2 * q - 1 + 1) / 2)) := by
  have e : (2 * q - 1 + 1) / 2 = q := by omega
  rw [e]
  unfold bB
  exact clp_kpt (by omega) (by omega) (by omega)
end
theorem off_P14 : True := by w_top off; exact True.intro
theorem pool_c (w : World) (mean : ExcName → Option Value) (mg mb : Str → Option Value) {d : Addr} {vs : List Value} {ns : List Int} {t0 : Tok} {news : Led}
    {dp un : Nat} {gd : Option (List Code)} {cn : Str} {cs : Scope} {a : Addr} {ccd : Value} {cl : List (Str × Addr)} {outer : List Env} {A₀ : Around} {base h₀ : Heap} {L : Addr} {m : Str → Option Value} {s : Shared} {Q E : Value → Shared → Prop}
    (hl : base.IsList d vs.toArray) (hi : IntsAre vs ns) (_hfit : (PyData.list (ns.map .int)).layable0 = true) (_hlen : ns.length ≤ 63)
    (B : Below A₀ base outer h₀) (F : Fr h₀ L s.heap m) (X : (hd.heap_39 w.params).In h₀) (N : News h₀ L s.heap news) (T : Top Mine.vw (looseW Mine.vw [Str.ofString "HALF"]) mean mg mb h₀) (hk : cs.kind = .function)
    (hdp : dp + 5 < recursionLimit) (hun : un + 8 * 5 < cLine)
    (hret : ∀ (D : Addr) (x y : Int) (tx ty : Tok) (n : Nat) (h' : Heap) (tk' : Nat), AllLt D news → (0 ≤ y ∧ y < 2147483647) → Fr h₀ L h' m → News h₀ L h' ((D, listOf #[.int x tx, .int y ty] n) :: news) → Q (.ref D) { s with heap := h', toks := tk' }) :
    wpAny (model PySem.Challenge.rw_ok0125_01.row.prog w) (ktrTop dp un gd cn cs L a ccd cl outer) (call (.ref 115) [.ref d, .int 0 t0]) Q E s := by
  walk_at "call ref"
  k_steps
  all_goals (try k_data)
  all_goals (refine hret _ _ _ _ _ _ _ _ (by ktn_lt) ⟨?_, ?_⟩ (by assumption) (by assumption))
  · exact Int.fmod_nonneg_of_pos _ (by decide)
  · exact Int.fmod_lt_of_pos _ (by decide)
  · exact Int.fmod_nonneg_of_pos _ (by decide)
  · exact Int.fmod_lt_of_pos _ (by decide)
theorem parts_near {r g b y u v m q : Int} (hm : m + 1 = 2 * q ∧ 2 ≤ q ∧ q ≤ 32768) (hr : 0 ≤ r ∧ r ≤ m) (hg : 0 ≤ g ∧ g ≤ m) (hb : 0 ≤ b ∧ b ≤ m)
   (ey : 65536 * y ≤ 19595 * r + 38470 * g + 7471 * b + 32768 ∧ 19595 * r + 38470 * g + 7471 * b + 32768 < 65536 * y + 65536)
   (eu : 65536 * u ≤ -11058 * r + -21710 * g + 32768 * b + q * 65536 + 32767 ∧ -11058 * r + -21710 * g + 32768 * b + q * 65536 + 32767 < 65536 * u + 65536)
   (ev : 65536 * v ≤ 32768 * r + -27439 * g + -5329 * b + q * 65536 + 32767 ∧ 32768 * r + -27439 * g + -5329 * b + q * 65536 + 32767 < 65536 * v + 65536) :
   (y * 1000000000 - (299000000 * r + 587000000 * g + 114000000 * b) ≤ 500020000 + 5000 * r + 6000 * g + 2000 * b ∧
     299000000 * r + 587000000 * g + 114000000 * b - y * 1000000000 ≤ 500020000 + 5000 * r + 6000 * g + 2000 * b) ∧
   (u * 1000000000 - ((m + 1).fdiv 2 * 10 ^ Int.toNat 9 + 500000000 * b - 168735892 * r - 331264108 * g) ≤ 500020000 + 5000 * (r + g) ∧
     (m + 1).fdiv 2 * 10 ^ Int.toNat 9 + 500000000 * b - 168735892 * r - 331264108 * g - u * 1000000000 ≤ 500020000 + 5000 * (r + g)) ∧
   (v * 1000000000 - ((m + 1).fdiv 2 * 10 ^ Int.toNat 9 + 500000000 * r - 418687589 * g - 81312411 * b) ≤ 500020000 + 2000 * (g + b) ∧
     (m + 1).fdiv 2 * 10 ^ Int.toNat 9 + 500000000 * r - 418687589 * g - 81312411 * b - v * 1000000000 ≤ 500020000 + 2000 * (g + b)) := by
  have e : (m + 1) / 2 = q := by omega
  rw [fd2, k9, e]
  refine ⟨?_, ?_, ?_⟩
  · clear eu ev; omega
  · clear ey ev; omega
  · clear ey eu; omega
theorem parts_w {w : World} {mean : ExcName → Option Value} {mg mb : Str → Option Value} {d1 d2 : Addr} {r g b p : Int} {tr tg tb ty tu tv tm : Tok} {n1 n2 : Nat}
   (hp : 2 ≤ p ∧ p ≤ 16) (hr : 0 ≤ r ∧ r < pw p) (hg : 0 ≤ g ∧ g < pw p) (hb : 0 ≤ b ∧ b < pw p) :
   ConF 15 w mean mg mb 148 [(d2, tup3 (yY r g b) (cB r g b (pw (p-1))) (cR r g b (pw (p-1))) ty tu tv n2), (d1, listOf #[.int r tr, .int g tg, .int b tb] n1)] [.ref d1, .ref d2, .int (pw p - 1) tm]
     (fun v' sm => v' = .bool true ∧ sm = [(d2, tup3 (yY r g b) (cB r g b (pw (p-1))) (cR r g b (pw (p-1))) ty tu tv n2), (d1, listOf #[.int r tr, .int g tg, .int b tb] n1)]) := by
  have hpw := pw_facts hp
  have hq : 2 ≤ pw (p - 1) ∧ pw (p - 1) ≤ 32768 := by omega
  have h1 := yY_facts hq (r := r) (g := g) (b := b) (by omega) (by omega) (by omega)
  have h2 := cB_facts hq (r := r) (g := g) (b := b) (by omega) (by omega) (by omega)
  have h3 := cR_facts hq (r := r) (g := g) (b := b) (by omega) (by omega) (by omega)
  have hh := parts_near (m := pw p - 1) (q := pw (p - 1)) (r := r) (g := g) (b := b) (by omega) (by omega) (by omega) (by omega) h1.2 h2.2 h3.2
  exact parts_c w mean mg mb d1 d2 r g b _ _ _ (pw p - 1) (pw (p - 1)) tr tg tb ty tu tv tm n1 n2 (by omega) (by omega) (by omega) (by omega) (by omega) (by omega) (by omega) hh.1 hh.2.1 hh.2.2
theorem back_w {w : World} {mean : ExcName → Option Value} {mg mb : Str → Option Value} {d1 d2 : Addr} {l u v p : Int} {tl tu tv tR tG tB tm : Tok} {n1 n2 : Nat}
   (hp : 2 ≤ p ∧ p ≤ 16) (hl : 0 ≤ l ∧ l < pw p) (hu : 0 ≤ u ∧ u < pw p) (hv : 0 ≤ v ∧ v < pw p) :
   ConF 15 w mean mg mb 160 [(d2, tup3 (rR l v (pw (p-1)) (pw p - 1)) (gG l u v (pw (p-1)) (pw p - 1)) (bB l u (pw (p-1)) (pw p - 1)) tR tG tB n2), (d1, listOf #[.int l tl, .int u tu, .int v tv] n1)] [.ref d1, .ref d2, .int (pw p - 1) tm]
     (fun v' sm => v' = .bool true ∧ sm = [(d2, tup3 (rR l v (pw (p-1)) (pw p - 1)) (gG l u v (pw (p-1)) (pw p - 1)) (bB l u (pw (p-1)) (pw p - 1)) tR tG tB n2), (d1, listOf #[.int l tl, .int u tu, .int v tv] n1)]) := by
  have hpw := pw_facts hp
  have hq : 2 ≤ pw (p - 1) ∧ pw (p - 1) ≤ 32768 := by omega
  have e : pw p = 2 * pw (p - 1) := hpw.2.2
  rw [e] at *
  have hl' : 0 ≤ l ∧ l ≤ 2 * pw (p - 1) - 1 := by omega
  have hu' : 0 ≤ u ∧ u ≤ 2 * pw (p - 1) - 1 := by omega
  have hv' : 0 ≤ v ∧ v ≤ 2 * pw (p - 1) - 1 := by omega
  have hm : (0 : Int) ≤ 2 * pw (p - 1) - 1 := by omega
  exact back_c w mean mg mb d1 d2 l u v _ _ _ _ tl tu tv tR tG tB tm n1 n2 (by omega) hl' hu' hv' (clp_range hm) (clp_range hm) (clp_range hm) (rR_kpt hq hl' hu' hv') (gG_kpt hq hl' hu' hv') (bB_kpt hq hl' hu' hv')
/-- what the way there and back leaves of a colour -/
abbrev Near2 (x r : Int) : Prop := x - r ≤ 2 ∧ r - x ≤ 2
theorem rgb_told {w : World} {mean : ExcName → Option Value} {mg mb : Str → Option Value} {r g b p : Int} {ty tu tv tp : Tok} {news : Led}
   (hp : 2 ≤ p ∧ p ≤ 16) (hr : 0 ≤ r ∧ r < pw p) (hg : 0 ≤ g ∧ g < pw p) (hb : 0 ≤ b ∧ b < pw p) :
   Con 10 w mean mg mb 59 news [.int (yY r g b) ty, .int (cB r g b (pw (p-1))) tu, .int (cR r g b (pw (p-1))) tv, .int p tp]
     (fun v nw => Ret3 (rR (yY r g b) (cR r g b (pw (p-1))) (pw (p-1)) (pw p - 1)) (gG (yY r g b) (cB r g b (pw (p-1))) (cR r g b (pw (p-1))) (pw (p-1)) (pw p - 1)) (bB (yY r g b) (cB r g b (pw (p-1))) (pw (p-1)) (pw p - 1)) news v nw ∧
       (Near2 (rR (yY r g b) (cR r g b (pw (p-1))) (pw (p-1)) (pw p - 1)) r ∧ Near2 (gG (yY r g b) (cB r g b (pw (p-1))) (cR r g b (pw (p-1))) (pw (p-1)) (pw p - 1)) g ∧ Near2 (bB (yY r g b) (cB r g b (pw (p-1))) (pw (p-1)) (pw p - 1)) b) ∧
       (r = g → g = b → rR (yY r g b) (cR r g b (pw (p-1))) (pw (p-1)) (pw p - 1) = r ∧ gG (yY r g b) (cB r g b (pw (p-1))) (cR r g b (pw (p-1))) (pw (p-1)) (pw p - 1) = g ∧ bB (yY r g b) (cB r g b (pw (p-1))) (pw (p-1)) (pw p - 1) = b)) := by
  have hpw := pw_facts hp
  have hq : 2 ≤ pw (p - 1) ∧ pw (p - 1) ≤ 32768 := by omega
  have hr' : 0 ≤ r ∧ r ≤ 2 * pw (p - 1) - 1 := by omega
  have hg' : 0 ≤ g ∧ g ≤ 2 * pw (p - 1) - 1 := by omega
  have hb' : 0 ≤ b ∧ b ≤ 2 * pw (p - 1) - 1 := by omega
  have h1 := yY_facts hq hr' hg' hb'
  have h2 := cB_facts hq hr' hg' hb'
  have h3 := cR_facts hq hr' hg' hb'
  have h4 := back_near hq hr' hg' hb'
  have h5 : r = g → g = b → rR (yY r g b) (cR r g b (pw (p-1))) (pw (p-1)) (2 * pw (p - 1) - 1) = r ∧ gG (yY r g b) (cB r g b (pw (p-1))) (cR r g b (pw (p-1))) (pw (p-1)) (2 * pw (p - 1) - 1) = g ∧ bB (yY r g b) (cB r g b (pw (p-1))) (pw (p-1)) (2 * pw (p - 1) - 1) = b := by
    intro e1 e2
    subst e1; subst e2
    exact grey_back hq hr'
  rw [← hpw.2.2] at h4 h5
  intro dp un gd cn cs a ccd cl outer A₀ base h₀ L m hq0 gn dr tk os Q E B F X N T hk hdp hun hret
  exact to_rgb_c w mean mg mb _ _ _ p ty tu tv tp news (by omega) (by omega) (by omega) hp _ _ _ _ _ _ _ _ _ _ _ _ _ _ _ _ _ _ _ _ _ B F X N T hk hdp hun fun v nw h' tk' hR => hret v nw h' tk' ⟨hR, h4, h5⟩
theorem sample_w {w : World} {mean : ExcName → Option Value} {mg mb : Str → Option Value} {d : Addr} {x y p : Int} {tx ty tt : Tok} {n : Nat} {nw : Led} {g : Obj → Led} (U : UpdF d (listOf #[.int x tx, .int y ty] n) nw g) (hp : 2 ≤ p ∧ p ≤ 16) (hy : 0 ≤ y ∧ y < 2147483647) :
   Con 10 w mean mg mb 136 nw [.ref d, .int (pw p - 1) tt] (fun r news' => ∃ (k x' y' : Int) (t tx' ty' : Tok) (n' : Nat), r = .int k t ∧ (0 ≤ k ∧ k < pw p) ∧ (0 ≤ y' ∧ y' < 2147483647) ∧ news' = g (listOf #[.int x' tx', .int y' ty'] n')) := by
  have hpw := pw_facts hp
  intro dp un gd cn cs a ccd cl outer A₀ base h₀ L m hq0 gn dr tk os Q E B F X N T hk hdp hun hret
  refine sample_use U (by omega) hy _ _ _ _ _ _ _ _ _ _ _ _ _ _ _ _ _ _ _ _ _ B F X N T hk hdp hun ?_
  rintro v news' h' tk' ⟨k, x', y', t, tx', ty', n', rfl, a1, a2, a3, a4, e⟩ F' N'
  exact hret _ _ _ _ ⟨k, x', y', t, tx', ty', n', rfl, ⟨a1, by omega⟩, ⟨a3, a4⟩, e⟩ F' N'
theorem ycc_w {w : World} {mean : ExcName → Option Value} {mg mb : Str → Option Value} {r g b p : Int} {tr tg tb tp : Tok} {news : Led} (hp : 2 ≤ p ∧ p ≤ 16) (hr : 0 ≤ r ∧ r < pw p) (hg : 0 ≤ g ∧ g < pw p) (hb : 0 ≤ b ∧ b < pw p) :
   Con 10 w mean mg mb 52 news [.int r tr, .int g tg, .int b tb, .int p tp] (Ret3 (yY r g b) (cB r g b (pw (p-1))) (cR r g b (pw (p-1))) news) := by
  have hpw := pw_facts hp
  exact to_ycc_c w mean mg mb r g b p tr tg tb tp news (by omega) (by omega) (by omega) hp
theorem rgb_w {w : World} {mean : ExcName → Option Value} {mg mb : Str → Option Value} {r g b p : Int} {tr tg tb tp : Tok} {news : Led} (hp : 2 ≤ p ∧ p ≤ 16) (hr : 0 ≤ r ∧ r < pw p) (hg : 0 ≤ g ∧ g < pw p) (hb : 0 ≤ b ∧ b < pw p) :
   Con 10 w mean mg mb 59 news [.int r tr, .int g tg, .int b tb, .int p tp] (Ret3 (rR r b (pw (p-1)) (pw p - 1)) (gG r g b (pw (p-1)) (pw p - 1)) (bB r g (pw (p-1)) (pw p - 1)) news) := by
  have hpw := pw_facts hp
  exact to_rgb_c w mean mg mb r g b p tr tg tb tp news (by omega) (by omega) (by omega) hp
theorem gap_store {M : Model} {A : Around} {env : Env} {t : Tok} {Q : Unit → Shared → Prop} {E : Value → Shared → Prop} {s : Shared} {G : Int} (b : Int) (h : G ≤ b) (k : ∀ g, g ≤ b → wpAny M A (storeName env (Str.ofString "gap") (.int g t)) Q E s) :
    wpAny M A (storeName env (Str.ofString "gap") (.int G t)) Q E s := k G h
theorem pow_pw {prog : Program} {w : World} {A : Around} {E : Value → Shared → Prop} {s : Shared} {p : Int} {t u : Tok} {Q : Value → Shared → Prop} (hp : 2 ≤ p ∧ p ≤ 16) (h : 2 ≤ p ∧ p ≤ 16 → Q (.int (pw p) s.toks) { s with toks := s.toks + 1 }) :
    wpAny (model prog w) A (binaryOp .Pow (.int 2 t) (.int p u)) Q E s := pow_int_small (by omega) (by omega) (by decide) (h hp)
theorem use_told {lv : Nat} {w : World} {mean : ExcName → Option Value} {mg mb : Str → Option Value} {f : Addr} {news : Led} {vs : List Value} {x y z : Int} {P1 P2 : Prop} (C : Con lv w mean mg mb f news vs (fun v nw => Ret3 x y z news v nw ∧ P1 ∧ P2))
    {dp un : Nat} {gd : Option (List Code)} {cn : Str} {cs : Scope} {a : Addr} {ccd : Value} {cl : List (Str × Addr)} {outer : List Env} {A₀ : Around} {base h₀ : Heap} {L : Addr} {m : Str → Option Value} {hp : Heap} {gn : Array GenState} {dr : Drawn} {tk : Nat} {os : OsState} {Q E : Value → Shared → Prop}
    (ret : ∀ D t1 t2 t3 n h' tk', P1 → P2 → AllLt D news → Fr h₀ L h' m → News h₀ L h' ((D, tup3 x y z t1 t2 t3 n) :: news) → Q (.ref D) (Shared.mk h' gn dr tk' os))
    (B : Below A₀ base outer h₀ := by k_asm) (F : Fr h₀ L hp m := by k_asm) (X : (hd.heap_39 w.params).In h₀ := by k_asm) (N : News h₀ L hp news := by k_asm) (T : Top Mine.vw (looseW Mine.vw [Str.ofString "HALF"]) mean mg mb h₀ := by k_asm) (hk : cs.kind = .function := by first | exact rfl | assumption)
    (hdp : dp + lv < recursionLimit := by ktr_room) (hun : un + 8 * lv < cLine := by ktr_units) :
    wpAny (model PySem.Challenge.rw_ok0125_01.row.prog w) (ktrTop dp un gd cn cs L a ccd cl outer) (call (.ref f) vs) Q E (Shared.mk hp gn dr tk os) := C _ _ _ _ _ _ _ _ _ _ _ _ _ _ _ _ _ _ _ _ _ B F X N T hk hdp hun (by
  intro v nw h' tk' hR F' N'
  obtain ⟨⟨D, t1, t2, t3, n, rfl, l, rfl⟩, p1, p2⟩ := hR; exact ret _ _ _ _ _ _ _ p1 p2 l F' N')
theorem use_sample {lv : Nat} {w : World} {mean : ExcName → Option Value} {mg mb : Str → Option Value} {f : Addr} {news : Led} {vs : List Value} {p : Int} {g : Obj → Led} (C : Con lv w mean mg mb f news vs (fun r nw => ∃ (k x' y' : Int) (t tx' ty' : Tok) (n' : Nat), r = .int k t ∧ (0 ≤ k ∧ k < pw p) ∧ (0 ≤ y' ∧ y' < 2147483647) ∧ nw = g (listOf #[.int x' tx', .int y' ty'] n')))
    {dp un : Nat} {gd : Option (List Code)} {cn : Str} {cs : Scope} {a : Addr} {ccd : Value} {cl : List (Str × Addr)} {outer : List Env} {A₀ : Around} {base h₀ : Heap} {L : Addr} {m : Str → Option Value} {hp : Heap} {gn : Array GenState} {dr : Drawn} {tk : Nat} {os : OsState} {Q E : Value → Shared → Prop}
    (ret : ∀ k x' y' t tx' ty' n' h' tk', (0 ≤ k ∧ k < pw p) → (0 ≤ y' ∧ y' < 2147483647) → Fr h₀ L h' m → News h₀ L h' (g (listOf #[.int x' tx', .int y' ty'] n')) → Q (.int k t) (Shared.mk h' gn dr tk' os))
    (B : Below A₀ base outer h₀ := by k_asm) (F : Fr h₀ L hp m := by k_asm) (X : (hd.heap_39 w.params).In h₀ := by k_asm) (N : News h₀ L hp news := by k_asm) (T : Top Mine.vw (looseW Mine.vw [Str.ofString "HALF"]) mean mg mb h₀ := by k_asm) (hk : cs.kind = .function := by first | exact rfl | assumption)
    (hdp : dp + lv < recursionLimit := by ktr_room) (hun : un + 8 * lv < cLine := by ktr_units) :
    wpAny (model PySem.Challenge.rw_ok0125_01.row.prog w) (ktrTop dp un gd cn cs L a ccd cl outer) (call (.ref f) vs) Q E (Shared.mk hp gn dr tk os) := C _ _ _ _ _ _ _ _ _ _ _ _ _ _ _ _ _ _ _ _ _ B F X N T hk hdp hun (by
  intro v nw h' tk' hR F' N'
  obtain ⟨k, x', y', t, tx', ty', n', rfl, a1, a2, rfl⟩ := hR; exact ret _ _ _ _ _ _ _ _ _ a1 a2 F' N')
theorem off_P15 : True := by w_top off; exact True.intro
section
variable {prog : Program} {w : World} {A : Around} {E : Value → Shared → Prop} {s : Shared}
theorem nextOf_tup_item {it t : Addr} {i : Nat} {items : Array Value} {x : Value} {Q : Value → Shared → Prop} (hit : s.heap.IsTupleIter it t i) (ht : s.heap.IsTuple t items) (hx : items[i]? = some x)
    (hQ : ∀ h', h'.IsTupleIter it t (i + 1) → Heap.SameBut it s.heap h' → Q x { s with heap := h' }) : wpAny (model prog w) A (Builtin.SmallTypes.nextOf (.ref it)) Q E s := by
  obtain ⟨o, ho, hc, hd⟩ := id hit
  obtain ⟨ot, hot, _, nt, hdt⟩ := ht
  unfold Builtin.SmallTypes.nextOf
  refine wpAny_bind (wpAny_callSpecial?_slot (name := Str.ofString "__next__") hit.typeIs PySem.F.slot_tuple_iterator_next
    (wpAny_call_entry PySem.F.slot_tuple_iterator_next hit.typeIs PySem.F.entry_tuple_iterator_next ?_ (PySem.F.args_tuple_iterator_next_1 _)))
  show wpAny _ _ (field (.ref it) 0 >>= _) _ _ s
  refine wpAny_bind (wpAny_field ho hd (x := .ref t) rfl ?_)
  show wpAny _ _ (if (Value.ref t == Value.none) = true then _ else _) _ _ s
  rw [if_neg (show ¬ ((Value.ref t == Value.none) = true) from Bool.false_ne_true)]
  show wpAny _ _ (field (.ref it) 1 >>= _) _ _ s
  refine wpAny_bind (wpAny_field ho hd (x := .int i 0) rfl ?_)
  show wpAny _ _ (seqItems? (.ref t) >>= _) _ _ s
  refine wpAny_bind (wpAny_seqItems hot hdt ?_)
  simp only [Int.toNat_natCast, hx]
  refine wpAny_bind (wpAny_setField ho hd (by simp) (wpAny_pure ⟨x, rfl, wpAny_pure (hQ _ ?_ (Heap.SameBut.update ..))⟩))
  exact ⟨_, Heap.get?_update_self _ ho (Obj.isFreed_of_fields (Obj.data_mapFields hd _)), (Obj.cls_mapFields ..).trans hc, by
    rw [Obj.data_mapFields hd]; simp [rawInt]⟩
theorem nextOf_tup_end {it t : Addr} {i : Nat} {items : Array Value} {Q : Value → Shared → Prop} (hh : A.handled = none) (hit : s.heap.IsTupleIter it t i) (ht : s.heap.IsTuple t items) (hx : items[i]? = none)
    (hE : ∀ h' e, Heap.ExtBut it s.heap h' → (∃ o, h'.get? e = some o ∧ o.cls = .type "StopIteration") → E (.ref e) { s with heap := h' }) : wpAny (model prog w) A (Builtin.SmallTypes.nextOf (.ref it)) Q E s := by
  obtain ⟨o, ho, hc, hd⟩ := id hit
  obtain ⟨ot, hot, _, nt, hdt⟩ := ht
  unfold Builtin.SmallTypes.nextOf
  refine wpAny_bind (wpAny_callSpecial?_slot (name := Str.ofString "__next__") hit.typeIs PySem.F.slot_tuple_iterator_next
    (wpAny_call_entry PySem.F.slot_tuple_iterator_next hit.typeIs PySem.F.entry_tuple_iterator_next ?_ (PySem.F.args_tuple_iterator_next_1 _)))
  show wpAny _ _ (field (.ref it) 0 >>= _) _ _ s
  refine wpAny_bind (wpAny_field ho hd (x := .ref t) rfl ?_)
  show wpAny _ _ (if (Value.ref t == Value.none) = true then _ else _) _ _ s
  rw [if_neg (show ¬ ((Value.ref t == Value.none) = true) from Bool.false_ne_true)]
  show wpAny _ _ (field (.ref it) 1 >>= _) _ _ s
  refine wpAny_bind (wpAny_field ho hd (x := .int i 0) rfl ?_)
  show wpAny _ _ (seqItems? (.ref t) >>= _) _ _ s
  refine wpAny_bind (wpAny_seqItems hot hdt ?_)
  simp only [Int.toNat_natCast, hx]
  refine wpAny_bind (wpAny_rule (wpAny_bind (wpAny_setField ho hd (by simp) ?_)))
  show wpAny _ _ (newExc (.type "StopIteration") [] >>= _) _ _ _
  refine wpAny_bind ?_
  simp only [newExc, newTuple]
  refine wpAny_bind (wpAny_newObj_type ?_ (by size_fits))
  refine wpAny_bind (m := firstArgMember _ _) (wpAny_of_eq (a := Value.none) (by first | rfl | (simp only [firstArgMember]; rfl)) ?_)
  refine wpAny_newObj_type ?_ (by size_fits)
  simp only [raiseNew]
  refine wpAny_bind (wpAny_handled ?_)
  first | rw [show A.in1.handled = none from hh] | rw [hh]
  refine wpAny_bind (wpAny_pure (wpAny_throw ?_))
  exact hE _ _ (((Heap.SameBut.update ..).extBut.push _).push _) ⟨_, Heap.get?_push_size _ rfl, rfl⟩
/-- a zip of a tuple t and a list l, i pairs taken; the cell for the pair handed out is f -/
structure ZipAt (h : Heap) (z TI TO i1 i2 t l : Addr) (xs ys : Array Value) (i : Nat) (f : Value) : Prop where
  zip : IsZip h z TI TO f
  its : IsPair h TI (.ref i1) (.ref i2)
  out : ∃ a b, IsPair h TO a b
  one : h.IsTupleIter i1 t i
  two : h.IsListIter i2 l i
  tup : h.IsTuple t xs
  lst : h.IsList l ys
theorem ZipAt.mono {h h' : Heap} {z TI TO i1 i2 t l : Addr} {xs ys : Array Value} {i : Nat} {f : Value} (Z : ZipAt h z TI TO i1 i2 t l xs ys i f) (k : ∀ c ∈ [z, TI, TO, i1, i2, t, l], ∀ o, h.get? c = some o → h'.get? c = some o) : ZipAt h' z TI TO i1 i2 t l xs ys i f := by
  obtain ⟨hz, hTI, ⟨a, b, hTO⟩, h1, h2, ht, hl⟩ := Z
  exact ⟨k z (by simp) _ hz, k TI (by simp) _ hTI, ⟨a, b, k TO (by simp) _ hTO⟩, h1.at fun o e => k i1 (by simp) o e, h2.at fun o e => k i2 (by simp) o e, ht.at fun o e => k t (by simp) o e, hl.at fun o e => k l (by simp) o e⟩
theorem zip_item {z TI TO i1 i2 t l : Addr} {i : Nat} {xs ys : Array Value} {x y : Value} {Q : Option Value → Shared → Prop} (D : ZipApart z TI TO i1 i2 t l)
    (Z : ZipAt s.heap z TI TO i1 i2 t l xs ys i .none) (hx : xs[i]? = some x) (hy : ys[i]? = some y)
    (hQ : ∀ h', ZipAt h' z TI TO i1 i2 t l xs ys (i + 1) (rawInt s.heap.objs.size) → IsPair h' s.heap.objs.size x y → h'.objs.size = s.heap.objs.size + 1 →
      (∀ c o, c ≠ z → c ≠ TO → c ≠ i1 → c ≠ i2 → s.heap.get? c = some o → h'.get? c = some o) → Q (some (.ref s.heap.objs.size)) { s with heap := h' }) :
    wpAny (model prog w) A (pyNext (.ref z)) Q E s := by
  obtain ⟨hz, hTI, ⟨a, b, hTO⟩, h1, h2, ht, hl⟩ := Z
  have hT : s.TypeIs (.ref z) "zip" := ⟨_, hz, rfl⟩
  unfold pyNext
  refine wpAny_bind (wpAny_attempt (wpAny_callSpecial?_slot (name := Str.ofString "__next__") hT PySem.F.slot_zip_next (wpAny_call_entry PySem.F.slot_zip_next hT PySem.F.entry_zip_next ?_ (PySem.F.args_zip_next_1 _))))
  show wpAny _ _ (field (.ref z) 2 >>= _) _ _ _
  refine wpAny_bind (wpAny_field hz rfl (x := .bool false) rfl ?_)
  show wpAny _ _ (field (.ref z) 3 >>= _) _ _ _
  refine wpAny_bind (wpAny_field hz rfl (x := .ref TI) rfl ?_)
  refine wpAny_bind (wpAny_seqItems hTI rfl ?_)
  show wpAny _ _ (Builtin.SmallTypes.ownedTupleIsFree (.ref z) >>= _) _ _ _
  refine wpAny_bind ?_
  unfold Builtin.SmallTypes.ownedTupleIsFree
  refine wpAny_bind (wpAny_field hz rfl (x := .none) rfl (wpAny_pure ?_))
  simp only [if_true]
  refine wpAny_bind (wpAny_rule ?_)
  refine wpAny_bind (wpAny_field hz rfl (x := .ref TO) rfl ?_)
  refine wpAny_bind (wpAny_setField_rec hz (by simp) fun h₁ hz₁ hs₁ => ?_)
  replace hz₁ : IsZip h₁ z TI TO .ellipsis := hz₁
  refine wpAny_bind ?_
  simp only [List.zipIdx_cons, List.zipIdx_nil, List.forIn_cons, List.forIn_nil]
  refine wpAny_bind (wpAny_bind (wpAny_onRaise ?_))
  show wpAny _ _ (Builtin.SmallTypes.nextOf (.ref i1) >>= _) _ _ _
  refine wpAny_bind (nextOf_tup_item (h1.at fun o e => hs₁.extBut _ o D.i1z e) (ht.extBut hs₁.extBut D.l1z) hx fun h₂ h1₂ hs₂ => wpAny_pure ?_)
  have hTO₂ : IsPair h₂ TO a b := hs₂.extBut _ _ D.TOi1 (hs₁.extBut _ _ D.TOz hTO)
  refine wpAny_bind (wpAny_seqItems hTO₂ rfl ?_)
  refine wpAny_bind (wpAny_updateSeq_pair hTO₂ fun h₃ hTO₃ hs₃ => ?_)
  replace hTO₃ : IsPair h₃ TO x b := hTO₃
  refine wpAny_bind (wpAny_letGo (wpAny_pure ?_))
  refine wpAny_bind (wpAny_bind (wpAny_onRaise ?_))
  show wpAny _ _ (Builtin.SmallTypes.nextOf (.ref i2) >>= _) _ _ _
  refine wpAny_bind (wpAny_nextOf_list_item (((h2.extBut hs₁.extBut D.i2z).extBut hs₂.extBut D.i12.symm).extBut hs₃.extBut D.TOi2.symm)
    (((hl.extBut hs₁.extBut D.l2z).extBut hs₂.extBut D.l2i1).extBut hs₃.extBut D.l2TO) hy fun h₄ h2₄ hs₄ => wpAny_pure ?_)
  have hTO₄ : IsPair h₄ TO x b := hs₄.extBut _ _ D.TOi2 hTO₃
  refine wpAny_bind (wpAny_seqItems hTO₄ rfl ?_)
  refine wpAny_bind (wpAny_updateSeq_pair hTO₄ fun h₅ hTO₅ hs₅ => ?_)
  replace hTO₅ : IsPair h₅ TO x y := hTO₅
  refine wpAny_bind (wpAny_letGo (wpAny_pure (wpAny_pure ?_)))
  refine wpAny_bind (wpAny_seqItems hTO₅ rfl ?_)
  refine wpAny_bind (wpAny_newTuple ?_)
  have hsz : h₅.objs.size = s.heap.objs.size := by rw [hs₅.1, hs₄.1, hs₃.1, hs₂.1, hs₁.1]
  have hz₅ : IsZip h₅ z TI TO .ellipsis := hs₅.extBut _ _ D.TOz.symm (hs₄.extBut _ _ D.i2z.symm (hs₃.extBut _ _ D.TOz.symm (hs₂.extBut _ _ D.i1z.symm hz₁)))
  have hk₅ : ∀ c o, c ≠ z → c ≠ TO → c ≠ i1 → c ≠ i2 → s.heap.get? c = some o → h₅.get? c = some o := fun c o c1 c2 c3 c4 e =>
    hs₅.extBut _ _ c2 (hs₄.extBut _ _ c4 (hs₃.extBut _ _ c2 (hs₂.extBut _ _ c3 (hs₁.extBut _ _ c1 e))))
  have h1₅ : h₅.IsTupleIter i1 t (i + 1) := h1₂.at fun o e => hs₅.extBut _ o D.TOi1.symm (hs₄.extBut _ o D.i12 (hs₃.extBut _ o D.TOi1.symm e))
  have h2₅ : h₅.IsListIter i2 l (i + 1) := h2₄.extBut hs₅.extBut D.TOi2.symm
  have hzlt : z < h₅.objs.size := Heap.lt_size hz₅
  show wpAny _ _ (Builtin.SmallTypes.ownedTupleHandOut (.ref z) (.ref h₅.objs.size) >>= _) _ _ _
  refine wpAny_bind ?_
  unfold Builtin.SmallTypes.ownedTupleHandOut
  have hz₆ : IsZip (h₅.push { cls := .type "tuple", data := .seq #[x, y] }) z TI TO .ellipsis := Heap.get?_push_of_some _ hz₅
  refine wpAny_bind (wpAny_setField_rec hz₆ (by simp) fun h₇ hz₇ hs₇ => ?_)
  replace hz₇ : IsZip h₇ z TI TO (rawInt h₅.objs.size) := hz₇
  refine wpAny_setField_rec hz₇ (by simp) fun h₈ hz₈ hs₈ => ?_
  replace hz₈ : IsZip h₈ z TI TO (rawInt h₅.objs.size) := hz₈
  have up : ∀ c o, c ≠ z → h₅.get? c = some o → h₈.get? c = some o := fun c o c1 e => hs₈.extBut _ _ c1 (hs₇.extBut _ _ c1 (Heap.get?_push_of_some _ e))
  have hT₈ : IsPair h₈ h₅.objs.size x y := hs₈.extBut _ _ (Nat.ne_of_gt hzlt) (hs₇.extBut _ _ (Nat.ne_of_gt hzlt) (Heap.get?_push_size _ rfl))
  have hz8 : h₈.objs.size = h₅.objs.size + 1 := by rw [hs₈.1, hs₇.1, Heap.size_push]
  rw [hsz] at hz₈ hT₈ hz8
  refine wpAny_pure ⟨_, rfl, wpAny_pure ?_⟩
  show Q (some (.ref h₅.objs.size)) _
  rw [hsz]
  have k8 : ∀ c o, c ≠ z → c ≠ TO → c ≠ i1 → c ≠ i2 → s.heap.get? c = some o → h₈.get? c = some o := fun c o c1 c2 c3 c4 e => up c o c1 (hk₅ c o c1 c2 c3 c4 e)
  exact hQ h₈ ⟨hz₈, k8 _ _ D.TIz D.TITO D.TIi1 D.TIi2 hTI, ⟨_, _, up _ _ D.TOz hTO₅⟩, h1₅.at fun o e => up _ o D.i1z e, h2₅.at fun o e => up _ o D.i2z e,
    ht.at fun o e => k8 _ o D.l1z D.l1TO D.l1i1 D.l1i2 e, hl.at fun o e => k8 _ o D.l2z D.l2TO D.l2i1 D.l2i2 e⟩ hT₈ hz8 k8
theorem zip_end {z TI TO i1 i2 t l : Addr} {i : Nat} {xs ys : Array Value} {Q : Option Value → Shared → Prop} (hh : A.handled = none) (D : ZipApart z TI TO i1 i2 t l)
    (Z : ZipAt s.heap z TI TO i1 i2 t l xs ys i .none) (hx : xs[i]? = none)
    (hQ : ∀ h', (∀ c o, c ≠ z → c ≠ TO → c ≠ i1 → c ≠ i2 → s.heap.get? c = some o → h'.get? c = some o) → Q none { s with heap := h' }) : wpAny (model prog w) A (pyNext (.ref z)) Q E s := by
  obtain ⟨hz, hTI, ⟨a, b, hTO⟩, h1, h2, ht, hl⟩ := Z
  have hT : s.TypeIs (.ref z) "zip" := ⟨_, hz, rfl⟩
  unfold pyNext
  refine wpAny_bind (wpAny_attempt (wpAny_callSpecial?_slot (name := Str.ofString "__next__") hT PySem.F.slot_zip_next (wpAny_call_entry PySem.F.slot_zip_next hT PySem.F.entry_zip_next ?_ (PySem.F.args_zip_next_1 _))))
  show wpAny _ _ (field (.ref z) 2 >>= _) _ _ _
  refine wpAny_bind (wpAny_field hz rfl (x := .bool false) rfl ?_)
  show wpAny _ _ (field (.ref z) 3 >>= _) _ _ _
  refine wpAny_bind (wpAny_field hz rfl (x := .ref TI) rfl ?_)
  refine wpAny_bind (wpAny_seqItems hTI rfl ?_)
  show wpAny _ _ (Builtin.SmallTypes.ownedTupleIsFree (.ref z) >>= _) _ _ _
  refine wpAny_bind ?_
  unfold Builtin.SmallTypes.ownedTupleIsFree
  refine wpAny_bind (wpAny_field hz rfl (x := .none) rfl (wpAny_pure ?_))
  simp only [if_true]
  refine wpAny_bind (wpAny_rule ?_)
  refine wpAny_bind (wpAny_field hz rfl (x := .ref TO) rfl ?_)
  refine wpAny_bind (wpAny_setField_rec hz (by simp) fun h₁ hz₁ hs₁ => ?_)
  replace hz₁ : IsZip h₁ z TI TO .ellipsis := hz₁
  refine wpAny_bind ?_
  simp only [List.zipIdx_cons, List.zipIdx_nil, List.forIn_cons, List.forIn_nil]
  refine wpAny_bind (wpAny_bind (wpAny_onRaise ?_))
  show wpAny _ _ (Builtin.SmallTypes.nextOf (.ref i1) >>= _) _ _ _
  refine wpAny_bind (nextOf_tup_end hh (h1.at fun o e => hs₁.extBut _ o D.i1z e) (ht.extBut hs₁.extBut D.l1z) hx fun h₂ e hs₂ he => ?_)
  obtain ⟨oe, hoe, hce⟩ := he
  have hz₂ : IsZip h₂ z TI TO .ellipsis := hs₂ _ _ D.i1z.symm hz₁
  have hez : e ≠ z := fun q => by subst q; rw [hz₂] at hoe; cases hoe; simp at hce
  refine wpAny_setField_rec hz₂ (by simp) fun h₃ _ hs₃ => ?_
  refine wpAny_bind (wpAny_isInstance (T := "StopIteration") (b := true) ⟨oe, hs₃.extBut _ _ hez hoe, hce⟩ isSubtype_stop ?_)
  exact wpAny_pure (hQ _ fun c o c1 _ c3 _ q => hs₃.extBut _ _ c1 (hs₂ _ _ c3 (hs₁.extBut _ _ c1 q)))
end
theorem off_P16 : True := by w_top off; exact True.intro
abbrev zh1 (h : Heap) (t : Addr) : Heap := h.push { cls := .type "tuple_iterator", data := .fields #[.ref t, .int 0 0] }
abbrev zh2 (h : Heap) (t l : Addr) : Heap := (zh1 h t).push { cls := .type "list_iterator", data := .fields #[.ref l, .int 0 0] }
abbrev zh3 (h : Heap) (t l : Addr) : Heap := (zh2 h t l).push { cls := .type "tuple", data := .seq #[.ref h.objs.size, .ref (zh1 h t).objs.size] }
abbrev zh4 (h : Heap) (t l : Addr) : Heap := (zh3 h t l).push { cls := .type "tuple", data := .seq #[.none, .none] }
abbrev zh5 (h : Heap) (t l : Addr) : Heap := (zh4 h t l).push { cls := .type "zip", data := .fields #[.none, .bool false, .bool false, .ref (zh2 h t l).objs.size, .ref (zh3 h t l).objs.size] }
theorem zip_made (t l : Addr) (xs ys : Array Value) :
    Meets (Builtin.«zip.__new__» ⟨[.type "zip", .ref t, .ref l], []⟩) (fun _ R s => s.heap.IsTuple t xs ∧ s.heap.IsList l ys ∧ R (.ok (.ret (.ref (zh4 s.heap t l).objs.size))) { s with heap := zh5 s.heap t l }) :=
  .of_wp fun prog w A R s h => by
    obtain ⟨hp, g, d, tk, os⟩ := s; obtain ⟨hl1, hl2, h⟩ := h
    have hsub := sub_zip
    have hL1 : Heap.IsTuple (Shared.heap ⟨hp, g, d, tk, os⟩) t xs := hl1
    have hL2 : Heap.IsList (Shared.heap ⟨hp.push { cls := .type "tuple_iterator", data := .fields #[.ref t, .int 0 0] }, g, d, tk, os⟩) l ys := Heap.IsList.push hl2 _
    wp_walk using wpAny_pyIter_tuple hL1, wpAny_pyIter_list hL2
    exact ⟨_, rfl, h⟩
section
variable {prog : Program} {w : World} {A : Around} {E : Value → Shared → Prop} {s : Shared} {h₀ : Heap} {L : Addr} {m : Str → Option Value} {env : Env}
theorem zip_call {t l : Addr} {xs ys : Array Value} {Q : Value → Shared → Prop} (ht : s.heap.IsTuple t xs) (hl : s.heap.IsList l ys)
    (h : ∀ h', ZipAt h' (s.heap.objs.size + 4) (s.heap.objs.size + 2) (s.heap.objs.size + 3) s.heap.objs.size (s.heap.objs.size + 1) t l xs ys 0 .none →
      (∀ c o, s.heap.get? c = some o → h'.get? c = some o) → Q (.ref (s.heap.objs.size + 4)) { s with heap := h' }) :
    wpAny (model prog w) A (call (.type "zip") [.ref t, .ref l]) Q E s := by
  refine callType_new PySem.F.called_zip (by decide) (PySem.F.typeCall_zip_2 _ _) (PySem.F.newCall_zip_2 _ _) (fun obj => PySem.F.args_object_init_3 obj _ _) PySem.F.entry_zip_new (zip_made t l xs ys) ⟨ht, hl, ?_⟩
  have z1 : (zh1 s.heap t).objs.size = s.heap.objs.size + 1 := Heap.size_push ..
  have z2 : (zh2 s.heap t l).objs.size = s.heap.objs.size + 2 := by rw [Heap.size_push, z1]
  have z3 : (zh3 s.heap t l).objs.size = s.heap.objs.size + 3 := by rw [Heap.size_push, z2]
  have z4 : (zh4 s.heap t l).objs.size = s.heap.objs.size + 4 := by rw [Heap.size_push, z3]
  have g5 : (zh5 s.heap t l).get? (zh4 s.heap t l).objs.size = some _ := Heap.get?_push_size _ rfl
  have g4 : (zh5 s.heap t l).get? (zh3 s.heap t l).objs.size = some _ := Heap.get?_push_of_some _ (Heap.get?_push_size _ rfl)
  have g3 : (zh5 s.heap t l).get? (zh2 s.heap t l).objs.size = some _ := Heap.get?_push_of_some _ (Heap.get?_push_of_some _ (Heap.get?_push_size _ rfl))
  have g2 : (zh5 s.heap t l).get? (zh1 s.heap t).objs.size = some _ := Heap.get?_push_of_some _ (Heap.get?_push_of_some _ (Heap.get?_push_of_some _ (Heap.get?_push_size _ rfl)))
  have g1 : (zh5 s.heap t l).get? s.heap.objs.size = some _ := Heap.get?_push_of_some _ (Heap.get?_push_of_some _ (Heap.get?_push_of_some _ (Heap.get?_push_of_some _ (Heap.get?_push_size _ rfl))))
  have up : ∀ c o, s.heap.get? c = some o → (zh5 s.heap t l).get? c = some o := fun c o x =>
    Heap.get?_push_of_some _ (Heap.get?_push_of_some _ (Heap.get?_push_of_some _ (Heap.get?_push_of_some _ (Heap.get?_push_of_some _ x))))
  show _ ∧ _
  rw [z2, z3, z4] at g5
  rw [z1, z2] at g3
  rw [z3] at g4
  rw [z1] at g2
  rw [z4]
  exact ⟨⟨_, g5, rfl⟩, h _ ⟨g5, g3, ⟨_, _, g4⟩, ⟨_, g1, rfl, rfl⟩, ⟨_, g2, rfl, rfl⟩, ht.at fun o e => up _ o e, hl.at fun o e => up _ o e⟩ up⟩
/-- where the comprehension over a zip of a made tuple and a made list, three ints each, goes on from -/
def ZipSrc (prog : Program) (w : World) (A : Around) (h₀ : Heap) (L : Addr) (m : Str → Option Value) (env : Env) (elt : PySem.Expr) (a b : Str) (scope : Scope) (cl : List (Str × Addr)) (Fin : Shared → List Value → Led → Prop) (xv : Value) (s₁ : Shared) : Prop :=
  ∃ (z TI TO i1 i2 t l : Addr) (x1 x2 x3 y1 y2 y3 : Value) (d1 d2 d3 : Int) (news : Led), xv = .ref z ∧ A.handled = none ∧ Fr h₀ L s₁.heap m ∧ News h₀ L s₁.heap news ∧ ZipApart z TI TO i1 i2 t l ∧
    ZipAt s₁.heap z TI TO i1 i2 t l #[x1, x2, x3] #[y1, y2, y3] 0 .none ∧ (∀ c ∈ [z, TO, i1, i2], h₀.get? c = none ∧ c ≠ L ∧ ∀ p ∈ news, p.1 ≠ c) ∧
    (∀ x y d, (x = x1 ∧ y = y1 ∧ d = d1) ∨ (x = x2 ∧ y = y2 ∧ d = d2) ∨ (x = x3 ∧ y = y3 ∧ d = d3) →
      ∀ C oC m₂ (s' : Shared) (Q' E' : Value → Shared → Prop), LCg.NsObj oC m₂ → m₂ a = some x → m₂ b = some y → Fr h₀ L s'.heap m → News h₀ L s'.heap [(C, oC)] → (∀ t tk, Q' (.int d t) { s' with toks := tk }) →
        wpAny (model prog w) A (eval elt (compEnvC scope cl C env)) Q' E' s') ∧
    ∀ h t1 t2 t3, Fin { s₁ with heap := h } [.int d1 t1, .int d2 t2, .int d3 t3] news
theorem zip_src {elt : PySem.Expr} {a b : Str} {scope : Scope} {cl : List (Str × Addr)} {Fin : Shared → List Value → Led → Prop} {t l : Addr} {x1 x2 x3 y1 y2 y3 : Value} {n1 n2 : Nat} {d1 d2 d3 : Int} {news : Led}
    (hh : A.handled = none) (F : Fr h₀ L s.heap m) (N : News h₀ L s.heap news) (ht : (t, ({ cls := .type "tuple", data := .seq #[x1, x2, x3] n1 } : Obj)) ∈ news) (hl : (l, ({ cls := .type "list", data := .seq #[y1, y2, y3] n2 } : Obj)) ∈ news)
    (e1 : ∀ C oC m₂ (s' : Shared) (Q' E' : Value → Shared → Prop), LCg.NsObj oC m₂ → m₂ a = some x1 → m₂ b = some y1 → Fr h₀ L s'.heap m → News h₀ L s'.heap [(C, oC)] → (∀ t tk, Q' (.int d1 t) { s' with toks := tk }) → wpAny (model prog w) A (eval elt (compEnvC scope cl C env)) Q' E' s')
    (e2 : ∀ C oC m₂ (s' : Shared) (Q' E' : Value → Shared → Prop), LCg.NsObj oC m₂ → m₂ a = some x2 → m₂ b = some y2 → Fr h₀ L s'.heap m → News h₀ L s'.heap [(C, oC)] → (∀ t tk, Q' (.int d2 t) { s' with toks := tk }) → wpAny (model prog w) A (eval elt (compEnvC scope cl C env)) Q' E' s')
    (e3 : ∀ C oC m₂ (s' : Shared) (Q' E' : Value → Shared → Prop), LCg.NsObj oC m₂ → m₂ a = some x3 → m₂ b = some y3 → Fr h₀ L s'.heap m → News h₀ L s'.heap [(C, oC)] → (∀ t tk, Q' (.int d3 t) { s' with toks := tk }) → wpAny (model prog w) A (eval elt (compEnvC scope cl C env)) Q' E' s')
    (h : ∀ h t1 t2 t3, Fin { s with heap := h } [.int d1 t1, .int d2 t2, .int d3 t3] news) :
    wpAny (model prog w) A (call (.type "zip") [.ref t, .ref l]) (ZipSrc prog w A h₀ L m env elt a b scope cl Fin) E s := by
  have htS : s.heap.IsTuple t #[x1, x2, x3] := ⟨_, (N _ ht).1, rfl, _, rfl⟩
  have hlS : s.heap.IsList l #[y1, y2, y3] := ⟨_, (N _ hl).1, rfl, _, rfl⟩
  have at1 : t < s.heap.objs.size := Heap.lt_size (N _ ht).1
  have at2 : l < s.heap.objs.size := Heap.lt_size (N _ hl).1
  refine zip_call htS hlS fun h' Z up => ⟨_, _, _, _, _, t, l, x1, x2, x3, y1, y2, y3, d1, d2, d3, news, rfl, hh, F.keeps up, N.grown up, zipApart_new at1 at2, Z, fun c hc => ?_, ?_, fun g => h g⟩
  · have hge : s.heap.objs.size ≤ c := by
      simp only [List.mem_cons, List.not_mem_nil, or_false] at hc
      rcases hc with rfl | rfl | rfl | rfl
      · exact Nat.le_add_right _ _
      · exact Nat.le_add_right _ _
      · exact Nat.le_refl _
      · exact Nat.le_add_right _ _
    refine ⟨Heap.get?_none_of_le (Nat.le_trans F.above (Nat.le_trans (Nat.le_of_lt F.ns.lt) hge)), Nat.ne_of_gt (Nat.lt_of_lt_of_le F.ns.lt hge), fun p hp => Nat.ne_of_lt (Nat.lt_of_lt_of_le (Heap.lt_size (N p hp).1) hge)⟩
  · rintro x y d (⟨rfl, rfl, rfl⟩ | ⟨rfl, rfl, rfl⟩ | ⟨rfl, rfl, rfl⟩)
    · exact e1
    · exact e2
    · exact e3
end
theorem off_P17 : True := by w_top off; exact True.intro
section
variable {prog : Program} {w : World} {A : Around} {E : Value → Shared → Prop} {s : Shared} {h₀ : Heap} {L : Addr} {m : Str → Option Value} {env : Env}
theorem ZipAt.lt {h : Heap} {z TI TO i1 i2 t l : Addr} {xs ys : Array Value} {i : Nat} {f : Value} (Z : ZipAt h z TI TO i1 i2 t l xs ys i f) : ∀ c ∈ [z, TI, TO, i1, i2, t, l], c < h.objs.size := by
  obtain ⟨hz, hTI, ⟨_, _, hTO⟩, ⟨_, h1, _⟩, ⟨_, h2, _⟩, ⟨_, ht, _⟩, ⟨_, hl, _⟩⟩ := Z
  intro c hc
  simp only [List.mem_cons, List.not_mem_nil, or_false] at hc
  rcases hc with rfl | rfl | rfl | rfl | rfl | rfl | rfl
  · exact Heap.lt_size hz
  · exact Heap.lt_size hTI
  · exact Heap.lt_size hTO
  · exact Heap.lt_size h1
  · exact Heap.lt_size h2
  · exact Heap.lt_size ht
  · exact Heap.lt_size hl
theorem ListComp_Zip {elt iter : PySem.Expr} {a b : Str} {pa pb tp : Pos} {kk : Nat} {scope : Scope} {cl : List (Str × Addr)} {pos : Pos} {Q : Value → Shared → Prop} (_F₀ : Fr h₀ L s.heap m)
    (hclos : closureFor scope env = pure cl) (hcell : ∀ y ∈ scope.names, y.2 ≠ .cell) (hkind : scope.kind = .function)
    (hnames : ∀ y ∈ scope.names, y.2 = .local → scope.names.lookup y.1 = some .local) (hxa : scope.names.lookup a = some .local) (hxb : scope.names.lookup b = some .local) (hab : ¬ a = b)
    (h : wpAny (model prog w) A (eval iter env) (ZipSrc prog w A h₀ L m env elt a b scope cl (fun s₂ => LCg.FinE h₀ L m s₂ Q)) E s)
    (hs : ∀ x, foldedSetIterable iter env x = pure x := by intro _; rfl) :
    wpAny (model prog w) A (eval (.ListComp elt [⟨.Tuple [.Name a pa, .Name b pb] kk tp, iter, [], 0⟩] scope pos) env) Q E s := by
  rw [eval_ListComp]
  refine wpAny_comprehension_free (use := none) rfl hs hclos hkind hnames (wpAny_mono h (fun xv s₁ h₁ => ?_) fun _ _ e => e)
  obtain ⟨z, TI, TO, i1, i2, t, l, x1, x2, x3, y1, y2, y3, d1, d2, d3, news, rfl, hh, F, N, D, Z, own, helt, fin⟩ := h₁
  refine wpAny_pyIter_zip Z.zip ?_
  refine wpAny_newObj_type (wpAny_newFunctionEnv hcell (by intro y hy; simp at hy) (fun h₁ hns₁ hsb₁ => ?_) hkind)
  dsimp only at hns₁ hsb₁ ⊢
  generalize hH2 : s₁.heap.push { cls := .type "list", dict := none, data := .seq ([] : List Value).toArray } = H2 at hns₁ hsb₁ ⊢
  have hC : H2.objs.size = s₁.heap.objs.size + 1 := by rw [← hH2, Heap.size_push]
  have hDC : s₁.heap.objs.size ≠ H2.objs.size := by rw [hC]; exact Nat.ne_of_lt (Nat.lt_succ_self _)
  have below : ∀ c, c < s₁.heap.objs.size → c ≠ H2.objs.size ∧ c ≠ s₁.heap.objs.size := fun c hc => ⟨by rw [hC]; exact Nat.ne_of_lt (Nat.lt_succ_of_lt hc), Nat.ne_of_lt hc⟩
  have zlt := Z.lt
  have old : ∀ c o, s₁.heap.get? c = some o → h₁.get? c = some o := fun c o e => hsb₁.extBut c o (below c (Heap.lt_size e)).1 (Heap.get?_push_of_some _ (hH2 ▸ Heap.get?_push_of_some _ e))
  have hacc : h₁.get? s₁.heap.objs.size = some (LCg.lst []) := hsb₁.extBut _ _ hDC (Heap.get?_push_of_some _ (hH2 ▸ Heap.get?_push_size _ rfl))
  have fresh₀ : ∀ c, s₁.heap.objs.size ≤ c → h₀.get? c = none := fun c hc => Heap.get?_none_of_le (Nat.le_trans F.above (Nat.le_trans (Nat.le_of_lt F.ns.lt) hc))
  have hD₀ : h₀.get? s₁.heap.objs.size = none := fresh₀ _ (Nat.le_refl _)
  have hC₀ : h₀.get? H2.objs.size = none := fresh₀ _ (by rw [hC]; exact Nat.le_succ _)
  have hLlt : L < s₁.heap.objs.size := F.ns.lt
  have hDL : s₁.heap.objs.size ≠ L := Ne.symm (below L hLlt).2
  have hCL : H2.objs.size ≠ L := Ne.symm (below L hLlt).1
  have nlt : ∀ p ∈ news, p.1 < s₁.heap.objs.size := fun p hp => Heap.lt_size (N p hp).1
  have loop : ∀ RR : Result → Shared → Prop, (∀ h tk m' t1 t2 t3, Fr h₀ L h m → News h₀ L h ((s₁.heap.objs.size, LCg.lst [Value.int d1 t1, Value.int d2 t2, Value.int d3 t3]) :: news) → h.Ns H2.objs.size m' → RR (.ok .next) { s₁ with heap := h, toks := tk }) →
      ∀ s₃ : Shared, s₃ = { s₁ with heap := h₁, toks := s₁.toks + ([] : List (Str × Value)).length } →
      codeAny (model prog w) A (.compLoop (.ListComp elt [⟨.Tuple [.Name a pa, .Name b pb] kk tp, iter, [], 0⟩] scope pos) 0 (.ref z) (.ref s₁.heap.objs.size) (compEnvC scope cl H2.objs.size env)) RR s₃ := by
    rintro RR hRR s₃ rfl
    refine kcp_loop (fun k s' => ∃ h' tk i vs m', s' = { s₁ with heap := h', toks := tk } ∧ i ≤ 3 ∧ k = 4 - i ∧ ZipAt h' z TI TO i1 i2 t l #[x1, x2, x3] #[y1, y2, y3] i .none ∧ Fr h₀ L h' m ∧ h'.Ns H2.objs.size m' ∧
        News h₀ L h' ((s₁.heap.objs.size, LCg.lst vs) :: news) ∧ ∃ t1 t2 t3 : Tok, vs = [Value.int d1 t1, Value.int d2 t2, Value.int d3 t3].take i) ?_ 4
      ⟨h₁, _, 0, [], _, rfl, Nat.zero_le _, rfl, Z.mono fun c _ o e => old c o e, F.keeps old, hns₁, fun p hp => ?_, 0, 0, 0, rfl⟩
    · rintro k s' ⟨h', tk, i, vs, m', rfl, hi, rfl, Z', F', hn', N', hvs⟩
      by_cases hlt : i < 3
      · obtain ⟨x, y, d, hx, hy, hd, hnext⟩ : ∃ x y d, (#[x1, x2, x3] : Array Value)[i]? = some x ∧ (#[y1, y2, y3] : Array Value)[i]? = some y ∧ ((x = x1 ∧ y = y1 ∧ d = d1) ∨ (x = x2 ∧ y = y2 ∧ d = d2) ∨ (x = x3 ∧ y = y3 ∧ d = d3)) ∧
            ∀ tk : Tok, ∃ t1 t2 t3 : Tok, vs ++ [Value.int d tk] = [Value.int d1 t1, Value.int d2 t2, Value.int d3 t3].take (i + 1) := by
          obtain ⟨t1, t2, t3, rfl⟩ := hvs
          have : i = 0 ∨ i = 1 ∨ i = 2 := by omega
          rcases this with rfl | rfl | rfl
          · exact ⟨x1, y1, d1, rfl, rfl, .inl ⟨rfl, rfl, rfl⟩, fun tk => ⟨tk, 0, 0, rfl⟩⟩
          · exact ⟨x2, y2, d2, rfl, rfl, .inr (.inl ⟨rfl, rfl, rfl⟩), fun tk => ⟨t1, tk, 0, rfl⟩⟩
          · exact ⟨x3, y3, d3, rfl, rfl, .inr (.inr ⟨rfl, rfl, rfl⟩), fun tk => ⟨t1, t2, tk, rfl⟩⟩
        have hvl : vs.length ≤ 3 := by
          obtain ⟨t1, t2, t3, rfl⟩ := hvs
          exact Nat.le_trans (List.length_take_le _ _) hi
        refine zip_item D Z' hx hy fun h₂ Z₂ hT₂ _ hk₂ => ?_
        refine wpAny_letOwnedTupleGo_zip Z₂.zip fun h₃ hz₃ hs₃ => ?_
        have zT : h'.objs.size ≠ z := Nat.ne_of_gt (Z'.lt z (by simp))
        have hT₃ : h₃.IsTuple h'.objs.size #[x, y] := ⟨_, hs₃.extBut _ _ zT hT₂, rfl, _, rfl⟩
        have up₃ : ∀ c o, c ≠ z → c ≠ TO → c ≠ i1 → c ≠ i2 → h'.get? c = some o → h₃.get? c = some o := fun c o c1 c2 c3 c4 e => hs₃.extBut c o c1 (hk₂ c o c1 c2 c3 c4 e)
        have Z₃ : ZipAt h₃ z TI TO i1 i2 t l #[x1, x2, x3] #[y1, y2, y3] (i + 1) .none := by
          obtain ⟨_, g2, ⟨p, q, g3⟩, g4, g5, g6, g7⟩ := Z₂
          exact ⟨hz₃, hs₃.extBut _ _ D.TIz g2, ⟨p, q, hs₃.extBut _ _ D.TOz g3⟩, g4.at fun o e => hs₃.extBut _ o D.i1z e, g5.at fun o e => hs₃.extBut _ o D.i2z e, g6.at fun o e => hs₃.extBut _ o D.l1z e, g7.at fun o e => hs₃.extBut _ o D.l2z e⟩
        have Cne : ∀ c ∈ [z, TI, TO, i1, i2, t, l], H2.objs.size ≠ c := fun c hc => Ne.symm (below c (zlt c hc)).1
        have Dne : ∀ c ∈ [z, TI, TO, i1, i2, t, l], s₁.heap.objs.size ≠ c := fun c hc => Ne.symm (below c (zlt c hc)).2
        refine kcp_assign (env := compEnvC scope cl H2.objs.size env) hh hT₃ (lookup_relabel_local hxa) (lookup_relabel_local hxb) (by simp [compEnvC, relabel, hkind])
          (hn'.at' fun o e => up₃ _ o (Cne z (by simp)) (Cne TO (by simp)) (Cne i1 (by simp)) (Cne i2 (by simp)) e) fun h₄ tk₄ hn₄ hs₄ => ?_
        have up : ∀ c o, c ≠ z → c ≠ TO → c ≠ i1 → c ≠ i2 → c ≠ H2.objs.size → h'.get? c = some o → h₄.get? c = some o := fun c o c1 c2 c3 c4 c5 e => hs₄ c o c5 (up₃ c o c1 c2 c3 c4 e)
        have Z₄ : ZipAt h₄ z TI TO i1 i2 t l #[x1, x2, x3] #[y1, y2, y3] (i + 1) .none := Z₃.mono fun c hc o e => hs₄ c o (Ne.symm (Cne c hc)) e
        obtain ⟨oC, heC, hoC⟩ := LCg.ns_obj hn₄
        have F₄ : Fr h₀ L h₄ m := by
          have nL : ∀ c ∈ [z, TO, i1, i2], L ≠ c := fun c hc => Ne.symm (own c hc).2.1
          have n0 : ∀ c ∈ [z, TO, i1, i2], ∀ q o, h₀.get? q = some o → q ≠ c := fun c hc q o e r => by rw [r, (own c hc).1] at e; cases e
          exact ⟨F'.ns.at' fun o e => up _ o (nL z (by simp)) (nL TO (by simp)) (nL i1 (by simp)) (nL i2 (by simp)) (Ne.symm hCL) e,
            fun q o e => up q o (n0 z (by simp) q o e) (n0 TO (by simp) q o e) (n0 i1 (by simp) q o e) (n0 i2 (by simp) q o e) (fun r => by rw [r, hC₀] at e; cases e) (F'.keep q o e), F'.above⟩
        have N₄ : News h₀ L h₄ ((s₁.heap.objs.size, LCg.lst vs) :: news) := fun p hp => by
          have off : p.1 ≠ z ∧ p.1 ≠ TO ∧ p.1 ≠ i1 ∧ p.1 ≠ i2 ∧ p.1 ≠ H2.objs.size := by
            rcases List.mem_cons.mp hp with rfl | hp
            · exact ⟨Dne z (by simp), Dne TO (by simp), Dne i1 (by simp), Dne i2 (by simp), hDC⟩
            · exact ⟨(own z (by simp)).2.2 p hp, (own TO (by simp)).2.2 p hp, (own i1 (by simp)).2.2 p hp, (own i2 (by simp)).2.2 p hp, (below _ (nlt p hp)).1⟩
          exact ⟨up _ _ off.1 off.2.1 off.2.2.1 off.2.2.2.1 off.2.2.2.2 (N' p hp).1, (N' p hp).2⟩
        refine helt x y d hd H2.objs.size oC _ _ _ _ hoC (by simp [hab]) (by simp) F₄ (fun p hp => by rw [List.mem_singleton.mp hp]; exact ⟨heC, hCL, hC₀⟩) fun t₅ tk₅ => ?_
        have zD := (N₄ (s₁.heap.objs.size, LCg.lst vs) (.head _)).1
        refine append_at (hsz := by show vs.toArray.size ≤ sizeLine; rw [List.size_toArray, sizeLine_eq]; omega) zD fun h₆ hs₆ hD₆ => ?_
        refine ⟨4 - (i + 1), by omega, h₆, tk₅, i + 1, vs ++ [Value.int d t₅], _, rfl, hlt, rfl, Z₄.mono fun c hc o e => hs₆.extBut c o (Ne.symm (Dne c hc)) e, F₄.change hs₆ hDL hD₀, hn₄.sameBut hs₆ (Ne.symm hDC), fun p hp => ?_, hnext t₅⟩
        rcases List.mem_cons.mp hp with rfl | hp
        · exact ⟨hD₆.trans (congrArg some (LCg.lst_snoc vs _)), hDL, hD₀⟩
        · exact ⟨hs₆.extBut _ _ (below _ (nlt p hp)).2 (N₄ p (.tail _ hp)).1, (N₄ p (.tail _ hp)).2⟩
      · obtain rfl : i = 3 := by omega
        obtain ⟨t1, t2, t3, rfl⟩ := hvs
        refine zip_end hh D Z' rfl fun h₂ hk₂ => ?_
        have up : ∀ c, c ∉ [z, TO, i1, i2] → ∀ o, h'.get? c = some o → h₂.get? c = some o := fun c hc o e => by
          simp only [List.mem_cons, List.not_mem_nil, or_false, not_or] at hc
          exact hk₂ c o hc.1 hc.2.1 hc.2.2.1 hc.2.2.2 e
        have F₂ : Fr h₀ L h₂ m := ⟨F'.ns.at' fun o e => up _ (fun hm => (own _ hm).2.1 rfl) o e, fun q o e => up q (fun hm => by rw [(own _ hm).1] at e; cases e) o (F'.keep q o e), F'.above⟩
        have N₂ : News h₀ L h₂ ((s₁.heap.objs.size, LCg.lst [Value.int d1 t1, Value.int d2 t2, Value.int d3 t3]) :: news) := fun p hp => by
          refine ⟨up p.1 (fun hm => ?_) _ (N' p hp).1, (N' p hp).2⟩
          rcases List.mem_cons.mp hp with rfl | hp
          · exact (below _ (zlt _ (by simp only [List.mem_cons, List.not_mem_nil, or_false] at hm ⊢; rcases hm with h | h | h | h <;> simp [h]))).2 rfl
          · exact (own _ hm).2.2 p hp rfl
        have hn₂ : h₂.Ns H2.objs.size m' := hn'.at' fun o e => up _ (fun hm => (below _ (zlt _ (by simp only [List.mem_cons, List.not_mem_nil, or_false] at hm ⊢; rcases hm with h | h | h | h <;> simp [h]))).1 rfl) o e
        exact hRR h₂ tk m' t1 t2 t3 F₂ N₂ hn₂
    · rcases List.mem_cons.mp hp with rfl | hp
      · exact ⟨hacc, hDL, hD₀⟩
      · exact ⟨old _ _ (N p hp).1, (N p hp).2⟩
  have off : LCg.Off1 s₁.heap.objs.size news := LCg.Off3.one (I := H2.objs.size) (C := H2.objs.size) (LCg.Off3.of fun p hp => ⟨(below _ (nlt p hp)).1, (below _ (nlt p hp)).1, (below _ (nlt p hp)).2⟩)
  refine codeAny_compStart_list (loop _ ?_ _ rfl) (wpAny_pyIter_zip (old _ _ Z.zip) (loop _ ?_ _ rfl))
  all_goals exact fun h tk m' t1 t2 t3 F₂ N₂ hn₂ => comp_leaves s₁.heap.objs.size H2.objs.size h tk m' _ news F₂ N₂ off hn₂ hC₀ hCL (Ne.symm hDC) (fun p hp => (below _ (nlt p hp)).1) (fin s₁.heap t1 t2 t3)
end
theorem drop3 {h₀ h : Heap} {L : Addr} {a b c : Addr × Obj} {r : Led} (N : News h₀ L h (a :: b :: c :: r)) : News h₀ L h r := fun p hp => N p (.tail _ (.tail _ (.tail _ hp)))
/-- the law's frame between its turns: the turn's six names hold anything, all else stands -/
def canon (m₀ : Str → Option Value) (a1 a2 a3 a4 a5 a6 : Option Value) : Str → Option Value := fun z =>
  if z = Str.ofString "turn" then a1 else if z = Str.ofString "some" then a2 else if z = Str.ofString "black" then a3 else if z = Str.ofString "told" then a4 else if z = Str.ofString "back" then a5 else if z = Str.ofString "gap" then a6 else m₀ z
theorem canon_of {m₀ m' : Str → Option Value} (h : ∀ z, z ≠ Str.ofString "turn" → z ≠ Str.ofString "some" → z ≠ Str.ofString "black" → z ≠ Str.ofString "told" → z ≠ Str.ofString "back" → z ≠ Str.ofString "gap" → m' z = m₀ z) :
    ∃ a1 a2 a3 a4 a5 a6, m' = canon m₀ a1 a2 a3 a4 a5 a6 := by
  refine ⟨m' (Str.ofString "turn"), m' (Str.ofString "some"), m' (Str.ofString "black"), m' (Str.ofString "told"), m' (Str.ofString "back"), m' (Str.ofString "gap"), funext fun z => ?_⟩
  unfold canon
  by_cases h1 : z = Str.ofString "turn"
  · rw [if_pos h1, h1]
  rw [if_neg h1]
  by_cases h2 : z = Str.ofString "some"
  · rw [if_pos h2, h2]
  rw [if_neg h2]
  by_cases h3 : z = Str.ofString "black"
  · rw [if_pos h3, h3]
  rw [if_neg h3]
  by_cases h4 : z = Str.ofString "told"
  · rw [if_pos h4, h4]
  rw [if_neg h4]
  by_cases h5 : z = Str.ofString "back"
  · rw [if_pos h5, h5]
  rw [if_neg h5]
  by_cases h6 : z = Str.ofString "gap"
  · rw [if_pos h6, h6]
  rw [if_neg h6]
  exact h z h1 h2 h3 h4 h5 h6
/-- what holds between the law's turns -/
def LawJ (m₀ : Str → Option Value) (d : Addr) (r : Led) (m : Str → Option Value) (nw : Led) : Prop :=
  (∀ z, z ≠ Str.ofString "turn" → z ≠ Str.ofString "some" → z ≠ Str.ofString "black" → z ≠ Str.ofString "told" → z ≠ Str.ofString "back" → z ≠ Str.ofString "gap" → m z = m₀ z) ∧
    ∃ x y tx ty n, (0 ≤ y ∧ y < 2147483647) ∧ nw = (d, listOf #[.int x tx, .int y ty] n) :: r
theorem lawJ_mk {m₀ m : Str → Option Value} {d : Addr} {r : Led} {x y : Int} {tx ty : Tok} {n : Nat}
    (hm : ∀ z, z ≠ Str.ofString "turn" → z ≠ Str.ofString "some" → z ≠ Str.ofString "black" → z ≠ Str.ofString "told" → z ≠ Str.ofString "back" → z ≠ Str.ofString "gap" → m z = m₀ z) (hy : 0 ≤ y ∧ y < 2147483647) :
    LawJ m₀ d r m ((d, listOf #[.int x tx, .int y ty] n) :: r) := ⟨hm, _, _, _, _, _, hy, rfl⟩
theorem unr_law {h₀ : Heap} {L I : Addr} {it : Obj} {rest : (Str → Option Value) → Led → Prop} {s₁ : Shared} {h' : Heap} {tk : Nat} {m₀ m' : Str → Option Value} {d : Addr} {r all : Led} {x y : Int} {tx ty : Tok} {n : Nat}
    (hrest : ∀ m' nw', LawJ m₀ d r m' nw' → rest m' nw') (F : Fr h₀ L h' m') (N : News h₀ L h' all) (sub : ∀ p ∈ (I, it) :: (d, listOf #[.int x tx, .int y ty] n) :: r, p ∈ all) (off : ∀ p ∈ (d, listOf #[.int x tx, .int y ty] n) :: r, p.1 ≠ I)
    (hm : ∀ z, z ≠ Str.ofString "turn" → z ≠ Str.ofString "some" → z ≠ Str.ofString "black" → z ≠ Str.ofString "told" → z ≠ Str.ofString "back" → z ≠ Str.ofString "gap" → m' z = m₀ z) (hy : 0 ≤ y ∧ y < 2147483647) :
    UnrEnd h₀ L s₁ I it rest { s₁ with heap := h', toks := tk } := UnrEnd.intro F N _ sub off (hrest _ _ (lawJ_mk hm hy))
section
variable {prog : Program} {w : World} {A : Around} {E : Value → Shared → Prop} {s : Shared} {env : Env} {h₀ : Heap} {v : Str} {body : List Stmt} {Q : Flow → Shared → Prop}
theorem law_turns {I d : Addr} {a : Int} {N : Nat} {m₀ : Str → Option Value} {r : Led}
    (turn : ∀ (k i : Nat) a1 a2 a3 a4 a5 a6 x y tx ty n (rest : (Str → Option Value) → Led → Prop), (0 ≤ y ∧ y < 2147483647) → (∀ m' nw', LawJ m₀ d r m' nw' → rest m' nw') →
      ∀ t h tk, Fr h₀ env.locals h (fun z => if z = v then some (.int (a + (i : Int)) t) else canon m₀ a1 a2 a3 a4 a5 a6 z) → News h₀ env.locals h ((I, itR (a + ((i + 1 : Nat) : Int)) ((N : Int) - ((i + 1 : Nat) : Int))) :: (d, listOf #[.int x tx, .int y ty] n) :: r) →
        wpAny (model prog w) A (execs body env) (UnrPost h₀ env.locals { s with heap := h, toks := tk } I (itR (a + ((i + 1 : Nat) : Int)) ((N : Int) - ((i + 1 : Nat) : Int))) rest Q) E { s with heap := h, toks := tk })
    (fin : ∀ a1 a2 a3 a4 a5 a6 x y tx ty n h tk, Fr h₀ env.locals h (canon m₀ a1 a2 a3 a4 a5 a6) → News h₀ env.locals h ((d, listOf #[.int x tx, .int y ty] n) :: r) → Q .next { s with heap := h, toks := tk }) :
    ∀ k i m nw, LawJ m₀ d r m nw → RangeRest prog w A E h₀ env v body Q s I a N k i m nw := by
  intro k
  induction k with
  | zero =>
    rintro i m nw ⟨hm, x, y, tx, ty, n, hy, rfl⟩
    obtain ⟨a1, a2, a3, a4, a5, a6, rfl⟩ := canon_of hm
    exact RangeRest.zero fun h tk F N => fin a1 a2 a3 a4 a5 a6 x y tx ty n h tk F N
  | succ k ih =>
    rintro i m nw ⟨hm, x, y, tx, ty, n, hy, rfl⟩
    obtain ⟨a1, a2, a3, a4, a5, a6, rfl⟩ := canon_of hm
    exact RangeRest.succ fun t h tk F N => turn k i a1 a2 a3 a4 a5 a6 x y tx ty n _ hy (fun m' nw' J => ih (i + 1) m' nw' J) t h tk F N
end
theorem off_P19 : True := by w_top off; exact True.intro
local macro_rules | `(tactic| walk_at "RangeRest") => `(tactic| ((with_reducible (refine' law_turns ?tu ?fi _ _ _ _ ?jj)); (case jj => exact lawJ_mk (fun z _ _ _ _ _ _ => rfl) (by first | with_reducible assumption | exact ⟨by with_reducible assumption, by with_reducible assumption⟩ | (constructor <;> omega))); (case' tu => (intro k9' i9' a1' a2' a3' a4' a5' a6' x' y' tx' ty' n' rest' hy' hrest' t' h' tk' F' N'; (try k_fold))); (case' fi => (intro a1' a2' a3' a4' a5' a6' x' y' tx' ty' n' h' tk' F' N'; (try dsimp only))); walk_say "TURNS"))
local macro_rules | `(tactic| walk_at "UnrEnd") => `(tactic| ((rename (∀ (m' : Str → Option Value) (nw' : Led), LawJ _ _ _ m' nw' → _) => hrest); (refine' unr_law hrest ?f ?n ?sub ?off ?hm ?hy); (case f => first | k_asm | with_unfolding_all assumption); (case n => first | k_asm | with_unfolding_all assumption); (case sub => (refine' List.forall_mem_cons.mpr ⟨?sa, List.forall_mem_cons.mpr ⟨?sb, List.forall_mem_cons.mpr ⟨?sc, List.forall_mem_cons.mpr ⟨?sd, List.forall_mem_nil _⟩⟩⟩⟩; (case sa => with_unfolding_all k_mem); (case sb => with_unfolding_all k_mem); (case sc => with_unfolding_all k_mem); (case sd => with_unfolding_all k_mem))); (case off => k_all); (case hm => (intro z h1 h2 h3 h4 h5 h6; first | (simp +zetaDelta only [canon, h1, h2, h3, h4, h5, h6, if_false]; done) | (simp +zetaDelta [canon, h1, h2, h3, h4, h5, h6]; done) | (simp only [canon, h1, h2, h3, h4, h5, h6, if_false]; done) | (simp [canon, h1, h2, h3, h4, h5, h6]; done) | (simp_all [canon]; done))); (case hy => first | with_reducible assumption | exact ⟨by with_reducible assumption, by with_reducible assumption⟩ | (constructor <;> omega))))
local macro_rules | `(tactic| walk_at "eval ListComp") => `(tactic| (k_here; lcf_look; k_dflt (refine LCg.ListComp_U (F₀ := by k_asm) (by with_unfolding_all rfl) (by decide) (by rfl) (by decide) (by rfl) ?_); k_dflt lcg_toSrc))
local macro_rules | `(tactic| walk_at "CompSrc") => `(tactic| (k_here; k_dflt (refine LCg.CompSrc.range (by rfl) (by k_asm) (by k_asm) (by assumption) (by first | decide | rfl) (by first | rfl | decide) (by first | size_fits | exact Nat.le_of_ble_eq_true rfl) ?_; intro g'; lcg_lit)))
local macro_rules | `(tactic| walk_at "eval ListComp") => `(tactic| (k_here; lcp_look; k_dflt (refine ListComp_Zip (_F₀ := by k_asm) (by with_unfolding_all rfl) (by decide) (by rfl) (by decide) (by rfl) (by rfl) (by decide) ?_)))
local macro_rules | `(tactic| walk_at "call type:zip") => `(tactic| (k_here; k_dflt (refine' zip_src ?k0 ?k1 ?k2 ?k3 ?k4 ?e1 ?e2 ?e3 ?_; (case k0 => exact rfl); (case k1 => k_asm); (case k2 => k_asm); (case k3 => k_mem); (case k4 => k_mem)); (case e1 => (intro C' oC' m' s' Q' E' hC' hx' hy' F' N' hret'; k_steps; exact hret' _ _)); (case e2 => (intro C' oC' m' s' Q' E' hC' hx' hy' F' N' hret'; k_steps; exact hret' _ _)); (case e3 => (intro C' oC' m' s' Q' E' hC' hx' hy' F' N' hret'; k_steps; exact hret' _ _)); k_whole; intro g9' t91' t92' t93'; (try dsimp only)))
local macro_rules | `(tactic| walk_at "M:pick") => `(tactic| first | (refine' Pick.head ?a; (case a => k_all)) | (refine' Pick.tail ?a ?b; (case a => k_ne); (case b => walk_at "M:pick")))
local macro_rules | `(tactic| walk_at "binaryOp Pow int int") => `(tactic| (k_here; with_reducible refine pow_pw (by omega) ?_; intro hp9'))
local macro_rules | `(tactic| walk_at "call ref") => `(tactic| (k_here; (with_reducible show wpAny _ _ (call (Value.ref 115) _) _ _ _); k_dflt (refine' pool_c _ _ _ _ ?h1 ?h2 ?h3 ?h4 ?k1 ?k2 ?k3 ?k4 ?k5 ?kK ?kd ?ku ?_; (case k1 => k_asm); (case k2 => k_asm); (case k3 => k_asm); (case k4 => k_asm); (case k5 => k_asm); (case h1 => assumption); (case h2 => assumption); (case h3 => assumption); (case h4 => omega); (case kK => first | exact rfl | assumption); (case kd => first | ktr_room | decide); (case ku => first | ktr_units | decide); k_whole; intro D' x' y' tx' ty' n' h' tk' l1' b1' F' N'; (try simp only [AllLt, and_true] at l1'); (try k_sweep); skip)))
local macro_rules | `(tactic| walk_at "call ref") => `(tactic| (k_here; (with_reducible show wpAny _ _ (call (Value.ref 136) _) _ _ _); k_dflt (refine' use_sample (sample_w  ?h1 ?h2 ?h3) ?_; (case h1 => k_updF); (case h2 => walk_at "M:sa"); (case h3 => walk_at "M:sa"); k_whole; intro k' x' y' t' tx' ty' n' h' tk' b1' b3' F' N'; (try dsimp only at N'); (try k_sweep); skip)))
local macro_rules | `(tactic| walk_at "call ref") => `(tactic| (k_here; (with_reducible show wpAny _ _ (call (Value.ref 52) _) _ _ _); k_dflt (refine' use_3 (ycc_w  ?h1 ?h2 ?h3 ?h4) ?_; (case h1 => walk_at "M:sa"); (case h2 => walk_at "M:sa"); (case h3 => walk_at "M:sa"); (case h4 => walk_at "M:sa"); k_whole; intro D' t1' t2' t3' n' h' tk' l1' F' N'; (try simp only [AllLt, and_true] at l1'); skip)))
local macro_rules | `(tactic| walk_at "call ref") => `(tactic| (k_here; (with_reducible show wpAny _ _ (call (Value.ref 59) _) _ _ _); k_dflt (refine' use_3 (rgb_w  ?h1 ?h2 ?h3 ?h4) ?_; (case h1 => walk_at "M:sa"); (case h2 => walk_at "M:sa"); (case h3 => walk_at "M:sa"); (case h4 => walk_at "M:sa"); k_whole; intro D' t1' t2' t3' n' h' tk' l1' F' N'; (try simp only [AllLt, and_true] at l1'); skip)))
local macro_rules | `(tactic| walk_at "call ref") => `(tactic| (k_here; (with_reducible show wpAny _ _ (call (Value.ref 59) _) _ _ _); k_dflt (refine' use_told (rgb_told  ?h1 ?h2 ?h3 ?h4) ?_; (case h1 => walk_at "M:sa"); (case h2 => walk_at "M:sa"); (case h3 => walk_at "M:sa"); (case h4 => walk_at "M:sa"); k_whole; intro D' t1' t2' t3' n' h' tk' p1' p2' l1' F' N'; (try simp only [AllLt, and_true] at l1'); (try simp only [eq_self, true_implies] at p2'); skip)))
local macro_rules | `(tactic| walk_at "storeName") => `(tactic| (k_here; (with_reducible show wpAny _ _ (storeName _ (Str.ofString "gap") (Value.int _ _)) _ _ _); (rename (Near2 _ _ ∧ Near2 _ _ ∧ Near2 _ _) => hng'); (rename (_ ≠ _ ∧ _) => ho9'); clear ho9'; (rename News _ _ _ _ => N9'); (replace N9' := drop3 N9'); first
  | ((rename (_ = _ ∧ _ = _ ∧ _ = _) => hgr'); (refine gap_store 0 ?h ?_); (case h => (clear hng' N9'; (obtain ⟨v1', v2', v3'⟩ := hgr'); (repeat' (refine ite_le ?_ ?_)) <;> omega)); intro g' hg'; clear hng' hgr')
  | ((rename (_ = _ → _ = _ → _) => hgr'); clear hgr'; (refine gap_store 2 ?h ?_); (case h => ((obtain ⟨⟨u1', u2'⟩, ⟨u3', u4'⟩, u5', u6'⟩ := hng'); (repeat' (refine ite_le ?_ ?_)) <;> omega)); intro g' hg'; clear hng')))
local macro_rules | `(tactic| walk_at "call ref") => `(tactic| (k_here; (with_reducible show wpAny _ _ (call (Value.ref 148) _) _ _ _); k_dflt (refine' use_F (conF2 (parts_w ?h1 ?h2 ?h3 ?h4) ?q1 ?q2) ?_; (case q1 => walk_at "M:pick"); (case q2 => walk_at "M:pick"); (case h1 => walk_at "M:sa"); (case h2 => walk_at "M:sa"); (case h3 => walk_at "M:sa"); (case h4 => walk_at "M:sa"); k_whole; intro h' tk' F' N'; (try simp only [List.cons_append, List.nil_append] at N'); (try k_sweep); skip)))
local macro_rules | `(tactic| walk_at "call ref") => `(tactic| (k_here; (with_reducible show wpAny _ _ (call (Value.ref 160) _) _ _ _); k_dflt (refine' use_F (conF2 (back_w ?h1 ?h2 ?h3 ?h4) ?q1 ?q2) ?_; (case q1 => walk_at "M:pick"); (case q2 => walk_at "M:pick"); (case h1 => walk_at "M:sa"); (case h2 => walk_at "M:sa"); (case h3 => walk_at "M:sa"); (case h4 => walk_at "M:sa"); k_whole; intro h' tk' F' N'; (try simp only [List.cons_append, List.nil_append] at N'); (try k_sweep); skip)))
local macro_rules | `(tactic| walk_at "call ref") => `(tactic| (k_here; (with_reducible show wpAny _ _ (call (Value.ref 167) _) _ _ _); k_dflt (refine' use_F (conF1 (ways_c _ _ _ _ _ _ _ _ _ _ _ _ _ _ _ _ ?h1 ?h2 ?h3 ?h4) ?q1) ?_; (case q1 => walk_at "M:pick"); (case h1 => walk_at "M:sa"); (case h2 => walk_at "M:sa"); (case h3 => walk_at "M:sa"); (case h4 => walk_at "M:sa"); k_whole; intro h' tk' F' N'; (try simp only [List.cons_append, List.nil_append] at N'); (try k_sweep); skip)))
local macro_rules | `(tactic| walk_at "call ref") => `(tactic| (k_here; (with_reducible show wpAny _ _ (call (Value.ref 172) _) _ _ _); k_dflt (refine' use_F (conF1 (four_c _ _ _ _ _ _ _ _ _ _ _ _ _ _ _ _ _ ?h1 ?h2 ?h3 ?h4) ?q1) ?_; (case q1 => walk_at "M:pick"); (case h1 => walk_at "M:sa"); (case h2 => walk_at "M:sa"); (case h3 => walk_at "M:sa"); (case h4 => walk_at "M:sa"); k_whole; intro h' tk' F' N'; (try simp only [List.cons_append, List.nil_append] at N'); (try k_sweep); skip)))
local macro_rules | `(tactic| wrow_close) => `(tactic| (exfalso; (rename (_ + _ ≠ (2 : Int)) => q2'); exact q2' (by with_reducible assumption)))
theorem law_c : PySem.Challenge.rw_ok0125_01.Holds := hd (by
  k_go0
  (all_goals try k_fold)
  k_steps
  all_goals (try k_data))
end Mine
theorem PySem.Challenge.cw_ok0125_01_holds : PySem.Challenge.rw_ok0125_01.Holds := by
  exact Mine.law_c
