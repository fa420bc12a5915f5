import PyProof.Rows.All
import Wide.All
import OpenK.AllK
import Wide.FinOn
import Lean
import PySem.Challenge.RW_on0180_01
open PySem PySem.W PyProof.Rows
set_option Elab.async false
set_option maxRecDepth 100000
set_option maxHeartbeats 8000000
set_option linter.unusedVariables false
namespace Mine
/-- the text, its three names of modules apart -/
def viewM : Program := view PySem.Challenge.rw_on0180_01.row.prog [1, 2, 4, 6, 7, 8, 9, 10, 11, 12, 13, 14, 15]
end Mine
set_option hygiene false in
local macro_rules | `(tactic| o_head $H) => `(tactic| (refine holds_open (q := Mine.viewM) (loose := []) (Xt := fun s => xlAt Mine.viewM [] s && recOk (RowW.records (OpenRow.toRowW PySem.Challenge.rw_on0180_01.row)) s) (XP := XL Mine.viewM []) (Yf := Hook.obs $H) (Ya := Hook.val $H) (YP := Hook.says $H) (N := 2766) ?hl (Hook.of $H) (Hook.keeps $H) (fun s e => xl_of s (Bool.and_eq_true_iff.mp e).1) XL.keeps (by rfl) (by rfl) (by rfl) (fun s e => recFacts_of (Bool.and_eq_true_iff.mp e).2) (by rfl) (by assumption) (by decide +kernel) ⟨rfl, rfl, rfl, rfl, rfl, by decide +kernel⟩ ?hw ?hc; (case hl => (intro w; kernel_rfl))))
namespace Mine
open_top hd for PySem.Challenge.rw_on0180_01
end Mine
local macro_rules
  | `(tactic| walk_at $s:str) => do
    let t := Lean.Syntax.mkStrLit ("m " ++ s.getString)
    if s.getString.startsWith "exec" then `(tactic| first | k_extra "m mine fold" | k_extra $t) else `(tactic| k_extra $t)
local macro_rules | `(tactic| ktr_room) => `(tactic| k_extra "m ktr_room")
local macro_rules | `(tactic| k_room) => `(tactic| k_extra "m k_room")
local macro_rules | `(tactic| k_all) => `(tactic| k_extra "m k_all")
local macro_rules | `(tactic| k_handed) => `(tactic| k_extra "m k_handed")
local macro_rules | `(tactic| k_ne) => `(tactic| k_extra "m k_ne")
namespace Mine
theorem row1 : True := by
  w_top off
  exact trivial
/-- a goal that the walk leaves alone -/
def Stay (P : Prop) : Prop := P
theorem Stay.out {P : Prop} (h : Stay P) : P := h
theorem allLt_mem {d : Addr} : ∀ {l : List (Addr × Obj)}, AllLt d l → ∀ p ∈ l, p.1 < d
  | [], _, _, h => nomatch h
  | _ :: _, ⟨h1, h2⟩, p, h => (List.mem_cons.mp h).elim (fun e => e ▸ h1) (allLt_mem h2 p)
theorem allLt_ne {d : Addr} {l : List (Addr × Obj)} (h : AllLt d l) : ∀ p ∈ l, p.1 ≠ d := fun p hp => Nat.ne_of_lt (allLt_mem h p hp)
/-- room enough, without omega -/
theorem room1 {dp a b L : Nat} (h : dp + a < L) (hb : Nat.ble b a = true) : dp + b < L := Nat.lt_of_le_of_lt (Nat.add_le_add_left (Nat.le_of_ble_eq_true hb) dp) h
theorem room2 {dp a b c L : Nat} (h : dp + a < L) (hb : Nat.ble (c + b) a = true) : dp + c + b < L := by rw [Nat.add_assoc]; exact room1 h hb
theorem room3 {dp a b c d L : Nat} (h : dp + a < L) (hb : Nat.ble (c + d + b) a = true) : dp + c + d + b < L := by rw [Nat.add_assoc dp c d]; exact room2 h hb
theorem room4 {dp a b c d e L : Nat} (h : dp + a < L) (hb : Nat.ble (c + d + e + b) a = true) : dp + c + d + e + b < L := by rw [Nat.add_assoc dp c d]; exact room3 h hb
theorem room0 {dp a L : Nat} (h : dp + a < L) : dp < L := Nat.lt_of_le_of_lt (Nat.le_add_right dp a) h
/-- the machine around and the frame's names, each by a name; how many tokens are drawn tells nothing -/
theorem fold_A {α : Type} {M : Model} {A : Around} {t : Sem α} {Q : α → Shared → Prop} {E : Value → Shared → Prop} {hp : Heap} {gs : Array GenState} {dr : Drawn} {tk : Nat} {os : OsState}
  (h : let A1 := A; ∀ tk1, wpAny M A1 t Q E ⟨hp, gs, dr, tk1, os⟩) : wpAny M A t Q E ⟨hp, gs, dr, tk, os⟩ := h tk
theorem fold_T {α : Type} {M : Model} {A : Around} {t : Sem α} {Q : α → Shared → Prop} {E : Value → Shared → Prop} {hp : Heap} {gs : Array GenState} {dr : Drawn} {tk : Nat} {os : OsState} (h : ∀ tk1, wpAny M A t Q E ⟨hp, gs, dr, tk1, os⟩) : wpAny M A t Q E ⟨hp, gs, dr, tk, os⟩ := h tk
theorem fold_m {h₀ h : Heap} {L : Addr} {m : Str → Option Value} {P : Prop} (F : Fr h₀ L h m) (k : let m1 := m; Fr h₀ L h m1 → P) : P := k F
theorem row2 : True := by
  k_with "m mine fold" => (((fail_if_success (with_reducible show wpAny _ A1 _ _ _ _)); refine fold_A ?_; intro A1 tk1; (try (rename Fr _ _ _ _ => Fz; refine fold_m Fz ?_; clear Fz; intro m1 Fz))))
  k_with "m mine room" => (first | (exact room1 hdp rfl) | (exact room1 hun rfl) | (exact room2 hdp rfl) | (exact room2 hun rfl) | (exact room3 hdp rfl) | (exact room3 hun rfl) | (exact room4 hdp rfl) | (exact room4 hun rfl) | exact room0 hdp | exact room0 hun | omega | ((try dsimp only [ktrTop] at *); omega))
  k_with "m mine lt" => (first | with_reducible assumption | k_extra "m mine ltand")
  k_with "m mine ltand" => (((with_reducible rename (@LT.lt Nat _ _ _ ∧ _) => hAnd7); first | with_reducible exact hAnd7.1 | with_reducible exact hAnd7.2 | with_reducible exact hAnd7.2.1 | with_reducible exact hAnd7.2.2 | with_reducible exact hAnd7.2.2.1 | with_reducible exact hAnd7.2.2.2 | with_reducible exact hAnd7.2.2.2.1 | with_reducible exact hAnd7.2.2.2.2 | with_reducible exact hAnd7.2.2.2.2.1 | with_reducible exact hAnd7.2.2.2.2.2 | with_reducible exact hAnd7.2.2.2.2.2.1 | with_reducible exact hAnd7.2.2.2.2.2.2 | with_reducible exact hAnd7.2.2.2.2.2.2.1 | with_reducible exact hAnd7.2.2.2.2.2.2.2 | with_reducible exact hAnd7.2.2.2.2.2.2.2.1 | with_reducible exact hAnd7.2.2.2.2.2.2.2.2.1 | with_reducible exact hAnd7.2.2.2.2.2.2.2.2.2.1 | with_reducible exact hAnd7.2.2.2.2.2.2.2.2.2.2.1 | with_reducible exact hAnd7.2.2.2.2.2.2.2.2.2.2.2.1 | with_reducible exact hAnd7.2.2.2.2.2.2.2.2.2.2.2.2.1 | with_reducible exact hAnd7.2.2.2.2.2.2.2.2.2.2.2.2.2.1 | with_reducible exact hAnd7.2.2.2.2.2.2.2.2.2.2.2.2.2.2.1 | with_reducible exact hAnd7.2.2.2.2.2.2.2.2.2.2.2.2.2.2.2.1 | with_reducible exact hAnd7.2.2.2.2.2.2.2.2.2.2.2.2.2.2.2.2.1 | (clear hAnd7; k_extra "m mine ltand")))
  k_with "m k_ne" => ((refine neN ?_; (try dsimp only); first | with_reducible assumption | (refine Ne.symm ?_; with_reducible assumption) | (refine Nat.ne_of_gt ?_; k_extra "m mine lt") | (refine Nat.ne_of_lt ?_; k_extra "m mine lt") | omega))
  k_with "m ktr_room" => (k_extra "m mine room")
  k_with "m k_room" => (first | k_extra "m mine room" | ((try simp only [depth_under_make, depth_under_kw, depth_in1, depth_deeper, depth_caller]); (try dsimp only [ktrTop]); omega))
  k_with "m mine all" => (first | assumption | ((with_reducible rename (_ ∧ _) => hAnd7); first | exact hAnd7.2 | exact hAnd7.2.2 | exact hAnd7.2.2.2 | exact hAnd7.2.2.2.2 | exact hAnd7.2.2.2.2.2 | exact hAnd7.2.2.2.2.2.2 | exact hAnd7.2.2.2.2.2.2.2 | exact hAnd7.2.2.2.2.2.2.2.2 | exact hAnd7.2.2.2.2.2.2.2.2.2 | exact hAnd7.2.2.2.2.2.2.2.2.2.2 | exact hAnd7.2.2.2.2.2.2.2.2.2.2.2 | exact hAnd7.2.2.2.2.2.2.2.2.2.2.2.2 | exact hAnd7.2.2.2.2.2.2.2.2.2.2.2.2.2 | exact hAnd7.2.2.2.2.2.2.2.2.2.2.2.2.2.2 | exact hAnd7.2.2.2.2.2.2.2.2.2.2.2.2.2.2.2 | exact hAnd7.2.2.2.2.2.2.2.2.2.2.2.2.2.2.2.2 | exact hAnd7.2.2.2.2.2.2.2.2.2.2.2.2.2.2.2.2.2 | exact hAnd7.2.2.2.2.2.2.2.2.2.2.2.2.2.2.2.2.2.2 | exact hAnd7.2.2.2.2.2.2.2.2.2.2.2.2.2.2.2.2.2.2.2 | exact hAnd7.2.2.2.2.2.2.2.2.2.2.2.2.2.2.2.2.2.2.2.2 | exact hAnd7.2.2.2.2.2.2.2.2.2.2.2.2.2.2.2.2.2.2.2.2.2 | exact hAnd7.2.2.2.2.2.2.2.2.2.2.2.2.2.2.2.2.2.2.2.2.2.2 | exact hAnd7.2.2.2.2.2.2.2.2.2.2.2.2.2.2.2.2.2.2.2.2.2.2.2 | exact hAnd7.2.2.2.2.2.2.2.2.2.2.2.2.2.2.2.2.2.2.2.2.2.2.2.2 | (clear hAnd7; k_extra "m mine all")))
  k_with "m k_all" => (first | exact List.forall_mem_nil _ | (refine' List.forall_mem_cons.mpr ⟨?aq76587, ?bq76587⟩; (case aq76587 => k_ne); (case bq76587 => k_all)) | assumption | (refine allLt_ne ?_; k_extra "m mine all"))
  k_with "m k_handed" => (assumption)
  k_with "m mine in" => ((obtain ⟨k9, n9, g9, c9, m9⟩ := cs; (have hk9 : k9 = .function := hk); subst hk9; revert X; k_fill; intro X))
  k_with "m callWith" => ((k_here; (with_reducible show wpAny _ _ (callWith _ (Value.builtin _) [] (backTo _ (starEach (_ :: _) _)) []) _ _ _); k_dflt (refine PyProof.Rows.callWith_builtin1 ?_; k_whole)))
  k_with "m callWith" => ((k_here; (with_reducible show wpAny _ _ (callWith _ (Value.builtin _) [_] (backTo _ (starEach (_ :: _) _)) []) _ _ _); k_dflt (refine callWith_method1 ?_; k_whole)))
  k_with "m callWith ref" => ((k_here; (with_reducible show wpAny _ _ (callWith _ (Value.ref _) _ (backTo _ (starEach (_ :: _) _)) []) _ _ _); k_dflt (refine' callWith_K (K := hd.heap_39 _) ?k1q65337 ?k2q65337 ?_; (case k1q65337 => with_reducible assumption); (case k2q65337 => k_is); k_whole)))
  k_with "m callWith ref" => ((k_here; (with_reducible show wpAny _ _ (callWith _ (Value.ref _) [_] (backTo _ (starEach [] _)) []) _ _ _); k_dflt (refine' callWith_K0 (K := hd.heap_39 _) ?k1q79205 ?k2q79205 ?_; (case k1q79205 => exact Frag.In.keeps (by with_reducible assumption) (Fr.keep (by with_reducible assumption))); (case k2q79205 => k_is); k_whole; (try dsimp only [List.nil_append, List.cons_append]))))
  exact trivial

theorem mulOk_fmod (a b c : Int) (hc : 0 < c) (hc2 : c < 2 ^ 63) : IntMulOk (a.fmod c) b :=
  IntMulOk.of_left (intBits_le_64 (by have := Int.fmod_nonneg_of_pos a hc; omega) (by have := Int.fmod_lt_of_pos a hc; omega))

/-- the source of the draws: a list of two ints -/
def Src (o : Obj) : Prop := ∃ (b mx : Int) (t1 t2 n : Nat), o = listOf #[.int b t1, .int mx t2] n ∧ 0 ≤ b ∧ 0 ≤ mx ∧ mx < 2147483647

theorem news_of {h₀ h : Heap} {L : Addr} {l l' : List (Addr × Obj)} (N : News h₀ L h l) (hs : ∀ p ∈ l', p ∈ l) : News h₀ L h l' := fun p hp => N p (hs p hp)

theorem news_cons {h₀ h : Heap} {L : Addr} {q : Addr × Obj} {l : List (Addr × Obj)} (x : h.get? q.1 = some q.2 ∧ q.1 ≠ L ∧ h₀.get? q.1 = none) (N : News h₀ L h l) : News h₀ L h (q :: l) := fun r hr => by
  rcases List.mem_cons.mp hr with rfl | hr
  · exact x
  · exact N r hr
theorem upd_front {d : Addr} {o : Obj} {news : List (Addr × Obj)} {g : Obj → List (Addr × Obj)} (U : UpdF d o news g) : ∃ rest, (∀ p ∈ rest, p.1 ≠ d) ∧ (∀ q, q ∈ (d, o) :: rest ↔ q ∈ news) ∧ ∀ o' q, q ∈ g o' ↔ q ∈ (d, o') :: rest := by
  obtain ⟨pre, post, rfl, hg, h1, h2⟩ := U.split
  refine ⟨pre ++ post, fun q hq => (List.mem_append.mp hq).elim (h1 q) (h2 q), fun q => ?_, fun o' q => ?_⟩
  · simp only [List.mem_cons, List.mem_append]; constructor <;> (intro h; rcases h with h | h | h <;> simp [h])
  · rw [hg]; simp only [List.mem_cons, List.mem_append]; constructor <;> (intro h; rcases h with h | h | h <;> simp [h])

section
theorem row4 : True := by
  k_with "m binaryOp Mult int int" => ((fail_if_success (k_extra "off s3")); ((k_dflt (refine PyProof.Rows.mul_int ?_ (mulOk_fmod _ _ _ (by decide) (by decide))))))
  exact trivial
theorem take_raw {w : World} {dp un : Nat} {gd : Option (List Code)} {cn : Str} {cs : Scope} {a : Addr} {ccd : Value} {cl : List (Str × Addr)} {outer : List Env} {A₀ : Around} {base h₀ : Heap} {L : Addr} {m mg mb : Str → Option Value}
  {p : Program} {loose : List Str} {mean : ExcName → Option Value} {rest : List (Addr × Obj)} {s : Shared} {src : Addr} {b mx tp : Int} {t1 t2 t3 n : Nat} {Q E : Value → Shared → Prop}
  (B : Below A₀ base outer h₀) (F : Fr h₀ L s.heap m) (X : (hd.heap_39 w.params).In h₀) (N : News h₀ L s.heap ((src, listOf #[.int b t1, .int mx t2] n) :: rest)) (hne : ∀ p ∈ rest, p.1 ≠ src)
  (T : Top p loose mean mg mb h₀) (hk : cs.kind = .function) (hdp : dp + 100 < recursionLimit) (hun : un + 1000 < cLine)
  (hb : 0 ≤ b) (hm : 0 ≤ mx) (hm2 : mx < 2147483647) (ht : 0 < tp) (ht2 : tp < 1000)
  (hret : ∀ r t b' mx' t1' t2' h' tk', Fr h₀ L h' m → News h₀ L h' ((src, listOf #[.int b' t1', .int mx' t2'] n) :: rest) → 0 ≤ b' → 0 ≤ mx' → mx' < 2147483647 → 0 ≤ r → r < tp → Q (.int r t) { s with heap := h', toks := tk' }) :
  wpAny (model PySem.Challenge.rw_on0180_01.row.prog w) (ktrTop dp un gd cn cs L a ccd cl outer) (call (.ref 152) [.ref src, .int tp t3]) Q E s := by
  revert X; k_fill; intro X
  refine wpAny_call ?_
  k_dflt ktr_enter
  k_steps
  · have f := fdiv_fmod_facts b tp
    have f2 := f.2.2.1 ht
    refine hret _ _ _ _ _ _ _ _ (by assumption) (by assumption) ?_ ?_ ?_ f2.1 f2.2
    · exact Int.fdiv_nonneg hb (by omega)
    · exact hm
    · exact hm2
  · have f := fdiv_fmod_facts (((((mx * 39373 + 7).fmod 2147483647) * ((mx * 39373 + 7).fmod 2147483647)).fmod 2147483629).fdiv 32) tp
    have f2 := f.2.2.1 ht
    have g := (fdiv_fmod_facts (mx * 39373 + 7) 2147483647).2.2.1 (by decide)
    exact hret _ _ _ _ _ _ _ _ (by assumption) (by assumption) hb g.1 g.2 f2.1 f2.2
end
theorem row5 : True := by
  k_with "off s3" => skip
  exact trivial
theorem take_spec {w : World} {dp un : Nat} {gd : Option (List Code)} {cn : Str} {cs : Scope} {a : Addr} {ccd : Value} {cl : List (Str × Addr)} {outer : List Env} {A₀ : Around} {base h₀ : Heap} {L : Addr} {m mg mb : Str → Option Value}
  {p : Program} {loose : List Str} {mean : ExcName → Option Value} {news : List (Addr × Obj)} {g : Obj → List (Addr × Obj)} {s : Shared} {src : Addr} {o : Obj} {tp : Int} {t3 : Tok} {Q E : Value → Shared → Prop}
  (B : Below A₀ base outer h₀) (F : Fr h₀ L s.heap m) (X : (hd.heap_39 w.params).In h₀) (N : News h₀ L s.heap news) (T : Top p loose mean mg mb h₀) (hk : cs.kind = .function) (hdp : dp + 100 < recursionLimit) (hun : un + 1000 < cLine)
  (U : UpdF src o news g) (hS : Src o) (ht : 0 < tp) (ht2 : tp < 1000)
  (hret : ∀ r t o' h' tk', Fr h₀ L h' m → News h₀ L h' (g o') → Src o' → 0 ≤ r → r < tp → Q (.int r t) { s with heap := h', toks := tk' }) :
  wpAny (model PySem.Challenge.rw_on0180_01.row.prog w) (ktrTop dp un gd cn cs L a ccd cl outer) (call (.ref 152) [.ref src, .int tp t3]) Q E s := by
  obtain ⟨pre, post, rfl, hg, h1, h2⟩ := U.split
  obtain ⟨b, mx, t1, t2, n, rfl, hb, hm, hm2⟩ := hS
  refine take_raw (rest := pre ++ post) (b := b) (mx := mx) (t1 := t1) (t2 := t2) (n := n) B F X (news_of N (fun q hq => ?_)) (fun q hq => (List.mem_append.mp hq).elim (h1 q) (h2 q)) T hk hdp hun hb hm hm2 ht ht2 (fun r t b' mx' t1' t2' h' tk' F' N' hb' hm' hm2' hr hr2 => hret r t (listOf #[.int b' t1', .int mx' t2'] n) h' tk' F' (news_of N' (fun q hq => ?_)) ⟨_, _, _, _, _, rfl, hb', hm', hm2'⟩ hr hr2)
  · simp only [List.mem_cons, List.mem_append] at hq ⊢
    rcases hq with h | h | h <;> simp [h]
  · rw [hg] at hq
    simp only [List.mem_cons, List.mem_append] at hq ⊢
    rcases hq with h | h | h <;> simp [h]
theorem row6 : True := by
  k_with "m call ref" => ((k_here; (with_reducible show wpAny _ _ (call (Value.ref 152) [Value.ref _, Value.int _ _]) _ _ _); k_dflt (refine' take_spec ?Bq30809 ?Fq30809 ?Xq30809 ?Nq30809 ?Tq30809 ?hkq30809 ?hdq30809 ?huq30809 ?Uq30809 ?Sq30809 ?p1q30809 ?p2q30809 ?_; (case Bq30809 => k_asm); (case Fq30809 => k_asm); (case Xq30809 => k_asm); (case Nq30809 => k_asm); (case Tq30809 => k_asm); (case hkq30809 => first | exact rfl | assumption); (case Uq30809 => k_updF); (case Sq30809 => assumption); (case p1q30809 => first | decide | omega); (case p2q30809 => first | decide | omega); (case hdq30809 => (k_extra "m mine room")); (case huq30809 => (k_extra "m mine room")); k_whole); (try dsimp only); intro r9 t9 o9 h9 tk9 F9 N9 hS9 hr9 hr99))
  exact trivial

theorem row7 : True := by
  w_top off
  exact trivial
/-- the three names -/
def Nm (x : Str) : Prop := x = "a" ∨ x = "b" ∨ x = "c"
theorem one_raw {w : World} {dp un : Nat} {gd : Option (List Code)} {cn : Str} {cs : Scope} {a : Addr} {ccd : Value} {cl : List (Str × Addr)} {outer : List Env} {A₀ : Around} {base h₀ : Heap} {L : Addr} {m mg mb : Str → Option Value}
  {p : Program} {loose : List Str} {mean : ExcName → Option Value} {news : List (Addr × Obj)} {s : Shared} {src nl : Addr} {o : Obj} {t1 t2 t3 : Tok} {n : Nat} {Q E : Value → Shared → Prop}
  (B : Below A₀ base outer h₀) (F : Fr h₀ L s.heap m) (X : (hd.heap_39 w.params).In h₀) (N : News h₀ L s.heap ((nl, listOf #[.str "a" t1, .str "b" t2, .str "c" t3] n) :: (src, o) :: news)) (T : Top p loose mean mg mb h₀) (hk : cs.kind = .function) (hdp : dp + 110 < recursionLimit) (hun : un + 1100 < cLine)
  (hS : Src o) (hne : nl ≠ src) (hne2 : ∀ q ∈ news, q.1 ≠ src)
  (hret : ∀ x t o' h' tk', Fr h₀ L h' m → News h₀ L h' ((src, o') :: news) → Src o' → Nm x → Q (.str x t) { s with heap := h', toks := tk' }) :
  wpAny (model PySem.Challenge.rw_on0180_01.row.prog w) (ktrTop dp un gd cn cs L a ccd cl outer) (call (.ref 159) [.ref src, .ref nl]) Q E s := by
  revert X; k_fill; intro X
  refine wpAny_call ?_
  k_dflt ktr_enter
  k_steps
  obtain rfl | rfl | rfl : r9 = 0 ∨ r9 = 1 ∨ r9 = 2 := by omega
  all_goals k_steps
  · exact hret _ _ _ _ _ (by assumption) (news_of (by assumption) (fun q hq => List.mem_cons_of_mem _ hq)) (by assumption) (.inl rfl)
  · exact hret _ _ _ _ _ (by assumption) (news_of (by assumption) (fun q hq => List.mem_cons_of_mem _ hq)) (by assumption) (.inr (.inl rfl))
  · exact hret _ _ _ _ _ (by assumption) (news_of (by assumption) (fun q hq => List.mem_cons_of_mem _ hq)) (by assumption) (.inr (.inr rfl))
theorem one_spec {w : World} {dp un : Nat} {gd : Option (List Code)} {cn : Str} {cs : Scope} {a : Addr} {ccd : Value} {cl : List (Str × Addr)} {outer : List Env} {A₀ : Around} {base h₀ : Heap} {L : Addr} {m mg mb : Str → Option Value}
  {p : Program} {loose : List Str} {mean : ExcName → Option Value} {news : List (Addr × Obj)} {g : Obj → List (Addr × Obj)} {s : Shared} {src nl : Addr} {o : Obj} {t1 t2 t3 : Tok} {n : Nat} {Q E : Value → Shared → Prop}
  (B : Below A₀ base outer h₀) (F : Fr h₀ L s.heap m) (X : (hd.heap_39 w.params).In h₀) (N : News h₀ L s.heap news) (T : Top p loose mean mg mb h₀) (hk : cs.kind = .function) (hdp : dp + 110 < recursionLimit) (hun : un + 1100 < cLine)
  (hm : (nl, listOf #[.str "a" t1, .str "b" t2, .str "c" t3] n) ∈ news) (U : UpdF src o news g) (hS : Src o)
  (hret : ∀ x t o' h' tk', Fr h₀ L h' m → News h₀ L h' (g o') → Src o' → Nm x → Q (.str x t) { s with heap := h', toks := tk' }) :
  wpAny (model PySem.Challenge.rw_on0180_01.row.prog w) (ktrTop dp un gd cn cs L a ccd cl outer) (call (.ref 159) [.ref src, .ref nl]) Q E s := by
  obtain ⟨rest, h1, h2, h3⟩ := upd_front U
  have hne : nl ≠ src := by
    intro e
    subst e
    have e1 := (N _ hm).1
    have e2 := (N _ ((h2 _).mp (.head _))).1
    obtain ⟨b, mx, t1', t2', n', rfl, _⟩ := hS
    simp only at e1 e2
    rw [e1] at e2
    injection e2 with e2
    injection e2 with _ _ e2
    injection e2 with e2
    have := congrArg (fun x => x[0]?) e2
    simp at this
  exact one_raw (news := rest) B F X (news_of N (fun q hq => by
      rcases List.mem_cons.mp hq with rfl | hq
      · exact hm
      · exact (h2 q).mp hq)) T hk hdp hun hS hne h1 (fun x t o' h' tk' F' N' hS' hx => hret x t o' h' tk' F' (news_of N' (fun q hq => (h3 o' q).mp hq)) hS' hx)
theorem row8 : True := by
  k_with "m call ref" => ((k_here; (with_reducible show wpAny _ _ (call (Value.ref 159) [Value.ref _, Value.ref _]) _ _ _); k_dflt (refine' one_spec ?Bq69662 ?Fq69662 ?Xq69662 ?Nq69662 ?Tq69662 ?hkq69662 ?hdq69662 ?huq69662 ?hmq69662 ?Uq69662 ?Sq69662 ?_; (case Bq69662 => k_asm); (case Fq69662 => k_asm); (case Xq69662 => k_asm); (case Nq69662 => k_asm); (case Tq69662 => k_asm); (case hkq69662 => first | exact rfl | assumption); (case hmq69662 => k_mem); (case Uq69662 => k_updF); (case Sq69662 => assumption); (case hdq69662 => (k_extra "m mine room")); (case huq69662 => (k_extra "m mine room")); k_whole); (try dsimp only); intro x9 t9 o9 h9 tk9 F9 N9 hS9 hx9))
  exact trivial

theorem row9 : True := by
  w_top off
  exact trivial
/-- the program of the row -/
abbrev PR : Program := PySem.Challenge.rw_on0180_01.row.prog
/-- names with ints, each name once -/
def DC (c : List (Str × Int)) : Prop := (∀ q ∈ c, Nm q.1) ∧ (c.map (·.1)).Nodup
theorem nd_len : ∀ {l s : List Str}, l.Nodup → (∀ x ∈ l, x ∈ s) → l.length ≤ s.length
  | [], _, _, _ => Nat.zero_le _
  | x :: l, s, hn, hs => by
    have hx := hs x (.head _)
    have h1 := nd_len (l := l) (s := s.erase x) (List.nodup_cons.mp hn).2 (fun y hy => (List.mem_erase_of_ne (show y ≠ x from fun e => (List.nodup_cons.mp hn).1 (e ▸ hy))).mpr (hs y (.tail _ hy)))
    rw [List.length_erase_of_mem hx] at h1
    have := List.length_pos_of_mem hx
    rw [List.length_cons]
    omega
theorem DC.nil : DC [] := And.intro (fun _ h => nomatch h) List.nodup_nil
theorem DC.len {c : List (Str × Int)} (h : DC c) : c.length ≤ 3 := by
  have := nd_len (l := c.map (·.1)) (s := [("a" : Str), "b", "c"]) h.2 (fun x hx => by
    obtain ⟨q, hq, rfl⟩ := List.mem_map.mp hx
    rcases h.1 q hq with e | e | e <;> rw [e] <;> simp)
  simpa using this
theorem DC.put {c : List (Str × Int)} {x : Str} {v : Int} (h : DC c) (hx : Nm x) : DC (kdpPut c x v) := by
  unfold kdpPut
  split
  · have e : (c.map fun p => if decide (p.1 = x) = true then (p.1, v) else p).map (·.1) = c.map (·.1) := by
      rw [List.map_map]
      refine List.map_congr_left fun q _ => ?_
      simp only [Function.comp]
      split <;> rfl
    refine ⟨fun q hq => ?_, by rw [e]; exact h.2⟩
    have : q.1 ∈ c.map (·.1) := e ▸ List.mem_map_of_mem hq
    obtain ⟨q', hq', e'⟩ := List.mem_map.mp this
    exact e' ▸ h.1 q' hq'
  · rename_i hc
    refine ⟨fun q hq => ?_, ?_⟩
    · rcases List.mem_append.mp hq with hq | hq
      · exact h.1 q hq
      · rw [List.mem_singleton.mp hq]; exact hx
    · rw [List.map_append, List.nodup_append]
      refine ⟨h.2, by simp, fun a ha b hb => ?_⟩
      simp only [List.map_cons, List.map_nil, List.mem_singleton] at hb
      subst hb
      intro e
      subst e
      obtain ⟨q, hq, e⟩ := List.mem_map.mp ha
      exact hc (List.any_eq_true.mpr ⟨q, hq, decide_eq_true e⟩)
/-- a dict of names and ints, at its place -/
def DS (w : World) (d : Addr) (o : Obj) (c : List (Str × Int)) : Prop := (d == sysModules) = false ∧ DC c ∧ ∃ kvs, o.IsDictOf (PySem.strKind PySem.Challenge.rw_on0180_01.row.prog w) kvs ∧ PyProof.V.FlatPairs PyData.str kvs (kdpD c)
/-- a frame's dict -/
abbrev frD (w : World) (t1 t2 t3 : Tok) (ov : Value) (pa oa : Addr) : Obj := dictOf [⟨PyData.keyHash w.params "outer", .str "outer" t1, ov⟩, ⟨PyData.keyHash w.params "params", .str "params" t2, .ref pa⟩, ⟨PyData.keyHash w.params "own", .str "own" t3, .ref oa⟩] 3
/-- the __dict__ of a frame -/
def FD (w : World) (o : Obj) (ov : Value) (pa oa : Addr) : Prop := ∃ (t1 t2 t3 : Tok), o = frD w t1 t2 t3 ov pa oa
section
variable {w : World} {A : Around} {E : Value → Shared → Prop} {s : Shared} {h₀ : Heap} {L d : Addr} {m mg mb : Str → Option Value} {p : Program} {loose : List Str} {mean : ExcName → Option Value} {news : List (Addr × Obj)} {o : Obj} {kvs : List (Str × Value)} {c : List (Str × Int)}
theorem my_dict_of {Q : Value → Shared → Prop} (F : Fr h₀ L s.heap m) (N : News h₀ L s.heap news) (T : Top p loose mean mg mb h₀) (hm : (d, o) ∈ news) (lo : (d == sysModules) = false) (hd : o.IsDictOf (PySem.strKind PySem.Challenge.rw_on0180_01.row.prog w) kvs) (hf : PyProof.V.FlatPairs PyData.str kvs (kdpD c)) (hl : c.length ≤ 1000)
    (k : ∀ d' o' kvs' h', Fr h₀ L h' m → News h₀ L h' ((d', o') :: news) → (d' == sysModules) = false → o'.IsDictOf (PySem.strKind PySem.Challenge.rw_on0180_01.row.prog w) kvs' → PyProof.V.FlatPairs PyData.str kvs' (kdpD c) → (∀ p ∈ news, p.1 < d') → Q (.ref d') { s with heap := h' }) :
    wpAny (model PySem.Challenge.rw_on0180_01.row.prog w) A (call (.type "dict") [.ref d]) Q E s :=
  kt_dict_of F N (modules_low T.nolimit) (TabAt.ofNews N hm lo hd hf) (by rw [kdpD_length, sizeLine_eq]; omega) (fun h' o' kvs' F' N' lo' hd' hf' _ => k _ o' kvs' h' F' N' lo' hd' hf' (fun q hq => Heap.lt_size (N q hq).1))
end
theorem row11 : True := by
  k_with "m call type:dict" => ((k_here; (with_reducible show wpAny _ _ (call (Value.type "dict") [Value.ref _]) _ _ _); k_dflt (refine' my_dict_of ?Fq13643 ?Nq13643 ?Tq13643 ?hmq13643 ?loq13643 ?hdq13643 ?hfq13643 ?hlq13643 ?_; (case Fq13643 => k_asm); (case Nq13643 => k_asm); (case Tq13643 => k_asm); (case hmq13643 => k_mem); (case loq13643 => assumption); (case hdq13643 => assumption); (case hfq13643 => assumption); (case hlq13643 => assumption); k_whole); intro d9 o9 kvs9 h9 F9 N9 lo9 hd9 hf9 l9; (have L9 := l9); k_lt l9))
  exact trivial
theorem mk_raw {w : World} {dp un : Nat} {gd : Option (List Code)} {cn : Str} {cs : Scope} {a : Addr} {ccd : Value} {cl : List (Str × Addr)} {outer : List Env} {A₀ : Around} {base h₀ : Heap} {L : Addr} {m mg mb : Str → Option Value}
  {p : Program} {loose : List Str} {mean : ExcName → Option Value} {news : List (Addr × Obj)} {s : Shared} {pa : Addr} {po : Obj} {kvs : List (Str × Value)} {c : List (Str × Int)} {ov : Value} {Q E : Value → Shared → Prop}
  (B : Below A₀ base outer h₀) (F : Fr h₀ L s.heap m) (X : (hd.heap_39 w.params).In h₀) (N : News h₀ L s.heap ((pa, po) :: news)) (T : Top p loose mean mg mb h₀) (hk : cs.kind = .function) (hdp : dp + 110 < recursionLimit) (hun : un + 1100 < cLine)
  (lo : (pa == sysModules) = false) (hpd : po.IsDictOf (PySem.strKind PySem.Challenge.rw_on0180_01.row.prog w) kvs) (hpf : PyProof.V.FlatPairs PyData.str kvs (kdpD c)) (hcl : c.length ≤ 1000) (hdc : DC c)
  (hret : ∀ fa da pa' oa od po' oo h' tk', Fr h₀ L h' m → News h₀ L h' ((fa, instObj 134 da) :: (da, od) :: (pa', po') :: (oa, oo) :: (pa, po) :: news) → FD w od ov pa' oa → DS w pa' po' c → DS w oa oo [] →
    (∀ q ∈ (pa, po) :: news, q.1 < da) → da < fa → fa < pa' → pa' < oa → Q (.ref fa) { s with heap := h', toks := tk' }) :
  wpAny (model PySem.Challenge.rw_on0180_01.row.prog w) (ktrTop dp un gd cn cs L a ccd cl outer) (call (.ref 134) [ov, .ref pa]) Q E s := by
  k_extra "m mine in"
  k_steps
  rename News h₀ L _ _ => kN
  have nw := news_cons (kN _ (.tail _ (.tail _ (.head _)))) (news_cons (kN _ (.tail _ (.tail _ (.tail _ (.head _))))) (news_cons (kN _ (.tail _ (.head _))) (news_cons (kN _ (.head _)) (news_of (l' := (pa, po) :: news) kN (fun q hq => by simp only [List.mem_cons] at hq ⊢; rcases hq with h | h <;> simp [h])))))
  refine hret _ _ _ _ _ _ _ _ _ (by assumption) nw ⟨_, _, _, rfl⟩ ⟨by assumption, hdc, _, by assumption, by assumption⟩ ⟨by assumption, DC.nil, _, by assumption, by assumption⟩ (fun q hq => ?_) (by k_extra "m mine lt") (by k_extra "m mine lt") (by k_extra "m mine lt")
  rcases List.mem_cons.mp hq with rfl | hq
  · dsimp only
    k_extra "m mine lt"
  · exact allLt_mem (by k_extra "m mine all") q hq
theorem mk_spec {w : World} {dp un : Nat} {gd : Option (List Code)} {cn : Str} {cs : Scope} {a : Addr} {ccd : Value} {cl : List (Str × Addr)} {outer : List Env} {A₀ : Around} {base h₀ : Heap} {L : Addr} {m mg mb : Str → Option Value}
  {p : Program} {loose : List Str} {mean : ExcName → Option Value} {news : List (Addr × Obj)} {s : Shared} {pa : Addr} {po : Obj} {c : List (Str × Int)} {ov : Value} {Q E : Value → Shared → Prop}
  (B : Below A₀ base outer h₀) (F : Fr h₀ L s.heap m) (X : (hd.heap_39 w.params).In h₀) (N : News h₀ L s.heap news) (T : Top p loose mean mg mb h₀) (hk : cs.kind = .function) (hdp : dp + 110 < recursionLimit) (hun : un + 1100 < cLine)
  (hm : (pa, po) ∈ news) (D : DS w pa po c)
  (hret : ∀ fa da pa' oa od po' oo h' tk', Fr h₀ L h' m → News h₀ L h' ((fa, instObj 134 da) :: (da, od) :: (pa', po') :: (oa, oo) :: news) → FD w od ov pa' oa → DS w pa' po' c → DS w oa oo [] →
    (∀ q ∈ news, q.1 < da) → da < fa → fa < pa' → pa' < oa → Q (.ref fa) { s with heap := h', toks := tk' }) :
  wpAny (model PySem.Challenge.rw_on0180_01.row.prog w) (ktrTop dp un gd cn cs L a ccd cl outer) (call (.ref 134) [ov, .ref pa]) Q E s := by
  obtain ⟨lo, hl, kvs, hd, hf⟩ := D
  refine mk_raw (news := news) B F X (news_of N (fun q hq => by rcases List.mem_cons.mp hq with rfl | hq; exact hm; exact hq)) T hk hdp hun lo hd hf (Nat.le_trans hl.len (by decide)) hl (fun fa da pa' oa od po' oo h' tk' F' N' a1 a2 a3 a4 a5 a6 a7 => hret fa da pa' oa od po' oo h' tk' F' (news_of N' (fun q hq => ?_)) a1 a2 a3 (fun q hq => a4 q (List.mem_cons_of_mem _ hq)) a5 a6 a7)
  simp only [List.mem_cons] at hq ⊢
  rcases hq with h | h | h | h | h <;> simp [h]
theorem mk0_spec {w : World} {dp un : Nat} {gd : Option (List Code)} {cn : Str} {cs : Scope} {a : Addr} {ccd : Value} {cl : List (Str × Addr)} {outer : List Env} {A₀ : Around} {base h₀ : Heap} {L : Addr} {m mg mb : Str → Option Value}
  {p : Program} {loose : List Str} {mean : ExcName → Option Value} {news : List (Addr × Obj)} {s : Shared} {ov : Value} {Q E : Value → Shared → Prop}
  (B : Below A₀ base outer h₀) (F : Fr h₀ L s.heap m) (X : (hd.heap_39 w.params).In h₀) (N : News h₀ L s.heap news) (T : Top p loose mean mg mb h₀) (hk : cs.kind = .function) (hdp : dp + 110 < recursionLimit) (hun : un + 1100 < cLine)
  (hret : ∀ fa da pa' oa od po' oo h' tk', Fr h₀ L h' m → News h₀ L h' ((fa, instObj 134 da) :: (da, od) :: (pa', po') :: (oa, oo) :: news) → FD w od ov pa' oa → DS w pa' po' [] → DS w oa oo [] →
    (∀ q ∈ news, q.1 < da) → da < fa → fa < pa' → pa' < oa → Q (.ref fa) { s with heap := h', toks := tk' }) :
  wpAny (model PySem.Challenge.rw_on0180_01.row.prog w) (ktrTop dp un gd cn cs L a ccd cl outer) (call (.ref 134) [ov]) Q E s := by
  k_extra "m mine in"
  k_steps
  rename News h₀ L _ _ => kN
  have nw := news_cons (kN _ (.tail _ (.tail _ (.head _)))) (news_cons (kN _ (.tail _ (.tail _ (.tail _ (.head _))))) (news_cons (kN _ (.tail _ (.head _))) (news_cons (kN _ (.head _)) (news_of (l' := news) kN (fun q hq => by simp only [List.mem_cons]; simp [hq])))))
  exact hret _ _ _ _ _ _ _ _ _ (by assumption) nw ⟨_, _, _, rfl⟩ ⟨by assumption, DC.nil, _, by assumption, by assumption⟩ ⟨by assumption, DC.nil, _, by assumption, by assumption⟩ (by assumption) (by k_extra "m mine lt") (by k_extra "m mine lt") (by k_extra "m mine lt")

theorem row12 : True := by
  k_with "m call ref" => ((k_here; (with_reducible show wpAny _ _ (call (Value.ref 134) [_, Value.ref _]) _ _ _); k_dflt (refine' mk_spec ?Bq9268 ?Fq9268 ?Xq9268 ?Nq9268 ?Tq9268 ?hkq9268 ?hdq9268 ?huq9268 ?hmq9268 ?Dq9268 ?_; (case Bq9268 => k_asm); (case Fq9268 => k_asm); (case Xq9268 => k_asm); (case Nq9268 => k_asm); (case Tq9268 => k_asm); (case hkq9268 => first | exact rfl | assumption); (case hmq9268 => k_mem); (case Dq9268 => assumption); (case hdq9268 => (k_extra "m mine room")); (case huq9268 => (k_extra "m mine room")); k_whole); k_dflt (intro fa9 da9 pa9 oa9 od9 po9 oo9 h9 tk9 F9 N9 FD9 DP9 DO9 l91 l92 l93 l94; (have L9 := l91); k_lt l91; k_lt2 l92; k_lt2 l93; k_lt2 l94; (have DPc9 := DP9); (have DOc9 := DO9); (obtain ⟨lp9, cp9, kp9, ip9, fp9⟩ := DPc9); (obtain ⟨lq9, cq9, kq9, iq9, fq9⟩ := DOc9); (obtain ⟨ta9, tb9, tc9, e9⟩ := FD9); subst e9)))
  k_with "m call ref" => ((k_here; (with_reducible show wpAny _ _ (call (Value.ref 134) [_]) _ _ _); k_dflt (refine' mk0_spec ?Bq93219 ?Fq93219 ?Xq93219 ?Nq93219 ?Tq93219 ?hkq93219 ?hdq93219 ?huq93219 ?_; (case Bq93219 => k_asm); (case Fq93219 => k_asm); (case Xq93219 => k_asm); (case Nq93219 => k_asm); (case Tq93219 => k_asm); (case hkq93219 => first | exact rfl | assumption); (case hdq93219 => (k_extra "m mine room")); (case huq93219 => (k_extra "m mine room")); k_whole); k_dflt (intro fa9 da9 pa9 oa9 od9 po9 oo9 h9 tk9 F9 N9 FD9 DP9 DO9 l91 l92 l93 l94; (have L9 := l91); k_lt l91; k_lt2 l92; k_lt2 l93; k_lt2 l94; (have DPc9 := DP9); (have DOc9 := DO9); (obtain ⟨lp9, cp9, kp9, ip9, fp9⟩ := DPc9); (obtain ⟨lq9, cq9, kq9, iq9, fq9⟩ := DOc9); (obtain ⟨ta9, tb9, tc9, e9⟩ := FD9); subst e9)))
  exact trivial

theorem row13 : True := by
  w_top off
  exact trivial
theorem bind_raw {w : World} {dp un : Nat} {gd : Option (List Code)} {cn : Str} {cs : Scope} {a : Addr} {ccd : Value} {cl : List (Str × Addr)} {outer : List Env} {A₀ : Around} {base h₀ : Heap} {L : Addr} {m mg mb : Str → Option Value}
  {p : Program} {loose : List Str} {mean : ExcName → Option Value} {news : List (Addr × Obj)} {s : Shared} {fa da oa pa : Addr} {od oo : Obj} {kvs : List (Str × Value)} {c : List (Str × Int)} {ov : Value} {x : Str} {t te : Tok} {e : Int} {Q E : Value → Shared → Prop}
  (B : Below A₀ base outer h₀) (F : Fr h₀ L s.heap m) (X : (hd.heap_39 w.params).In h₀) (N : News h₀ L s.heap ((fa, instObj 134 da) :: (da, od) :: (oa, oo) :: news)) (T : Top p loose mean mg mb h₀) (hk : cs.kind = .function) (hdp : dp + 110 < recursionLimit) (hun : un + 1100 < cLine)
  (hfd : FD w od ov pa oa) (lo : (oa == sysModules) = false) (hpd : oo.IsDictOf (PySem.strKind PySem.Challenge.rw_on0180_01.row.prog w) kvs) (hpf : PyProof.V.FlatPairs PyData.str kvs (kdpD c)) (hcl : c.length ≤ 3)
  (n1 : fa ≠ oa) (n2 : da ≠ oa) (n3 : ∀ q ∈ news, q.1 ≠ oa) (hno : kdpHas c x = false)
  (hret : ∀ oo' kvs' h' tk', Fr h₀ L h' m → News h₀ L h' ((fa, instObj 134 da) :: (da, od) :: (oa, oo') :: news) → oo'.IsDictOf (PySem.strKind PySem.Challenge.rw_on0180_01.row.prog w) kvs' → PyProof.V.FlatPairs PyData.str kvs' (kdpD (kdpPut c x e)) → Q .none { s with heap := h', toks := tk' }) :
  wpAny (model PySem.Challenge.rw_on0180_01.row.prog w) (ktrTop dp un gd cn cs L a ccd cl outer) (call (.ref 68) [.ref fa, .str x t, .int e te]) Q E s := by
  obtain ⟨t1, t2, t3, rfl⟩ := hfd
  k_extra "m mine in"
  k_steps
  exact hret _ _ _ _ (by assumption) (by assumption) (by assumption) (by assumption)
/-- a frame's parts, as they lie -/
def FA (w : World) (news : List (Addr × Obj)) (fa da oa pa : Addr) (ov : Value) : Prop := (fa, instObj 134 da) ∈ news ∧ ∃ od, (da, od) ∈ news ∧ FD w od ov pa oa
theorem FA.mono {w : World} {news news' : List (Addr × Obj)} {fa da oa pa : Addr} {ov : Value} (h : FA w news fa da oa pa ov) (hs : ∀ q ∈ news, q ∈ news') : FA w news' fa da oa pa ov :=
  ⟨hs _ h.1, let ⟨od, h1, h2⟩ := h.2; ⟨od, hs _ h1, h2⟩⟩
theorem FA.mk {w : World} {news : List (Addr × Obj)} {fa da oa pa : Addr} {ov : Value} {od : Obj} (h1 : (fa, instObj 134 da) ∈ news) (h2 : (da, od) ∈ news) (h3 : FD w od ov pa oa) : FA w news fa da oa pa ov := ⟨h1, od, h2, h3⟩
theorem row14 : True := by
  k_with "m mine fa" => (first | assumption | exact FA.mk (by k_mem) (by k_mem) (by first | assumption | exact ⟨_, _, _, rfl⟩))
  k_with "m mine ds" => (first | assumption | exact ⟨by assumption, by assumption, _, by assumption, by assumption⟩)
  exact trivial
theorem bind_spec {w : World} {dp un : Nat} {gd : Option (List Code)} {cn : Str} {cs : Scope} {a : Addr} {ccd : Value} {cl : List (Str × Addr)} {outer : List Env} {A₀ : Around} {base h₀ : Heap} {L : Addr} {m mg mb : Str → Option Value}
  {p : Program} {loose : List Str} {mean : ExcName → Option Value} {news : List (Addr × Obj)} {g : Obj → List (Addr × Obj)} {s : Shared} {fa da oa pa : Addr} {oo : Obj} {c : List (Str × Int)} {ov : Value} {x : Str} {t te : Tok} {e : Int} {Q E : Value → Shared → Prop}
  (B : Below A₀ base outer h₀) (F : Fr h₀ L s.heap m) (X : (hd.heap_39 w.params).In h₀) (N : News h₀ L s.heap news) (T : Top p loose mean mg mb h₀) (hk : cs.kind = .function) (hdp : dp + 110 < recursionLimit) (hun : un + 1100 < cLine)
  (hf : FA w news fa da oa pa ov) (U : UpdF oa oo news g) (D : DS w oa oo c) (n1 : fa ≠ oa) (n2 : da ≠ oa) (hno : kdpHas c x = false) (hx : Nm x)
  (hret : ∀ oo' h' tk', Fr h₀ L h' m → News h₀ L h' (g oo') → DS w oa oo' (kdpPut c x e) → Q .none { s with heap := h', toks := tk' }) :
  wpAny (model PySem.Challenge.rw_on0180_01.row.prog w) (ktrTop dp un gd cn cs L a ccd cl outer) (call (.ref 68) [.ref fa, .str x t, .int e te]) Q E s := by
  obtain ⟨rest, h1, h2, h3⟩ := upd_front U
  obtain ⟨lo, hc, kvs, hd, hff⟩ := D
  obtain ⟨f1, od, f2, f3⟩ := hf
  refine bind_raw (news := rest) (c := c) B F X (news_cons (N _ f1) (news_cons (N _ f2) (news_of N (fun q hq => (h2 q).mp hq)))) T hk hdp hun f3 lo hd hff hc.len n1 n2 h1 hno (fun oo' kvs' h' tk' F' N' a1 a2 => hret oo' h' tk' F' (news_of N' (fun q hq => ?_)) ⟨lo, hc.put hx, kvs', a1, a2⟩)
  exact List.mem_cons_of_mem _ (List.mem_cons_of_mem _ ((h3 oo' q).mp hq))
theorem row15 : True := by
  k_with "m call ref" => ((k_here; (with_reducible show wpAny _ _ (call (Value.ref 68) [Value.ref _, Value.str _ _, Value.int _ _]) _ _ _); k_dflt (refine' bind_spec ?Bq10247 ?Fq10247 ?Xq10247 ?Nq10247 ?Tq10247 ?hkq10247 ?hdq10247 ?huq10247 ?fq10247 ?Uq10247 ?Dq10247 ?n1q10247 ?n2q10247 ?noq10247 ?xq10247 ?_; (case Bq10247 => k_asm); (case Fq10247 => k_asm); (case Xq10247 => k_asm); (case Nq10247 => k_asm); (case Tq10247 => k_asm); (case hkq10247 => first | exact rfl | assumption); (case fq10247 => k_extra "m mine fa"); (case Uq10247 => k_updF); (case Dq10247 => k_extra "m mine ds"); (case n1q10247 => first | assumption | omega); (case n2q10247 => first | assumption | omega); (case noq10247 => first | assumption | rfl); (case xq10247 => assumption); (case hdq10247 => (k_extra "m mine room")); (case huq10247 => (k_extra "m mine room")); k_whole); (try dsimp only); intro o9 h9 tk9 F9 N9 D9))
  exact trivial

/-- what a new frame leaves -/
def NewFr (w : World) (news led : List (Addr × Obj)) (fa' da' pa' oa' : Addr) (od' po' oo' : Obj) (ov : Value) (cp c : List (Str × Int)) : Prop :=
  (fa', instObj 134 da') ∈ led ∧ (da', od') ∈ led ∧ FD w od' ov pa' oa' ∧ (pa', po') ∈ led ∧ (oa', oo') ∈ led ∧ (∀ q ∈ news, q ∈ led) ∧ DS w pa' po' cp ∧ DS w oa' oo' c ∧ (∀ q ∈ news, q.1 < da') ∧ @LT.lt Nat _ da' fa' ∧ @LT.lt Nat _ fa' pa' ∧ @LT.lt Nat _ pa' oa'
theorem NewFr.mk {w : World} {news led : List (Addr × Obj)} {fa' da' pa' oa' : Addr} {po' oo' : Obj} {ov : Value} {cp c : List (Str × Int)} {t1 t2 t3 : Tok} (h1 : (fa', instObj 134 da') ∈ led)
    (h2 : (da', frD w t1 t2 t3 ov pa' oa') ∈ led) (h4 : (pa', po') ∈ led) (h5 : (oa', oo') ∈ led) (h6 : ∀ q ∈ news, q ∈ led) (h7 : DS w pa' po' cp) (h8 : DS w oa' oo' c) (h9 : ∀ q ∈ news, q.1 < da') (h10 : @LT.lt Nat _ da' fa') (h11 : @LT.lt Nat _ fa' pa') (h12 : @LT.lt Nat _ pa' oa') :
    NewFr w news led fa' da' pa' oa' (frD w t1 t2 t3 ov pa' oa') po' oo' ov cp c := ⟨h1, h2, ⟨_, _, _, rfl⟩, h4, h5, h6, h7, h8, h9, h10, h11, h12⟩
theorem row16 : True := by
  k_with "m mine sub" => ((intro q9 hq9; repeat (first | exact hq9 | apply List.mem_cons_of_mem)))
  k_with "m mine newfr" => ((refine' NewFr.mk ?a1q29452 ?a2q29452 ?a4q29452 ?a5q29452 ?a6q29452 ?a7q29452 ?a8q29452 ?a9q29452 ?a10q29452 ?a11q29452 ?a12q29452; (case a1q29452 => k_mem); (case a2q29452 => k_mem); (case a4q29452 => k_mem); (case a5q29452 => k_mem); (case a6q29452 => k_extra "m mine sub"); (case a7q29452 => k_extra "m mine ds"); (case a8q29452 => k_extra "m mine ds"); (case a9q29452 => first | assumption | exact allLt_mem (by k_extra "m mine all")); (case a10q29452 => omega); (case a11q29452 => omega); (case a12q29452 => omega)))
  exact trivial
theorem bound_raw {w : World} {dp un : Nat} {gd : Option (List Code)} {cn : Str} {cs : Scope} {a : Addr} {ccd : Value} {cl : List (Str × Addr)} {outer : List Env} {A₀ : Around} {base h₀ : Heap} {L : Addr} {m mg mb : Str → Option Value}
  {p : Program} {loose : List Str} {mean : ExcName → Option Value} {news : List (Addr × Obj)} {s : Shared} {fa da oa pa : Addr} {oo po : Obj} {c cp : List (Str × Int)} {ov : Value} {x : Str} {t te t1 t2 t3 : Tok} {e : Int} {Q E : Value → Shared → Prop}
  (B : Below A₀ base outer h₀) (F : Fr h₀ L s.heap m) (X : (hd.heap_39 w.params).In h₀) (N : News h₀ L s.heap ((fa, instObj 134 da) :: (da, frD w t1 t2 t3 ov pa oa) :: (oa, oo) :: (pa, po) :: news)) (T : Top p loose mean mg mb h₀) (hk : cs.kind = .function) (hdp : dp + 120 < recursionLimit) (hun : un + 1200 < cLine)
  (ho : handedIn ov = true) (D : DS w oa oo c) (DP : DS w pa po cp) (hno : kdpHas c x = false) (hx : Nm x)
  (hret : ∀ {fa' da' pa' oa' : Addr} {od' po' oo' : Obj} {led' : List (Addr × Obj)} {h' : Heap} {tk' : Tok}, Fr h₀ L h' m → News h₀ L h' led' → NewFr w news led' fa' da' pa' oa' od' po' oo' ov cp (kdpPut c x e) → Q (.ref fa') { s with heap := h', toks := tk' }) :
  wpAny (model PySem.Challenge.rw_on0180_01.row.prog w) (ktrTop dp un gd cn cs L a ccd cl outer) (call (.ref 75) [.ref fa, .str x t, .int e te]) Q E s := by
  have Dc := D
  obtain ⟨lo, hc, kvs, hd, hff⟩ := Dc
  have hcl := Nat.le_trans hc.len (show 3 ≤ 1000 by decide)
  have hcl2 := hc.len
  have hcp := hc.put (v := e) hx
  k_extra "m mine in"
  k_steps
  refine' hret ?F ?N ?nf
  case F => assumption
  case N => assumption
  case nf => k_extra "m mine newfr"
theorem bound_spec {w : World} {dp un : Nat} {gd : Option (List Code)} {cn : Str} {cs : Scope} {a : Addr} {ccd : Value} {cl : List (Str × Addr)} {outer : List Env} {A₀ : Around} {base h₀ : Heap} {L : Addr} {m mg mb : Str → Option Value}
  {p : Program} {loose : List Str} {mean : ExcName → Option Value} {news : List (Addr × Obj)} {s : Shared} {fa da oa pa : Addr} {oo po : Obj} {c cp : List (Str × Int)} {ov : Value} {x : Str} {t te : Tok} {e : Int} {Q E : Value → Shared → Prop}
  (B : Below A₀ base outer h₀) (F : Fr h₀ L s.heap m) (X : (hd.heap_39 w.params).In h₀) (N : News h₀ L s.heap news) (T : Top p loose mean mg mb h₀) (hk : cs.kind = .function) (hdp : dp + 120 < recursionLimit) (hun : un + 1200 < cLine)
  (hf : FA w news fa da oa pa ov) (ho : handedIn ov = true) (h1 : (oa, oo) ∈ news) (D : DS w oa oo c) (h2 : (pa, po) ∈ news) (DP : DS w pa po cp) (hno : kdpHas c x = false) (hx : Nm x)
  (hret : ∀ fa' da' pa' oa' od' po' oo' h' tk', Fr h₀ L h' m → News h₀ L h' ((fa', instObj 134 da') :: (da', od') :: (pa', po') :: (oa', oo') :: news) → FD w od' ov pa' oa' → DS w pa' po' cp → DS w oa' oo' (kdpPut c x e) →
    (∀ q ∈ news, q.1 < da') → da' < fa' → fa' < pa' → pa' < oa' → Q (.ref fa') { s with heap := h', toks := tk' }) :
  wpAny (model PySem.Challenge.rw_on0180_01.row.prog w) (ktrTop dp un gd cn cs L a ccd cl outer) (call (.ref 75) [.ref fa, .str x t, .int e te]) Q E s := by
  obtain ⟨f1, od, f2, t1, t2, t3, rfl⟩ := hf
  refine bound_raw (news := news) (oa := oa) (pa := pa) B F X (news_cons (N _ f1) (news_cons (N _ f2) (news_cons (N _ h1) (news_cons (N _ h2) N)))) T hk hdp hun ho D DP hno hx (fun {fa' da' pa' oa' od' po' oo' led' h' tk'} F' N' n => ?_)
  obtain ⟨a1, a2, a3, a4, a5, a6, a7, a8, a9, a10, a11, a12⟩ := n
  exact hret fa' da' pa' oa' od' po' oo' h' tk' F' (news_cons (N' _ a1) (news_cons (N' _ a2) (news_cons (N' _ a4) (news_cons (N' _ a5) (news_of N' a6))))) a3 a7 a8 a9 a10 a11 a12

theorem row17 : True := by
  w_top off
  exact trivial
theorem row18 : True := by
  k_with "m call ref" => ((k_here; (with_reducible show wpAny _ _ (call (Value.ref 75) [Value.ref _, Value.str _ _, Value.int _ _]) _ _ _); k_dflt (refine' bound_spec ?Bq39938 ?Fq39938 ?Xq39938 ?Nq39938 ?Tq39938 ?hkq39938 ?hdq39938 ?huq39938 ?fq39938 ?oq39938 ?h1q39938 ?Dq39938 ?h2q39938 ?DPq39938 ?noq39938 ?xq39938 ?_; (case Bq39938 => k_asm); (case Fq39938 => k_asm); (case Xq39938 => k_asm); (case Nq39938 => k_asm); (case Tq39938 => k_asm); (case hkq39938 => first | exact rfl | assumption); (case fq39938 => k_extra "m mine fa"); (case oq39938 => first | assumption | exact rfl); (case h1q39938 => k_mem); (case Dq39938 => k_extra "m mine ds"); (case h2q39938 => k_mem); (case DPq39938 => k_extra "m mine ds"); (case noq39938 => first | assumption | rfl); (case xq39938 => assumption); (case hdq39938 => (k_extra "m mine room")); (case huq39938 => (k_extra "m mine room")); k_whole); (try dsimp only); intro fa9 da9 pa9 oa9 od9 po9 oo9 h9 tk9 F9 N9 FD9 DP9 DO9 l91 l92 l93 l94; k_dflt ((have L9 := l91); k_lt l91; k_lt2 l92; k_lt2 l93; k_lt2 l94; (have DPc9 := DP9); (have DOc9 := DO9); (obtain ⟨lp9, cp9, kp9, ip9, fp9⟩ := DPc9); (obtain ⟨lq9, cq9, kq9, iq9, fq9⟩ := DOc9); (obtain ⟨ta9, tb9, tc9, e9⟩ := FD9); subst e9)))
  exact trivial

theorem handed_raw {w : World} {dp un : Nat} {gd : Option (List Code)} {cn : Str} {cs : Scope} {a : Addr} {ccd : Value} {cl : List (Str × Addr)} {outer : List Env} {A₀ : Around} {base h₀ : Heap} {L : Addr} {m mg mb : Str → Option Value}
  {p : Program} {loose : List Str} {mean : ExcName → Option Value} {s : Shared} {Q E : Value → Shared → Prop} {rest : List (Addr × Obj)} {fa da oa pa : Addr} {po : Obj} {cp : List (Str × Int)} {ov : Value} {x : Str} {t t1 t2 t3 : Tok}
  (B : Below A₀ base outer h₀) (F : Fr h₀ L s.heap m) (X : (hd.heap_39 w.params).In h₀) (N : News h₀ L s.heap ((fa, instObj 134 da) :: (da, frD w t1 t2 t3 ov pa oa) :: (pa, po) :: rest)) (T : Top p loose mean mg mb h₀) (hk : cs.kind = .function) (hdp : dp + 110 < recursionLimit) (hun : un + 1100 < cLine)
  (DP : DS w pa po cp) (hret : ∀ {h' tk'}, Fr h₀ L h' m → News h₀ L h' rest → Q (.bool (kdpHas cp x)) { s with heap := h', toks := tk' }) :
  wpAny (model PySem.Challenge.rw_on0180_01.row.prog w) (ktrTop dp un gd cn cs L a ccd cl outer) (call (.ref 82) [.ref fa, .str x t]) Q E s := by
  obtain ⟨lo, hc, kvs, hd, hff⟩ := DP
  k_extra "m mine in"
  k_steps
  exact hret (by assumption) (news_of (by assumption) (fun q hq => by simp [hq]))
theorem handed_spec {w : World} {dp un : Nat} {gd : Option (List Code)} {cn : Str} {cs : Scope} {a : Addr} {ccd : Value} {cl : List (Str × Addr)} {outer : List Env} {A₀ : Around} {base h₀ : Heap} {L : Addr} {m mg mb : Str → Option Value}
  {p : Program} {loose : List Str} {mean : ExcName → Option Value} {news : List (Addr × Obj)} {s : Shared} {Q E : Value → Shared → Prop} {fa da oa pa : Addr} {po : Obj} {cp : List (Str × Int)} {ov : Value} {x : Str} {t : Tok}
  (B : Below A₀ base outer h₀) (F : Fr h₀ L s.heap m) (X : (hd.heap_39 w.params).In h₀) (N : News h₀ L s.heap news) (T : Top p loose mean mg mb h₀) (hk : cs.kind = .function) (hdp : dp + 110 < recursionLimit) (hun : un + 1100 < cLine)
  (hf : FA w news fa da oa pa ov) (h2 : (pa, po) ∈ news) (DP : DS w pa po cp) (hret : ∀ h' tk', Fr h₀ L h' m → News h₀ L h' news → Q (.bool (kdpHas cp x)) { s with heap := h', toks := tk' }) :
  wpAny (model PySem.Challenge.rw_on0180_01.row.prog w) (ktrTop dp un gd cn cs L a ccd cl outer) (call (.ref 82) [.ref fa, .str x t]) Q E s := by
  obtain ⟨f1, od, f2, t1, t2, t3, rfl⟩ := hf
  exact handed_raw (rest := news) B F X (news_cons (N _ f1) (news_cons (N _ f2) (news_cons (N _ h2) N))) T hk hdp hun DP (fun {h' tk'} F' N' => hret h' tk' F' N')
theorem row19 : True := by
  k_with "m call ref" => ((k_here; (with_reducible show wpAny _ _ (call (Value.ref 82) [Value.ref _, Value.str _ _]) _ _ _); k_dflt (refine' handed_spec ?Bq53990 ?Fq53990 ?Xq53990 ?Nq53990 ?Tq53990 ?hkq53990 ?hdq53990 ?huq53990 ?fq53990 ?h2q53990 ?DPq53990 ?_; (case Bq53990 => k_asm); (case Fq53990 => k_asm); (case Xq53990 => k_asm); (case Nq53990 => k_asm); (case Tq53990 => k_asm); (case hkq53990 => first | exact rfl | assumption); (case fq53990 => k_extra "m mine fa"); (case h2q53990 => k_mem); (case DPq53990 => k_extra "m mine ds"); (case hdq53990 => (k_extra "m mine room")); (case huq53990 => (k_extra "m mine room")); k_whole); (try dsimp only); intro h9 tk9 F9 N9))
  exact trivial

theorem bparam_raw {w : World} {dp un : Nat} {gd : Option (List Code)} {cn : Str} {cs : Scope} {a : Addr} {ccd : Value} {cl : List (Str × Addr)} {outer : List Env} {A₀ : Around} {base h₀ : Heap} {L : Addr} {m mg mb : Str → Option Value}
  {p : Program} {loose : List Str} {mean : ExcName → Option Value} {s : Shared} {Q E : Value → Shared → Prop} {rest : List (Addr × Obj)} {fa da oa pa : Addr} {oo po : Obj} {c cp : List (Str × Int)} {ov : Value} {x : Str} {t te t1 t2 t3 : Tok} {e : Int}
  (B : Below A₀ base outer h₀) (F : Fr h₀ L s.heap m) (X : (hd.heap_39 w.params).In h₀) (N : News h₀ L s.heap ((fa, instObj 134 da) :: (da, frD w t1 t2 t3 ov pa oa) :: (pa, po) :: (oa, oo) :: rest)) (T : Top p loose mean mg mb h₀) (hk : cs.kind = .function) (hdp : dp + 120 < recursionLimit) (hun : un + 1200 < cLine)
  (D : DS w oa oo c) (DP : DS w pa po cp) (n1 : fa ≠ oa) (n2 : da ≠ oa) (n3 : pa ≠ oa) (n4 : ∀ q ∈ rest, q.1 ≠ oa) (hno : kdpHas c x = false) (hx : Nm x)
  (hret : ∀ {oo' h' tk'}, Fr h₀ L h' m → News h₀ L h' ((oa, oo') :: rest) → DS w oa oo' (kdpPut c x (kdpLook cp x e)) → Q .none { s with heap := h', toks := tk' }) :
  wpAny (model PySem.Challenge.rw_on0180_01.row.prog w) (ktrTop dp un gd cn cs L a ccd cl outer) (call (.ref 89) [.ref fa, .str x t, .int e te]) Q E s := by
  obtain ⟨lo, hc, kvs, hd, hff⟩ := DP
  k_extra "m mine in"
  k_steps
  refine' hret ?F ?N ?D
  case F => assumption
  case D => assumption
  case N => exact news_of (by assumption) (fun q hq => by simp only [List.mem_cons] at hq ⊢; rcases hq with h | h <;> simp [h])
theorem bparam_spec {w : World} {dp un : Nat} {gd : Option (List Code)} {cn : Str} {cs : Scope} {a : Addr} {ccd : Value} {cl : List (Str × Addr)} {outer : List Env} {A₀ : Around} {base h₀ : Heap} {L : Addr} {m mg mb : Str → Option Value}
  {p : Program} {loose : List Str} {mean : ExcName → Option Value} {news : List (Addr × Obj)} {s : Shared} {Q E : Value → Shared → Prop} {g : Obj → List (Addr × Obj)} {fa da oa pa : Addr} {oo po : Obj} {c cp : List (Str × Int)} {ov : Value} {x : Str} {t te : Tok} {e : Int}
  (B : Below A₀ base outer h₀) (F : Fr h₀ L s.heap m) (X : (hd.heap_39 w.params).In h₀) (N : News h₀ L s.heap news) (T : Top p loose mean mg mb h₀) (hk : cs.kind = .function) (hdp : dp + 120 < recursionLimit) (hun : un + 1200 < cLine)
  (hf : FA w news fa da oa pa ov) (h2 : (pa, po) ∈ news) (DP : DS w pa po cp) (U : UpdF oa oo news g) (D : DS w oa oo c) (n1 : fa ≠ oa) (n2 : da ≠ oa) (n3 : pa ≠ oa) (hno : kdpHas c x = false) (hx : Nm x)
  (hret : ∀ oo' h' tk', Fr h₀ L h' m → News h₀ L h' (g oo') → DS w oa oo' (kdpPut c x (kdpLook cp x e)) → Q .none { s with heap := h', toks := tk' }) :
  wpAny (model PySem.Challenge.rw_on0180_01.row.prog w) (ktrTop dp un gd cn cs L a ccd cl outer) (call (.ref 89) [.ref fa, .str x t, .int e te]) Q E s := by
  obtain ⟨rest, h1, h3, h4⟩ := upd_front U
  obtain ⟨f1, od, f2, t1, t2, t3, rfl⟩ := hf
  exact bparam_raw (rest := rest) B F X (news_cons (N _ f1) (news_cons (N _ f2) (news_cons (N _ h2) (news_of N (fun q hq => (h3 q).mp hq))))) T hk hdp hun D DP n1 n2 n3 h1 hno hx (fun {oo' h' tk'} F' N' D' => hret oo' h' tk' F' (news_of N' (fun q hq => (h4 oo' q).mp hq)) D')
theorem row20 : True := by
  k_with "m call ref" => ((k_here; (with_reducible show wpAny _ _ (call (Value.ref 89) [Value.ref _, Value.str _ _, Value.int _ _]) _ _ _); k_dflt (refine' bparam_spec ?Bq9492 ?Fq9492 ?Xq9492 ?Nq9492 ?Tq9492 ?hkq9492 ?hdq9492 ?huq9492 ?fq9492 ?h2q9492 ?DPq9492 ?Uq9492 ?Dq9492 ?n1q9492 ?n2q9492 ?n3q9492 ?noq9492 ?xq9492 ?_; (case Bq9492 => k_asm); (case Fq9492 => k_asm); (case Xq9492 => k_asm); (case Nq9492 => k_asm); (case Tq9492 => k_asm); (case hkq9492 => first | exact rfl | assumption); (case fq9492 => k_extra "m mine fa"); (case h2q9492 => k_mem); (case DPq9492 => k_extra "m mine ds"); (case Uq9492 => k_updF); (case Dq9492 => k_extra "m mine ds"); (case n1q9492 => first | assumption | omega); (case n2q9492 => first | assumption | omega); (case n3q9492 => first | assumption | omega); (case noq9492 => first | assumption | rfl); (case xq9492 => assumption); (case hdq9492 => (k_extra "m mine room")); (case huq9492 => (k_extra "m mine room")); k_whole); (try dsimp only); intro o9 h9 tk9 F9 N9 D9))
  exact trivial

theorem inner_raw {w : World} {dp un : Nat} {gd : Option (List Code)} {cn : Str} {cs : Scope} {a : Addr} {ccd : Value} {cl : List (Str × Addr)} {outer : List Env} {A₀ : Around} {base h₀ : Heap} {L : Addr} {m mg mb : Str → Option Value}
  {p : Program} {loose : List Str} {mean : ExcName → Option Value} {news : List (Addr × Obj)} {s : Shared} {Q E : Value → Shared → Prop} {fa da : Addr}
  (B : Below A₀ base outer h₀) (F : Fr h₀ L s.heap m) (X : (hd.heap_39 w.params).In h₀) (N : News h₀ L s.heap ((fa, instObj 134 da) :: news)) (T : Top p loose mean mg mb h₀) (hk : cs.kind = .function) (hdp : dp + 120 < recursionLimit) (hun : un + 1200 < cLine)
  (hret : ∀ {fa' da' pa' oa' od' po' oo' led' h' tk'}, Fr h₀ L h' m → News h₀ L h' led' → NewFr w news led' fa' da' pa' oa' od' po' oo' (.ref fa) [] [] → Q (.ref fa') { s with heap := h', toks := tk' }) :
  wpAny (model PySem.Challenge.rw_on0180_01.row.prog w) (ktrTop dp un gd cn cs L a ccd cl outer) (call (.ref 117) [.ref fa]) Q E s := by
  k_extra "m mine in"
  k_steps
  refine' hret ?F ?N ?nf
  case F => assumption
  case N => assumption
  case nf => k_extra "m mine newfr"
theorem inner_spec {w : World} {dp un : Nat} {gd : Option (List Code)} {cn : Str} {cs : Scope} {a : Addr} {ccd : Value} {cl : List (Str × Addr)} {outer : List Env} {A₀ : Around} {base h₀ : Heap} {L : Addr} {m mg mb : Str → Option Value}
  {p : Program} {loose : List Str} {mean : ExcName → Option Value} {news : List (Addr × Obj)} {s : Shared} {Q E : Value → Shared → Prop} {fa da : Addr}
  (B : Below A₀ base outer h₀) (F : Fr h₀ L s.heap m) (X : (hd.heap_39 w.params).In h₀) (N : News h₀ L s.heap news) (T : Top p loose mean mg mb h₀) (hk : cs.kind = .function) (hdp : dp + 120 < recursionLimit) (hun : un + 1200 < cLine)
  (hf : (fa, instObj 134 da) ∈ news)
  (hret : ∀ fa' da' pa' oa' od' po' oo' h' tk', Fr h₀ L h' m → News h₀ L h' ((fa', instObj 134 da') :: (da', od') :: (pa', po') :: (oa', oo') :: news) → FD w od' (.ref fa) pa' oa' → DS w pa' po' [] → DS w oa' oo' [] →
    (∀ q ∈ news, q.1 < da') → da' < fa' → fa' < pa' → pa' < oa' → Q (.ref fa') { s with heap := h', toks := tk' }) :
  wpAny (model PySem.Challenge.rw_on0180_01.row.prog w) (ktrTop dp un gd cn cs L a ccd cl outer) (call (.ref 117) [.ref fa]) Q E s := by
  refine inner_raw (news := news) B F X (news_cons (N _ hf) N) T hk hdp hun (fun {fa' da' pa' oa' od' po' oo' led' h' tk'} F' N' n => ?_)
  obtain ⟨a1, a2, a3, a4, a5, a6, a7, a8, a9, a10, a11, a12⟩ := n
  exact hret fa' da' pa' oa' od' po' oo' h' tk' F' (news_cons (N' _ a1) (news_cons (N' _ a2) (news_cons (N' _ a4) (news_cons (N' _ a5) (news_of N' a6))))) a3 a7 a8 a9 a10 a11 a12
theorem row21 : True := by
  k_with "m call ref" => ((k_here; (with_reducible show wpAny _ _ (call (Value.ref 117) [Value.ref _]) _ _ _); k_dflt (refine' inner_spec ?Bq4857 ?Fq4857 ?Xq4857 ?Nq4857 ?Tq4857 ?hkq4857 ?hdq4857 ?huq4857 ?fq4857 ?_; (case Bq4857 => k_asm); (case Fq4857 => k_asm); (case Xq4857 => k_asm); (case Nq4857 => k_asm); (case Tq4857 => k_asm); (case hkq4857 => first | exact rfl | assumption); (case fq4857 => k_mem); (case hdq4857 => (k_extra "m mine room")); (case huq4857 => (k_extra "m mine room")); k_whole); (try dsimp only); intro fa9 da9 pa9 oa9 od9 po9 oo9 h9 tk9 F9 N9 FD9 DP9 DO9 l91 l92 l93 l94; k_dflt ((have L9 := l91); k_lt l91; k_lt2 l92; k_lt2 l93; k_lt2 l94; (have DPc9 := DP9); (have DOc9 := DO9); (obtain ⟨lp9, cp9, kp9, ip9, fp9⟩ := DPc9); (obtain ⟨lq9, cq9, kq9, iq9, fq9⟩ := DOc9); (obtain ⟨ta9, tb9, tc9, e9⟩ := FD9); subst e9)))
  exact trivial

theorem row22 : True := by
  w_top off
  exact trivial

/-- a chain of frames, as it lies: each frame's place and what it binds -/
inductive Chain (w : World) (news : List (Addr × Obj)) : Value → List (Addr × List (Str × Int)) → Prop
  | nil : Chain w news .none []
  | cons {fa da oa pa : Addr} {ov : Value} {oo : Obj} {c : List (Str × Int)} {l : List (Addr × List (Str × Int))} : FA w news fa da oa pa ov → (oa, oo) ∈ news → DS w oa oo c → Chain w news ov l → Chain w news (.ref fa) ((fa, c) :: l)
theorem Chain.mono {w : World} {news news' : List (Addr × Obj)} {v : Value} {l : List (Addr × List (Str × Int))} (h : Chain w news v l) (hs : ∀ q ∈ news, q ∈ news') : Chain w news' v l := by
  induction h with
  | nil => exact .nil
  | cons a b c _ ih => exact .cons (a.mono hs) (hs _ b) c ih
theorem Chain.handed {w : World} {news : List (Addr × Obj)} {v : Value} {l : List (Addr × List (Str × Int))} (h : Chain w news v l) : handedIn v = true := by cases h <;> rfl
/-- the innermost frame of a chain that binds a name -/
def holdV (x : Str) : List (Addr × List (Str × Int)) → Value
  | [] => .none
  | (f, c) :: l => if kdpHas c x then .ref f else holdV x l
theorem holdV_hit {x : Str} {f : Addr} {c : List (Str × Int)} {l : List (Addr × List (Str × Int))} (h : kdpHas c x = true) : holdV x ((f, c) :: l) = .ref f := by unfold holdV; rw [if_pos h]
theorem holdV_miss {x : Str} {f : Addr} {c : List (Str × Int)} {l : List (Addr × List (Str × Int))} (h : kdpHas c x = false) : holdV x ((f, c) :: l) = holdV x l := by
  conv => lhs; unfold holdV
  rw [if_neg (by rw [h]; decide)]

section
theorem row24 : True := by
  k_with "m exec" => ((fail_if_success (k_extra "off s23")); (((with_reducible show wpAny _ _ (exec (Stmt.While _ _ _ _) _) _ _ _); k_dflt (refine' kwd_while0 (Rel := Chain w) (y := "frame") (d₀ := l) [] List.length (fun d₀ d => holdV x d₀ = holdV x d) ?Fq44151 ?Nq44151 ?hyq44151 ?hrq44151 ?hiq44151 (Stay.out ?turn) ?hEq44151; (case Fq44151 => k_asm); (case Nq44151 => k_asm); (case hyq44151 => exact rfl); (case hrq44151 => assumption); (case hiq44151 => exact rfl); (case hEq44151 => passes_own)))))
  exact trivial
theorem holder_spec {w : World} {dp un : Nat} {gd : Option (List Code)} {cn : Str} {cs : Scope} {a : Addr} {ccd : Value} {cl : List (Str × Addr)} {outer : List Env} {A₀ : Around} {base h₀ : Heap} {L : Addr} {m mg mb : Str → Option Value}
  {p : Program} {loose : List Str} {mean : ExcName → Option Value} {news : List (Addr × Obj)} {s : Shared} {Q E : Value → Shared → Prop} {l : List (Addr × List (Str × Int))} {fa : Addr} {x : Str} {t : Tok}
  (B : Below A₀ base outer h₀) (F : Fr h₀ L s.heap m) (X : (hd.heap_39 w.params).In h₀) (N : News h₀ L s.heap news) (T : Top p loose mean mg mb h₀) (hk : cs.kind = .function) (hdp : dp + 120 < recursionLimit) (hun : un + 1200 < cLine)
  (hC : Chain w news (.ref fa) l)
  (hret : ∀ h' tk', Fr h₀ L h' m → News h₀ L h' news → Q (holdV x l) { s with heap := h', toks := tk' }) :
  wpAny (model PySem.Challenge.rw_on0180_01.row.prog w) (ktrTop dp un gd cn cs L a ccd cl outer) (call (.ref 96) [.ref fa, .str x t]) Q E s := by
  k_extra "m mine in"
  k_steps
  case turn =>
    intro v d u h tk hR hI F9 N9
    cases hR with
    | nil =>
      k_steps
      have e : holdV x l = .none := hI
      rw [e] at hret
      exact hret _ _ (by assumption) (by assumption)
    | @cons fb db ob pb ovb oob cb lb f1 f2 f3 f4 =>
      obtain ⟨g1, od, g2, t1, t2, t3, rfl⟩ := f1
      obtain ⟨lo, hc, kvs, hd, hff⟩ := f3
      have N8 := news_cons (N9 _ g1) (news_cons (N9 _ g2) (news_cons (N9 _ f2) N9))
      have ho := f4.handed
      k_steps
      · have e : holdV x l = .ref fb := hI.trans (holdV_hit (by assumption))
        rw [e] at hret
        exact hret _ _ (by assumption) (news_of (by assumption) (fun q hq => by simp [hq]))
      · have e : holdV x l = holdV x lb := hI.trans (holdV_miss (by assumption))
        exact KwdEnd0.intro (by assumption) (by assumption) (fun q hq => by simp [hq]) rfl f4 e (Nat.lt_succ_self _) (fun y h1 _ => by simp [h1])
end
theorem row25 : True := by
  k_with "off s23" => skip
  exact trivial

theorem row26 : True := by
  w_top off
  exact trivial

theorem row27 : True := by
  k_with "m mine chain" => (first | assumption | exact Chain.mono (by assumption) (by k_extra "m mine sub"))
  exact trivial
theorem holdV_or (x : Str) : ∀ l : List (Addr × List (Str × Int)), holdV x l = .none ∨ ∃ f, holdV x l = .ref f
  | [] => .inl rfl
  | (f, c) :: l => by
    unfold holdV
    split
    · exact .inr ⟨f, rfl⟩
    · exact holdV_or x l
/-- is a name bound in a chain -/
def bndV (x : Str) (l : List (Addr × List (Str × Int))) : Bool := l.any fun q => kdpHas q.2 x
/-- the value of a name in a chain -/
def valV (x : Str) : List (Addr × List (Str × Int)) → Int
  | [] => 0
  | (_, c) :: l => if kdpHas c x then kdpLook c x 0 else valV x l
theorem valV_miss {x : Str} {f : Addr} {c : List (Str × Int)} {l : List (Addr × List (Str × Int))} (h : kdpHas c x = false) : valV x ((f, c) :: l) = valV x l := by
  conv => lhs; unfold valV
  rw [if_neg (by rw [h]; decide)]
theorem bndV_none {x : Str} : ∀ {l : List (Addr × List (Str × Int))}, holdV x l = .none → bndV x l = false
  | [], _ => rfl
  | (f, c) :: l, h => by
    cases q : kdpHas c x with
    | true => rw [holdV_hit q] at h; cases h
    | false =>
      rw [holdV_miss q] at h
      show (kdpHas c x || bndV x l) = false
      rw [q, bndV_none h]; rfl
theorem bndV_ref {x : Str} {f : Addr} : ∀ {l : List (Addr × List (Str × Int))}, holdV x l = .ref f → bndV x l = true
  | [], h => by cases h
  | (f', c) :: l, h => by
    show (kdpHas c x || bndV x l) = true
    cases q : kdpHas c x with
    | true => rfl
    | false =>
      rw [holdV_miss q] at h
      rw [bndV_ref h]; rfl
theorem Chain.hit {w : World} {news : List (Addr × Obj)} {v : Value} {l : List (Addr × List (Str × Int))} {x : Str} {f : Addr} (h : Chain w news v l) (e : holdV x l = .ref f) :
    ∃ da oa pa ov oo c, FA w news f da oa pa ov ∧ (oa, oo) ∈ news ∧ DS w oa oo c ∧ kdpHas c x = true ∧ valV x l = kdpLook c x 0 := by
  induction h with
  | nil => cases e
  | @cons fa da oa pa ov oo c l a b d _ ih =>
    cases q : kdpHas c x with
    | true =>
      rw [holdV_hit q] at e
      injection e with e
      subst e
      exact ⟨da, oa, pa, ov, oo, c, a, b, d, q, by unfold valV; rw [if_pos q]⟩
    | false =>
      rw [holdV_miss q] at e
      obtain ⟨da, oa, pa, ov, oo, c', h1, h2, h3, h4, h5⟩ := ih e
      exact ⟨da, oa, pa, ov, oo, c', h1, h2, h3, h4, (valV_miss q).trans h5⟩

section
theorem row29 : True := by
  k_with "m call ref" => ((fail_if_success (k_extra "off s28")); ((k_here; (with_reducible show wpAny _ _ (call (Value.ref 96) [Value.ref _, Value.str _ _]) _ _ _); k_dflt (refine' holder_spec ?Bq50886 ?Fq50886 ?Xq50886 ?Nq50886 ?Tq50886 ?hkq50886 ?hdq50886 ?huq50886 ?hCq50886 ?_; (case Bq50886 => k_asm); (case Fq50886 => k_asm); (case Xq50886 => k_asm); (case Nq50886 => k_asm); (case Tq50886 => k_asm); (case hkq50886 => first | exact rfl | assumption); (case hCq50886 => k_extra "m mine chain"); (case hdq50886 => (k_extra "m mine room")); (case huq50886 => (k_extra "m mine room")); k_whole); (try dsimp only); intro h9 tk9 F9 N9; (try rw [he]))))
  exact trivial
theorem isbound_spec {w : World} {dp un : Nat} {gd : Option (List Code)} {cn : Str} {cs : Scope} {a : Addr} {ccd : Value} {cl : List (Str × Addr)} {outer : List Env} {A₀ : Around} {base h₀ : Heap} {L : Addr} {m mg mb : Str → Option Value}
  {p : Program} {loose : List Str} {mean : ExcName → Option Value} {news : List (Addr × Obj)} {s : Shared} {Q E : Value → Shared → Prop} {l : List (Addr × List (Str × Int))} {fa : Addr} {x : Str} {t : Tok}
  (B : Below A₀ base outer h₀) (F : Fr h₀ L s.heap m) (X : (hd.heap_39 w.params).In h₀) (N : News h₀ L s.heap news) (T : Top p loose mean mg mb h₀) (hk : cs.kind = .function) (hdp : dp + 130 < recursionLimit) (hun : un + 1300 < cLine)
  (hC : Chain w news (.ref fa) l)
  (hret : ∀ h' tk', Fr h₀ L h' m → News h₀ L h' news → Q (.bool (bndV x l)) { s with heap := h', toks := tk' }) :
  wpAny (model PySem.Challenge.rw_on0180_01.row.prog w) (ktrTop dp un gd cn cs L a ccd cl outer) (call (.ref 103) [.ref fa, .str x t]) Q E s := by
  cases hC with
  | @cons _ da oa pa ov oo c l' f1 f2 f3 f4 =>
  have hC : Chain w news (.ref fa) ((fa, c) :: l') := .cons f1 f2 f3 f4
  obtain ⟨g1, od, g2, t1, t2, t3, rfl⟩ := f1
  replace N := news_cons (N _ g1) (news_cons (N _ g2) N)
  k_extra "m mine in"
  obtain he | ⟨f, he⟩ := holdV_or x ((fa, c) :: l')
  · rw [bndV_none he] at hret
    k_steps
    exact hret _ _ (by assumption) (news_of (by assumption) (fun q hq => by simp [hq]))
  · rw [bndV_ref he] at hret
    k_steps
    exact hret _ _ (by assumption) (news_of (by assumption) (fun q hq => by simp [hq]))
theorem value_spec {w : World} {dp un : Nat} {gd : Option (List Code)} {cn : Str} {cs : Scope} {a : Addr} {ccd : Value} {cl : List (Str × Addr)} {outer : List Env} {A₀ : Around} {base h₀ : Heap} {L : Addr} {m mg mb : Str → Option Value}
  {p : Program} {loose : List Str} {mean : ExcName → Option Value} {news : List (Addr × Obj)} {s : Shared} {Q E : Value → Shared → Prop} {l : List (Addr × List (Str × Int))} {fa : Addr} {x : Str} {t : Tok}
  (B : Below A₀ base outer h₀) (F : Fr h₀ L s.heap m) (X : (hd.heap_39 w.params).In h₀) (N : News h₀ L s.heap news) (T : Top p loose mean mg mb h₀) (hk : cs.kind = .function) (hdp : dp + 130 < recursionLimit) (hun : un + 1300 < cLine)
  (hC : Chain w news (.ref fa) l) (hb : bndV x l = true)
  (hret : ∀ t' h' tk', Fr h₀ L h' m → News h₀ L h' news → Q (.int (valV x l) t') { s with heap := h', toks := tk' }) :
  wpAny (model PySem.Challenge.rw_on0180_01.row.prog w) (ktrTop dp un gd cn cs L a ccd cl outer) (call (.ref 110) [.ref fa, .str x t]) Q E s := by
  cases hC with
  | @cons _ da oa pa ov oo c l' f1 f2 f3 f4 =>
  have hC : Chain w news (.ref fa) ((fa, c) :: l') := .cons f1 f2 f3 f4
  obtain ⟨g1, od, g2, t1, t2, t3, rfl⟩ := f1
  obtain he | ⟨f, he⟩ := holdV_or x ((fa, c) :: l')
  · rw [bndV_none he] at hb; cases hb
  obtain ⟨da', oa', pa', ov', oo', c', ⟨e1, od', e2, s1, s2, s3, rfl⟩, e3, ⟨lo, hc, kvs, hd, hff⟩, e4, e5⟩ := hC.hit he
  rw [e5] at hret
  replace N := news_cons (N _ g1) (news_cons (N _ g2) (news_cons (N _ e1) (news_cons (N _ e2) (news_cons (N _ e3) N))))
  k_extra "m mine in"
  k_steps
  exact hret _ _ _ (by assumption) (news_of (by assumption) (fun q hq => by simp [hq]))
theorem row30 : True := by
  k_with "m call ref" => ((k_here; (with_reducible show wpAny _ _ (call (Value.ref 103) [Value.ref _, Value.str _ _]) _ _ _); k_dflt (refine' isbound_spec ?Bq53748 ?Fq53748 ?Xq53748 ?Nq53748 ?Tq53748 ?hkq53748 ?hdq53748 ?huq53748 ?hCq53748 ?_; (case Bq53748 => k_asm); (case Fq53748 => k_asm); (case Xq53748 => k_asm); (case Nq53748 => k_asm); (case Tq53748 => k_asm); (case hkq53748 => first | exact rfl | assumption); (case hCq53748 => k_extra "m mine chain"); (case hdq53748 => (k_extra "m mine room")); (case huq53748 => (k_extra "m mine room")); k_whole); (try dsimp only); intro h9 tk9 F9 N9))
  k_with "m call ref" => ((k_here; (with_reducible show wpAny _ _ (call (Value.ref 110) [Value.ref _, Value.str _ _]) _ _ _); k_dflt (refine' value_spec ?Bq68343 ?Fq68343 ?Xq68343 ?Nq68343 ?Tq68343 ?hkq68343 ?hdq68343 ?huq68343 ?hCq68343 ?hbq68343 ?_; (case Bq68343 => k_asm); (case Fq68343 => k_asm); (case Xq68343 => k_asm); (case Nq68343 => k_asm); (case Tq68343 => k_asm); (case hkq68343 => first | exact rfl | assumption); (case hCq68343 => k_extra "m mine chain"); (case hbq68343 => assumption); (case hdq68343 => (k_extra "m mine room")); (case huq68343 => (k_extra "m mine room")); k_whole); (try dsimp only); intro t9 h9 tk9 F9 N9))
  exact trivial
end
theorem row31 : True := by
  k_with "off s28" => skip
  exact trivial

theorem row32 : True := by
  w_top off
  exact trivial

/-- the outermost frame of a chain -/
def topV : List (Addr × List (Str × Int)) → Value
  | [] => .none
  | [(f, _)] => .ref f
  | _ :: q :: l => topV (q :: l)
def ChainT (w : World) (news : List (Addr × Obj)) (v : Value) (l : List (Addr × List (Str × Int))) : Prop := Chain w news v l ∧ l ≠ []

section
theorem row34 : True := by
  k_with "m exec" => ((fail_if_success (k_extra "off s33")); (((with_reducible show wpAny _ _ (exec (Stmt.While _ _ _ _) _) _ _ _); k_dflt (refine' kwd_while0 (Rel := ChainT w) (y := "frame") (d₀ := l) [] List.length (fun d₀ d => topV d₀ = topV d) ?Fq14673 ?Nq14673 ?hyq14673 ?hrq14673 ?hiq14673 (Stay.out ?turn) ?hEq14673; (case Fq14673 => k_asm); (case Nq14673 => k_asm); (case hyq14673 => exact rfl); (case hrq14673 => exact ⟨by assumption, hne⟩); (case hiq14673 => exact rfl); (case hEq14673 => passes_own)))))
  exact trivial
theorem outermost_spec {w : World} {dp un : Nat} {gd : Option (List Code)} {cn : Str} {cs : Scope} {a : Addr} {ccd : Value} {cl : List (Str × Addr)} {outer : List Env} {A₀ : Around} {base h₀ : Heap} {L : Addr} {m mg mb : Str → Option Value}
  {p : Program} {loose : List Str} {mean : ExcName → Option Value} {news : List (Addr × Obj)} {s : Shared} {Q E : Value → Shared → Prop} {l : List (Addr × List (Str × Int))} {fa : Addr}
  (B : Below A₀ base outer h₀) (F : Fr h₀ L s.heap m) (X : (hd.heap_39 w.params).In h₀) (N : News h₀ L s.heap news) (T : Top p loose mean mg mb h₀) (hk : cs.kind = .function) (hdp : dp + 120 < recursionLimit) (hun : un + 1200 < cLine)
  (hC : Chain w news (.ref fa) l)
  (hret : ∀ h' tk', Fr h₀ L h' m → News h₀ L h' news → Q (topV l) { s with heap := h', toks := tk' }) :
  wpAny (model PySem.Challenge.rw_on0180_01.row.prog w) (ktrTop dp un gd cn cs L a ccd cl outer) (call (.ref 124) [.ref fa]) Q E s := by
  have hne : l ≠ [] := by cases hC; simp
  k_extra "m mine in"
  k_steps
  case turn =>
    intro v d u h tk hR hI F9 N9
    obtain ⟨hR, hd⟩ := hR
    cases hR with
    | nil => exact absurd rfl hd
    | @cons fb db ob pb ovb oob cb lb f1 f2 f3 f4 =>
      obtain ⟨g1, od, g2, t1, t2, t3, rfl⟩ := f1
      have N8 := news_cons (N9 _ g1) (news_cons (N9 _ g2) N9)
      cases f4 with
      | nil =>
        k_steps
        have e : topV l = .ref fb := hI
        rw [e] at hret
        exact hret _ _ (by assumption) (news_of (by assumption) (fun q hq => by simp [hq]))
      | @cons fe de oe pe ove ooe ce le k1 k2 k3 k4 =>
        k_steps
        exact KwdEnd0.intro (by assumption) (by assumption) (fun q hq => by simp [hq]) rfl ⟨.cons k1 k2 k3 k4, by simp⟩ hI (Nat.lt_succ_self _) (fun y h1 _ => by simp [h1])
end
theorem row35 : True := by
  k_with "off s33" => skip
  exact trivial
theorem row36 : True := by
  k_with "m call ref" => ((k_here; (with_reducible show wpAny _ _ (call (Value.ref 124) [Value.ref _]) _ _ _); k_dflt (refine' outermost_spec ?Bq99313 ?Fq99313 ?Xq99313 ?Nq99313 ?Tq99313 ?hkq99313 ?hdq99313 ?huq99313 ?hCq99313 ?_; (case Bq99313 => k_asm); (case Fq99313 => k_asm); (case Xq99313 => k_asm); (case Nq99313 => k_asm); (case Tq99313 => k_asm); (case hkq99313 => first | exact rfl | assumption); (case hCq99313 => k_extra "m mine chain"); (case hdq99313 => (k_extra "m mine room")); (case huq99313 => (k_extra "m mine room")); k_whole); (try dsimp only); intro h9 tk9 F9 N9))
  exact trivial

theorem row37 : True := by
  w_top off
  exact trivial

/-- one dict's entries put into another -/
def kdpUpd (c c' : List (Str × Int)) : List (Str × Int) := c'.foldl (fun d q => kdpPut d q.1 q.2) c
theorem kdpUpd_D (c' : List (Str × Int)) : ∀ c, ktMergeD (kdpD c) (kdpD c') = kdpD (kdpUpd c c') := by
  induction c' with
  | nil => intro c; rfl
  | cons q r ih =>
    intro c
    show ktMergeD (PyProof.V.putD (PyData.str q.1) (PyData.int q.2) (kdpD c)) (kdpD r) = _
    rw [kdpD_put, ih]
    rfl
theorem DC.upd {c' : List (Str × Int)} (h' : ∀ q ∈ c', Nm q.1) : ∀ {c : List (Str × Int)}, DC c → DC (kdpUpd c c') := by
  induction c' with
  | nil => exact fun h => h
  | cons q r ih => exact fun h => ih (fun x hx => h' x (.tail _ hx)) (h.put (h' q (.head _)))
/-- all names of a chain with their values -/
def allV : List (Addr × List (Str × Int)) → List (Str × Int)
  | [] => []
  | (_, c) :: l => kdpUpd (allV l) c
theorem Chain.mem {w : World} {news : List (Addr × Obj)} {v : Value} {l : List (Addr × List (Str × Int))} (h : Chain w news v l) {f : Addr} {c : List (Str × Int)} (hm : (f, c) ∈ l) :
    ∃ da oa pa ov oo, FA w news f da oa pa ov ∧ (oa, oo) ∈ news ∧ DS w oa oo c := by
  induction h with
  | nil => cases hm
  | @cons fa da oa pa ov oo c' l a b d _ ih =>
    rcases List.mem_cons.mp hm with e | e
    · cases e
      exact ⟨da, oa, pa, ov, oo, a, b, d⟩
    · exact ih e
theorem Fr.cast {h₀ h : Heap} {L : Addr} {m m' : Str → Option Value} (F : Fr h₀ L h m) (e : ∀ x, m x = m' x) : Fr h₀ L h m' := (funext e : m = m') ▸ F
theorem IsList.ofNews {h₀ h : Heap} {L l : Addr} {news : List (Addr × Obj)} {its : Array Value} {n : Nat} (N : News h₀ L h news) (hm : (l, listOf its n) ∈ news) : h.IsList l its := ⟨_, (N _ hm).1, rfl, n, rfl⟩
theorem my_update {w : World} {A : Around} {E : Value → Shared → Prop} {s : Shared} {h₀ : Heap} {L d d2 : Addr} {m : Str → Option Value} {news : List (Addr × Obj)} {g : Obj → List (Addr × Obj)} {o o2 : Obj} {c c2 : List (Str × Int)} {Q : Value → Shared → Prop}
    (F : Fr h₀ L s.heap m) (N : News h₀ L s.heap news) (U : UpdF d o news g) (D : DS w d o c) (hm : (d2, o2) ∈ news) (D2 : DS w d2 o2 c2) (hne : d ≠ d2)
    (h : ∀ h' o', Fr h₀ L h' m → News h₀ L h' (g o') → DS w d o' (kdpUpd c c2) → Q .none { s with heap := h' }) :
    wpAny (model PySem.Challenge.rw_on0180_01.row.prog w) A (call (.builtin "dict.update") [.ref d, .ref d2]) Q E s := by
  obtain ⟨lo, hc, kvs, hd, hf⟩ := D
  obtain ⟨lo2, hc2, kvs2, hd2, hf2⟩ := D2
  obtain ⟨pre, post, rfl, hg, h1, h2⟩ := U.split
  refine kt_update_madeIn PyProof.V.same_str F N h1 h2 hd hf (TabAt.ofNews N hm lo2 hd2 hf2) hne (fun h' o' kvs' F' N' hd' hf' => h h' o' F' (hg o' ▸ N') ⟨lo, hc.upd hc2.1, kvs', hd', kdpUpd_D c2 c ▸ hf'⟩) ?_
  rw [kdpD_length, kdpD_length, sizeLine_eq]
  have := hc.len
  have := hc2.len
  omega
theorem row38 : True := by
  k_with "m call builtin:dict.update" => ((k_here; (with_reducible show wpAny _ _ (call (Value.builtin "dict.update") [Value.ref _, Value.ref _]) _ _ _); k_dflt (refine' my_update ?Fq18800 ?Nq18800 ?Uq18800 ?Dq18800 ?hmq18800 ?D2q18800 ?hneq18800 ?_; (case Fq18800 => k_asm); (case Nq18800 => k_asm); (case Uq18800 => k_updF); (case Dq18800 => k_extra "m mine ds"); (case hmq18800 => k_mem); (case D2q18800 => k_extra "m mine ds"); (case hneq18800 => first | assumption | omega); k_whole); (try dsimp only); intro h9 o9 F9 N9 D9))
  exact trivial
section
variable {prog : Program} {w : World} {A : Around} {E : Value → Shared → Prop} {Q : Flow → Shared → Prop} {s : Shared} {env : Env} {h₀ : Heap} {L : Addr}
def MyEnd {δ : Type} (h₀ : Heap) (L : Addr) (s : Shared) (size : δ → Nat) (J : δ → Value → Obj → Prop) (y : Str) (fl : Addr) (m₀ : Str → Option Value) (news : List (Addr × Obj)) (d : δ) (s₂ : Shared) : Prop :=
  ∃ h' tk v' o' d', s₂ = { s with heap := h', toks := tk } ∧ Fr h₀ L h' (fun x => if x = y then some v' else m₀ x) ∧ News h₀ L h' ((fl, o') :: news) ∧ J d' v' o' ∧ size d' < size d
def MyPost {δ : Type} (h₀ : Heap) (L : Addr) (s : Shared) (size : δ → Nat) (J : δ → Value → Obj → Prop) (y : Str) (fl : Addr) (m₀ : Str → Option Value) (news : List (Addr × Obj)) (Q : Flow → Shared → Prop) (d : δ) (f : Flow) (s₂ : Shared) : Prop :=
  match f with
  | .ret v => Q (.ret v) s₂
  | .brk => Q .next s₂
  | _ => MyEnd h₀ L s size J y fl m₀ news d s₂
theorem MyEnd.intro {δ : Type} {h₀ : Heap} {L : Addr} {s : Shared} {size : δ → Nat} {J : δ → Value → Obj → Prop} {y : Str} {fl : Addr} {m₀ : Str → Option Value} {news all : List (Addr × Obj)} {d d' : δ} {h' : Heap} {tk : Nat} {v v' : Value} {o' : Obj}
    (F : Fr h₀ L h' (fun x => if x = y then some v' else if x = y then some v else m₀ x)) (N : News h₀ L h' all) (hs : ∀ q ∈ (fl, o') :: news, q ∈ all) (hj : J d' v' o') (hz : size d' < size d) : MyEnd h₀ L s size J y fl m₀ news d { s with heap := h', toks := tk } :=
  ⟨h', tk, v', o', d', rfl, Fr.cast F (fun x => by by_cases e : x = y <;> simp [e]), news_of N hs, hj, hz⟩
theorem my_while {δ : Type} {test : PySem.Expr} {body : List Stmt} {pos : Pos} {m₀ : Str → Option Value} {news : List (Addr × Obj)} {y : Str} {fl : Addr} {v₀ : Value} {o₀ : Obj} {d₀ : δ} (size : δ → Nat) (J : δ → Value → Obj → Prop)
    (F : Fr h₀ L s.heap m₀) (N : News h₀ L s.heap ((fl, o₀) :: news)) (hy : m₀ y = some v₀) (hj : J d₀ v₀ o₀)
    (turn : ∀ d v o h tk, J d v o → Fr h₀ L h (fun x => if x = y then some v else m₀ x) → News h₀ L h ((fl, o) :: news) →
      wpAny (model prog w) A (isTrue test env (eval test env)) (fun b s₂ =>
        if b = true then wpAny (model prog w) A (execs body env) (MyPost h₀ L s size J y fl m₀ news Q d) E s₂ else Q .next s₂) E { s with heap := h, toks := tk })
    (hE : PassesOwn (model prog w) A env E := by passes_own) :
    wpAny (model prog w) A (exec (.While test body [] pos) env) Q E s := by
  refine While_inv2 (fun n m nx => ∃ d v o, size d = n ∧ (∀ x, m x = if x = y then some v else m₀ x) ∧ nx = (fl, o) :: news ∧ J d v o) F N ⟨d₀, v₀, o₀, rfl, fun x => by by_cases e : x = y <;> simp [e, hy], rfl, hj⟩ ?_ hE
  rintro n m₁ nx h tk F₁ N₁ ⟨d, v, o, rfl, hm, rfl, hJ⟩
  refine wpAny_mono (turn d v o h tk hJ (Fr.cast F₁ hm) N₁) (fun b s₂ p => ?_) fun _ _ x => x
  cases b with
  | false => simpa using p
  | true =>
    simp only [if_true] at p ⊢
    refine wpAny_mono p (fun f s₃ q => ?_) fun _ _ x => x
    cases f with
    | ret v => exact q
    | brk => exact q
    | next =>
      obtain ⟨h', tk', v', o', d', rfl, F', N', hJ', hz⟩ := q
      exact ⟨h', tk', _, _, size d', rfl, F', N', hz, d', v', o', rfl, fun _ => rfl, rfl, hJ'⟩
    | cont =>
      obtain ⟨h', tk', v', o', d', rfl, F', N', hJ', hz⟩ := q
      exact ⟨h', tk', _, _, size d', rfl, F', N', hz, d', v', o', rfl, fun _ => rfl, rfl, hJ'⟩
def ForEnd (h₀ : Heap) (L : Addr) (s : Shared) (x : Str) (m₀ : Str → Option Value) (I : Addr) (it : Obj) (d : Addr) (rest : List (Addr × Obj)) (J : Obj → Prop) (s₂ : Shared) : Prop :=
  ∃ h' tk u o', s₂ = { s with heap := h', toks := tk } ∧ Fr h₀ L h' (fun y => if y = x then u else m₀ y) ∧ News h₀ L h' ((I, it) :: (d, o') :: rest) ∧ J o'
def ForPost (h₀ : Heap) (L : Addr) (s : Shared) (x : Str) (m₀ : Str → Option Value) (I : Addr) (it : Obj) (d : Addr) (rest : List (Addr × Obj)) (J : Obj → Prop) (Q : Flow → Shared → Prop) (f : Flow) (s₂ : Shared) : Prop :=
  match f with
  | .ret v => Q (.ret v) s₂
  | .brk => Q .next s₂
  | _ => ForEnd h₀ L s x m₀ I it d rest J s₂
theorem ForEnd.intro {h₀ : Heap} {L : Addr} {s : Shared} {x : Str} {m₀ : Str → Option Value} {I : Addr} {it : Obj} {d : Addr} {rest all : List (Addr × Obj)} {J : Obj → Prop} {h' : Heap} {tk : Nat} {u : Option Value} {o' : Obj}
    (F : Fr h₀ L h' (fun y => if y = x then u else m₀ y)) (N : News h₀ L h' all) (hs : ∀ q ∈ (I, it) :: (d, o') :: rest, q ∈ all) (hj : J o') : ForEnd h₀ L s x m₀ I it d rest J { s with heap := h', toks := tk } :=
  ⟨h', tk, u, o', rfl, F, news_of N hs, hj⟩
theorem listRest_of {x : Str} {body : List Stmt} {I d : Addr} {lp : Addr × Obj} {rest : List (Addr × Obj)} {m₀ : Str → Option Value} (J : List Value → Obj → Prop) (hlp : lp ∈ rest) (hd : d ≠ I) (hI : ∀ q ∈ rest, q.1 ≠ I)
    (turn : ∀ v r o (it : Obj) h tk, J (v :: r) o → it.cls = .type "list_iterator" → Fr h₀ env.locals h (fun y => if y = x then some v else m₀ y) → News h₀ env.locals h ((I, it) :: (d, o) :: rest) →
      wpAny (model prog w) A (execs body env) (ForPost h₀ env.locals { s with heap := h, toks := tk } x m₀ I it d rest (J r) Q) E { s with heap := h, toks := tk })
    (done : ∀ o u h tk, J [] o → Fr h₀ env.locals h (fun y => if y = x then u else m₀ y) → News h₀ env.locals h ((d, o) :: rest) → Q .next { s with heap := h, toks := tk }) :
    ∀ (vs : List Value) (o : Obj) (m : Str → Option Value), J vs o → (∀ y, y ≠ x → m y = m₀ y) → ListRest prog w A E h₀ env x body Q s I lp vs m ((d, o) :: rest) := by
  intro vs
  induction vs with
  | nil =>
    intro o m hj hm
    refine ListRest.zero (fun h tk F N => done o (m x) h tk hj (Fr.cast F (fun y => ?_)) N)
    by_cases e : y = x
    · simp [e]
    · simp [e, hm y e]
  | cons v r ih =>
    intro o m hj hm
    refine ListRest.succ (fun it h tk hc F N => ?_)
    refine wpAny_mono (turn v r o it h tk hj hc (Fr.cast F (fun y => ?_)) N) (fun f s₂ q => ?_) fun _ _ z => z
    · by_cases e : y = x
      · simp [e]
      · simp [e, hm y e]
    · have fin : ForEnd h₀ env.locals { s with heap := h, toks := tk } x m₀ I it d rest (J r) s₂ → UnrEnd h₀ env.locals { s with heap := h, toks := tk } I it (fun m' n' => lp ∈ n' ∧ ListRest prog w A E h₀ env x body Q s I lp r m' n') s₂ := by
        rintro ⟨h', tk', u, o', rfl, F', N', hj'⟩
        refine UnrEnd.intro F' N' ((d, o') :: rest) (fun q hq => hq) (fun q hq => ?_) ⟨.tail _ hlp, ih o' _ hj' (fun y hy => by simp [hy])⟩
        rcases List.mem_cons.mp hq with rfl | hq
        · exact hd
        · exact hI q hq
      cases f with
      | ret v => exact q
      | brk => exact q
      | next => exact fin q
      | cont => exact fin q
end
theorem listRest_sub {prog : Program} {w : World} {A : Around} {E : Value → Shared → Prop} {Q : Flow → Shared → Prop} {s : Shared} {env : Env} {h₀ : Heap} {x : Str} {body : List Stmt} {I : Addr} {lp : Addr × Obj} {news news' : List (Addr × Obj)} (hs : ∀ q ∈ news', q ∈ news) :
    ∀ (vs : List Value) {m : Str → Option Value}, ListRest prog w A E h₀ env x body Q s I lp vs m news' → ListRest prog w A E h₀ env x body Q s I lp vs m news
  | [], _, h => ListRest.zero (fun h' tk F N => h h' tk F (news_of N hs))
  | _ :: _, _, h => ListRest.succ (fun it h' tk hc F N => h it h' tk hc F (news_of N (fun q hq => (List.mem_cons.mp hq).elim (fun e => e ▸ .head _) (fun e => .tail _ (hs q e)))))
theorem row40 : True := by
  k_with "m ForPost" => ((dsimp only [ForPost]))
  k_with "m MyPost" => ((dsimp only [MyPost]))
  exact trivial

section
/-- what the list of frames holds between two turns -/
def AllJ (w : World) (news : List (Addr × Obj)) (l : List (Addr × List (Str × Int))) (d : List (Addr × List (Str × Int))) (v : Value) (o : Obj) : Prop :=
  Chain w news v d ∧ ∃ vs n, o = listOf (List.toArray vs) n ∧ vs ++ d.map (fun q => .ref q.1) = l.map (fun q => Value.ref q.1)
theorem row42 : True := by
  k_with "m exec" => ((fail_if_success (k_extra "off s41")); (((with_reducible show wpAny _ _ (exec (Stmt.While _ _ _ _) _) _ _ _); k_dflt (refine' my_while (y := "frame") (d₀ := l) List.length (AllJ w news l) ?Fq8153 ?Nq8153 ?hyq8153 ?hjq8153 (Stay.out ?turn) ?hEq8153; (case Fq8153 => k_asm); (case Nq8153 => k_asm); (case hyq8153 => exact rfl); (case hjq8153 => exact ⟨by assumption, [], _, rfl, rfl⟩); (case hEq8153 => passes_own)))))
  k_with "m call builtin:list.append" => ((fail_if_success (k_extra "off s41")); ((k_here; (with_reducible show wpAny _ _ (call (Value.builtin _) [Value.ref _, _]) _ _ _); k_dflt (refine' append_K ?k1q85408 ?k2q85408 ?k3q85408 ?_ ?zq85408; (case k1q85408 => k_asm); (case k2q85408 => k_asm); (case k3q85408 => k_upd); (case zq85408 => assumption); k_whole); intro h' F' N')))
  k_with "m subscriptTail Name Slice ref ref" => ((fail_if_success (k_extra "off s41")); ((k_here; (with_reducible show wpAny _ _ (subscriptTail _ (PySem.Expr.Slice none none (some _) _) (Value.ref _) (Value.ref _)) _ _ _); k_dflt (refine' krv_lit ?Fq93645 ?Nq93645 ?lq93645 ?kq93645 ?eq93645 ?_ ?sq93645 ?tq93645 ?zq93645; (case Fq93645 => k_asm); (case Nq93645 => k_asm); (case lq93645 => exact IsList.ofNews (by k_asm) (by k_mem)); (case kq93645 => exact IsPart.int _ _); (case eq93645 => exact rfl); (case sq93645 => with_unfolding_all rfl); (case tq93645 => kmk_pure); (case zq93645 => assumption)); intro D' h' F' N' l1; (have L9 := l1); (try k_lt l1))))
  k_with "m exec For" => ((fail_if_success (k_extra "off s41")); ((k_here; (rename Fr _ _ _ _ => lF'); (with_unfolding_all refine' For_invVF lF' ?k1q95516 ?k2q95516 ?_; (case k1q95516 => exact rfl); (case k2q95516 => exact rfl); k_whole))))
  k_with "m pyIter ref" => ((fail_if_success (k_extra "off s41")); (((with_reducible show wpAny _ _ (pyIter (Value.ref _)) (fun it s₂ => LoopAtV _ _ _ _ _ _ _ _ _ it s₂) _ _); k_dflt (refine' iter_listUnr ?hhq49996 ?Fq49996 ?Nq49996 ?hmq49996 ?hcq49996 ?hdq49996 (Stay.out ?rest); (case hhq49996 => exact rfl); (case Fq49996 => k_asm); (case Nq49996 => k_asm); (case hmq49996 => k_mem); (case hcq49996 => exact rfl); (case hdq49996 => exact rfl)))))
  exact trivial
theorem all_spec {w : World} {dp un : Nat} {gd : Option (List Code)} {cn : Str} {cs : Scope} {a : Addr} {ccd : Value} {cl : List (Str × Addr)} {outer : List Env} {A₀ : Around} {base h₀ : Heap} {L : Addr} {m mg mb : Str → Option Value}
  {p : Program} {loose : List Str} {mean : ExcName → Option Value} {news : List (Addr × Obj)} {s : Shared} {Q E : Value → Shared → Prop} {l : List (Addr × List (Str × Int))} {fa : Addr}
  (B : Below A₀ base outer h₀) (F : Fr h₀ L s.heap m) (X : (hd.heap_39 w.params).In h₀) (N : News h₀ L s.heap news) (T : Top p loose mean mg mb h₀) (hk : cs.kind = .function) (hdp : dp + 120 < recursionLimit) (hun : un + 1200 < cLine)
  (hC : Chain w news (.ref fa) l) (hl : l.length ≤ 100)
  (hret : ∀ d o h' tk', Fr h₀ L h' m → News h₀ L h' ((d, o) :: news) → DS w d o (allV l) → (∀ q ∈ news, q.1 < d) → Q (.ref d) { s with heap := h', toks := tk' }) :
  wpAny (model PySem.Challenge.rw_on0180_01.row.prog w) (ktrTop dp un gd cn cs L a ccd cl outer) (call (.ref 131) [.ref fa]) Q E s := by
  k_extra "m mine in"
  k_steps
  case turn =>
    intro d v o h tk hR F9 N9
    obtain ⟨hR, vs, n, rfl, hvs⟩ := hR
    have hz : (List.toArray vs).size ≤ sizeLine := by
      have e := congrArg List.length hvs
      simp only [List.length_append, List.length_map] at e
      rw [List.size_toArray, sizeLine_eq]
      omega
    cases hR with
    | nil =>
      rename (∀ (p : Addr × Obj), p ∈ news → p.1 < _) => lu1
      k_steps
      case rest =>
        intro I li
        rename_i fl _ _ _ _ dd _ oo lo hs fs _ _ m1 _ _
        have li1 := ltN (li _ (.head _))
        have li2 := ltN (li _ (.tail _ (.head _)))
        have li3 := ltN (li _ (.tail _ (.tail _ (.head _))))
        have hvs2 : (List.toArray vs).toList.reverse = l.reverse.map (fun q => Value.ref q.1) := by simp at hvs; simp [hvs]
        have hne : dd ≠ I := Nat.ne_of_lt li2
        refine listRest_sub (news' := (dd, oo) :: (D', listOf (List.toArray (List.toArray vs).toList.reverse) 0) :: (fl, listOf (List.toArray vs) n) :: news) (fun q hq => by simp only [List.mem_cons] at hq ⊢; rcases hq with h | h | h | h <;> simp [h]) _
          (listRest_of (fun (vs : List Value) (o : Obj) => ∃ (dn rs : List (Addr × List (Str × Int))), vs = rs.map (fun q => Value.ref q.1) ∧ rs.reverse ++ dn = l ∧ DS w dd o (allV dn)) (.head _) hne (fun q hq => Nat.ne_of_lt (li q (by simp only [List.mem_cons] at hq ⊢; rcases hq with h | h | h <;> simp [h])))
            ?_ ?_ _ oo _ ⟨[], l.reverse, hvs2, by simp, ⟨lo, DC.nil, _, hs, fs⟩⟩ (fun _ _ => rfl))
        · rintro v r o it h tk ⟨dn, rs, hv, hl2, D⟩ hc F8 N8
          cases rs with
          | nil => cases hv
          | cons q rs =>
          obtain ⟨f, c⟩ := q
          injection hv with hv hr
          subst hv
          obtain ⟨da, oa, pa, ov, ob, ⟨g1, od, g2, t1, t2, t3, rfl⟩, g3, D3⟩ := hC.mem (f := f) (c := c) (by rw [← hl2]; simp)
          have q1 : @LT.lt Nat _ f fl := lu1 _ g1
          have q2 : @LT.lt Nat _ da fl := lu1 _ g2
          have q3 : @LT.lt Nat _ oa fl := lu1 _ g3
          have N9 := news_cons (N8 _ (.tail _ (.tail _ (.tail _ (.tail _ g1))))) (news_cons (N8 _ (.tail _ (.tail _ (.tail _ (.tail _ g2))))) (news_cons (N8 _ (.tail _ (.tail _ (.tail _ (.tail _ g3))))) N8))
          have hne3 : dd ≠ oa := Nat.ne_of_gt (Nat.lt_trans q3 m1.1)
          have D3c := D3
          have Dc := D
          obtain ⟨lo3, hc3, kvs3, hd3, hff3⟩ := D3c
          obtain ⟨lo4, hc4, kvs4, hd4, hff4⟩ := Dc
          k_steps
          refine' ForEnd.intro ?F ?N ?S ?J
          case F => assumption
          case J => exact ⟨(f, c) :: dn, rs, hr, by rw [← hl2]; simp, by assumption⟩
          case N => assumption
          case S =>
            intro q hq
            simp only [List.mem_cons] at hq ⊢
            rcases hq with h | h | h | h | h <;> simp [h]
        · rintro o u h tk ⟨dn, rs, hv, hl2, D⟩ F8 N8
          cases rs with
          | cons q rs => cases hv
          | nil =>
          k_steps
          have e : dn = l := hl2
          rw [e] at D
          exact hret dd o _ _ (by assumption) (news_of (by assumption) (fun q hq => by simp only [List.mem_cons] at hq ⊢; rcases hq with h | h <;> simp [h])) D (fun q hq => Nat.lt_trans (lu1 q hq) m1.1)
    | @cons fb db ob pb ovb oob cb lb f1 f2 f3 f4 =>
      obtain ⟨g1, od, g2, t1, t2, t3, rfl⟩ := f1
      have N8 := news_cons (N9 _ (.head _)) (news_cons (N9 _ (.tail _ g1)) (news_cons (N9 _ (.tail _ g2)) (news_of N9 (fun q hq => .tail _ hq))))
      have ho := f4.handed
      rename (∀ (p : Addr × Obj), p ∈ news → p.1 < _) => lu1
      have q1 := ltN (lu1 _ g1)
      have q2 := ltN (lu1 _ g2)
      k_steps
      refine MyEnd.intro (o' := listOf ((List.toArray vs).push (.ref fb)) (n + 1)) (by assumption) (by assumption) (fun q hq => ?_) ⟨f4, vs ++ [.ref fb], n + 1, by simp, by simpa using hvs⟩ (Nat.lt_succ_self _)
      rcases List.mem_cons.mp hq with rfl | hq
      · exact .head _
      · exact .tail _ (.tail _ (.tail _ hq))
end
theorem row43 : True := by
  k_with "off s41" => skip
  exact trivial
theorem row44 : True := by
  k_with "m call ref" => ((k_here; (with_reducible show wpAny _ _ (call (Value.ref 131) [Value.ref _]) _ _ _); k_dflt (refine' all_spec ?Bq38988 ?Fq38988 ?Xq38988 ?Nq38988 ?Tq38988 ?hkq38988 ?hdq38988 ?huq38988 ?hCq38988 ?hlq38988 ?_; (case Bq38988 => k_asm); (case Fq38988 => k_asm); (case Xq38988 => k_asm); (case Nq38988 => k_asm); (case Tq38988 => k_asm); (case hkq38988 => first | exact rfl | assumption); (case hCq38988 => k_extra "m mine chain"); (case hlq38988 => first | assumption | omega); (case hdq38988 => (k_extra "m mine room")); (case huq38988 => (k_extra "m mine room")); k_whole); (try dsimp only); intro d9 o9 h9 tk9 F9 N9 D9 l9; (have L9 := l9); k_lt l9; k_dflt ((have Dc9 := D9); (obtain ⟨lo9, hc9, kv9, hd9, hf9⟩ := Dc9))))
  exact trivial

theorem row45 : True := by
  w_top off
  exact trivial
section
open PySem.Calls
variable {prog : Program} {w : World} {A : Around} {h : Heap} {g : Array GenState} {d : Drawn} {t : Nat} {os : OsState}
variable {nm q : Str} {C N : Addr} {bs bm bmB : List Value} {hdct : Bool} {sn : List Str} {sub : List Value} {ab : Bool} {col : Option Bool} {dd : Option Addr} {k0 k1 k2 k3 k5 : Option Value} {B newId initId : String}
abbrev excObj (C t : Addr) : Obj := { cls := .ref C, data := .fields #[.ref t, .none, .none, .none, .bool false, .none] }
abbrev tupObj (vs : List Value) : Obj := { cls := .type "tuple", data := .seq vs.toArray }
theorem check_new_my (F : ExcBaseFacts B newId initId bmB) (hb : bm.contains (.type B) = true) {M : Model} {E : Value → Shared → Prop} {rest : List Value} {Q : Unit → Shared → Prop} (hC : h.get? C = some (excClassObj nm q C N bs bm hdct sn sub ab col dd k0 k1 k2 k3 k5 newId))
    (hq : Q () ⟨h, g, d, t, os⟩) : wpAny M A (checkBuiltinCall newId ⟨.ref C :: rest, []⟩) Q E ⟨h, g, d, t, os⟩ := by
  have hcont : (Value.ref C :: bm).contains (.type B) = true := by rw [List.contains_cons, hb, Bool.or_true]
  have hstar := F.noStar
  simp only [checkBuiltinCall, F.newKind, F.newSplit, F.newRow]
  repeat (first | refine wpAny_loadPart_at hC ?_ | (refine wpAny_isSubtype_exc hC ?_; rw [hcont]) | refine wpAny_staticBase_exc hC ?_ | refine wpAny_madeBy_exc hC ?_ | simp only [bne_self_eq_false, Bool.false_eq_true, if_false] | wp_step)
  exact hq
theorem exc_new_my (F : ExcBaseFacts B newId initId bmB) (hb : bm.contains (.type B) = true) (hbA : bm.contains (.type "AttributeError") = false) (hbN : bm.contains (.type "NameError") = false) {R : Result → Shared → Prop} {rest : List Value} (hC : h.get? C = some (excClassObj nm q C N bs bm hdct sn sub ab col dd k0 k1 k2 k3 k5 newId))
    (hq : R (.ok (.ret (.ref (h.objs.size + 1)))) ⟨(h.push (tupObj rest)).push (excObj C h.objs.size), g, d, t, os⟩) (hrest : rest.length ≤ sizeLine := by size_fits) :
    codeAny (model prog w) A (.builtin newId ⟨.ref C :: rest, []⟩) R ⟨h, g, d, t, os⟩ := by
  have hends := F.ends
  have hcB : (Value.ref C :: bm).contains (.type B) = true := by rw [List.contains_cons, hb, Bool.or_true]
  have hcA : (Value.ref C :: bm).contains (.type "AttributeError") = false := by rw [List.contains_cons, hbA]; rfl
  have hcN : (Value.ref C :: bm).contains (.type "NameError") = false := by rw [List.contains_cons, hbN]; rfl
  refine codeAny_builtinAt F.entry ?_
  unfold Builtin.«BaseException.__new__»
  refine PySem.wpAt_bind ?_
  show PySem.wpAt _ _ _ (stack >>= _) _ _ _
  refine PySem.wpAt_bind (PySem.wpAt_stack fun p below => PySem.wpAt_of_wpAny ?_)
  wp_walk
  refine PySem.wpAt_of_wpAny ?_
  rw [F.owner]
  repeat (first | with_reducible refine wpAny_madeHere_exc F.canon hC ?_ | with_reducible refine wpAny_loadPart_at hC ?_ | (with_reducible refine wpAny_isSubtype_exc hC ?_; first | rw [hcB] | rw [hcA] | rw [hcN]) | wp_step)
  show R _ _
  rw [Heap.size_push]
  exact hq
theorem exc_core (F : ExcBaseFacts B newId initId bmB) (hb : bm.contains (.type B) = true) (hbA : bm.contains (.type "AttributeError") = false) (hbN : bm.contains (.type "NameError") = false) {R : Result → Shared → Prop} {v : Value} {init : Value}
    (hC : h.get? C = some (excClassObj nm q C N bs bm hdct sn sub ab col dd k0 k1 k2 k3 k5 newId))
    (hi : Looks (model prog w) h (typeLookup (.ref C) "__init__") (some init)) (hbi : ∀ self, Looks (model prog w) h (bindSpecial init self) (init, [self]))
    (hq : codeAny (model prog w) (A.under (.builtin "type.__call__" ⟨.ref C :: [v], []⟩)) (.call init ⟨.ref (h.objs.size + 1) :: [v], []⟩) (InitBack (h.objs.size + 1) R) ⟨(h.push (tupObj [v])).push (excObj C h.objs.size), g, d, t, os⟩) :
    codeAny (model prog w) A (.call (.ref C) ⟨[v], []⟩) R ⟨h, g, d, t, os⟩ := by
  have f1 := tc_lookup
  have f2 := tc_bind (.ref C)
  have hT : (⟨h, g, d, t, os⟩ : Shared).TypeIs (.ref C) "type" := ⟨_, hC, rfl⟩
  refine codeAny_of_tree ?_
  show wpAny _ _ (callAny (.ref C) _) _ _ _
  repeat (any_goals (first | assumption | with_reducible refine wpAny_loadPart_at hC ?_ | wp_step))
  refine ⟨rfl, ?_⟩
  refine codeAny_call_builtin_at (Code.quiet_builtin _ (by decide +kernel)) entry_typeCall (wpAny_check_type_call_sub hC ?_)
  repeat (first | with_reducible refine wpAny_loadPart_at hC ?_ | with_reducible refine wpAny_madeBy_exc hC ?_ | wp_step)
  refine codeAny_call_builtin_code (Code.quiet_builtin _ F.quiet) (check_new_my F hb hC ?_)
  refine exc_new_my F hb hbA hbN hC ?_ (by show 1 ≤ sizeLine; rw [sizeLine_eq]; decide)
  show wpAny _ _ _ _ _ (Shared.mk ((h.push (tupObj [v])).push (excObj C h.objs.size)) g d t os)
  have k : ∀ b o, h.get? b = some o → ((h.push (tupObj [v])).push (excObj C h.objs.size)).get? b = some o := fun b o e => Heap.get?_push_of_some _ (Heap.get?_push_of_some _ e)
  have hC₁ := k _ _ hC
  have hget : ((h.push (tupObj [v])).push (excObj C h.objs.size)).get? (h.objs.size + 1) = some (excObj C h.objs.size) := by heap_get
  have hcC : (Value.ref C :: bm).contains (.ref C) = true := by simp
  unfold isInstance
  repeat (first | (with_reducible refine wpAny_loadPart_at hget ?_; show wpAny _ _ (isSubtype (.ref C) _) _ _ _) | (with_reducible refine wpAny_isSubtype_exc hC₁ ?_; rw [hcC]) | wp_step)
  show wpAny _ _ (typeLookup (.ref C) _) _ _ _
  refine (hi.keeps k).at ?_
  refine wpAny_holding (wpAny_bind (((hbi (.ref (h.objs.size + 1))).keeps k).at ?_))
  refine wpAny_bind (wpAny_call (codeAny_mono hq fun r s' z => ?_))
  rcases r with e | (v | _ | _ | _) <;> first | exact z | exact z.elim | skip
  obtain ⟨rfl, z⟩ := z
  exact wpAny_pure (wpAny_pure z)
end
section
open PySem.Calls PySem.Builtin PySem.Builtin.ObjectAttr
variable {prog : Program} {w : World} {A : Around} {E : Value → Shared → Prop} {s : Shared} {K : Frag} {C x t e : Addr} {v : Value}
variable {nm q : Str} {N : Addr} {bs bm bmB : List Value} {hdct : Bool} {sn : List Str} {sub : List Value} {ab : Bool} {col : Option Bool} {dd : Option Addr} {k0 k1 k2 k3 k5 : Option Value} {B newId initId : String}
theorem init_exc (F : ExcBaseFacts B newId initId bmB) (hb : bm.contains (.type B) = true) {Q : Value → Shared → Prop}
    (hC : s.heap.get? C = some (excClassObj nm q C N bs bm hdct sn sub ab col dd k0 k1 k2 k3 k5 newId)) (he : s.heap.get? e = some (excObj C t))
    (hq : ∀ h', (∀ b o, b ≠ e → s.heap.get? b = some o → h'.get? b = some o) → h'.get? e = some (excObj C s.heap.objs.size) → h'.get? s.heap.objs.size = some (tupObj [v]) → Q .none { s with heap := h' }) :
    wpAny (model prog w) A (call (.builtin initId) [.ref e, v]) Q E s := by
  have hcB : (Value.ref C :: bm).contains (.type B) = true := by rw [List.contains_cons, hb, Bool.or_true]
  have hshort := F.noStar
  obtain ⟨h, g, d, tk, os⟩ := s
  refine wpAny_call (codeAny_call_builtin F.init.plain F.initEntry ?_)
  have chk : ∀ {Q' : Unit → Shared → Prop} {A' : Around} {E' : Value → Shared → Prop}, Q' () ⟨h, g, d, tk, os⟩ → wpAny (model prog w) A' (checkBuiltinCall initId ⟨.ref e :: [v], []⟩) Q' E' ⟨h, g, d, tk, os⟩ := by
    intro Q' A' E' hq'
    simp only [checkBuiltinCall, F.initKind, F.initSplit, F.initRow]
    repeat (first | (with_reducible refine wpAny_loadPart_at he ?_; show wpAny _ _ (isSubtype (.ref C) _) _ _ _) | with_reducible refine wpAny_loadPart_at hC ?_ | (with_reducible refine wpAny_isSubtype_exc hC ?_; rw [hcB]) | wp_step)
    exact hq'
  refine chk ?_
  wp_walk
  have hes : (h.push (tupObj [v])).get? e = some (excObj C t) := Heap.get?_push_of_some _ he
  refine hq _ (fun b o hb e' => ?_) ?_ ?_
  · exact (Heap.get?_update_other _ _ (Ne.symm hb)).trans (Heap.get?_push_of_some _ e')
  · exact (Heap.get?_update_self _ hes rfl).trans rfl
  · exact (Heap.get?_update_other _ _ (Nat.ne_of_lt (Heap.lt_size he))).trans (Heap.get?_push_at rfl rfl)
theorem osa_exc {R : Result → Shared → Prop} {cd : ClassData} {name : Str} {tk : Tok} (X : K.In s.heap) (hx : s.heap.get? x = some (excObj C t)) (hc : clsIn K C = some cd) (hm : cd.mro = [.ref C, .ref 31, .type "Exception", .type "BaseException", .type "object"])
    (hh : cd.hasDict = true) (ht : takerIn K C name = some none)
    (h : ∀ h', (∀ b o, b ≠ x → s.heap.get? b = some o → h'.get? b = some o) → h'.get? x = some { excObj C t with dict := some s.heap.objs.size } → R (.ok (.ret .none)) { s with heap := h', toks := s.toks + 1 }) :
    codeAny (model prog w) A (.call (.builtin "object.__setattr__") ⟨[.ref x, .str name tk, v], []⟩) R s := by
  have SF := PySem.F.store_object
  have ne : cd.mro.isEmpty = false := by rw [hm]; rfl
  have ty : Looks (model prog w) s.heap (typeOf (.ref x)) (.ref C) := (Looks.ld hx).andThen .now
  have sub : Looks (model prog w) s.heap (isInstance (.ref x) (.type "object")) true := ty.andThen (looks_mroIn X (by unfold mroIn; rw [hc, Option.bind_some, if_neg (by rw [ne]; decide), hm]; rfl))
  refine codeAny_call_builtin SF.slot.plain SF.entry (@check_slot (model prog w) _ _ s "object.__setattr__" "object" "__setattr__" (.ref x) [.str name tk, v] [] _ SF.kind SF.split sub (SF.args (.ref x) (.str name tk) v) ?_)
  obtain ⟨attr, ha, hr⟩ := Option.bind_eq_some_iff.mp ht
  have hmr : Looks (model prog w) s.heap (mroOf (.ref C)) cd.mro := (looks_clsIn X hc).andThen .now
  have L3 : Looks (model prog w) s.heap (storeTaker? attr) none := by
    cases attr with
    | none => exact .now
    | some a =>
      obtain ⟨b, hb, hb2⟩ := Option.map_eq_some_iff.mp hr
      refine (looks_takesIn X hb).andThen ?_
      cases b
      · exact .now
      · cases hb2
  rw [osa_eq, refuse_eq]
  refine wpAny_bind (wpAny_bind (ty.here (wpAny_bind (hmr.here ?_))))
  rw [hm, refuseLoop_ref, refuseLoop_ref, PySem.F.store_Exception.passes]
  refine wpAny_pure (wpAny_bind (ty.here (wpAny_bind ((looks_findIn X ha).here (wpAny_bind (L3.here ?_))))))
  refine wpAny_bind (wpAny_pure (wpAny_bind (wpAny_bind (wpAny_loadPart hx (wpAny_bind ((looks_clsIn X hc).here ?_))))))
  rw [hh, if_neg (by decide)]
  dsimp only [excObj]
  rw [if_neg (by simp [typeHasDict])]
  obtain ⟨hp, g, d, tks, os⟩ := s
  have hx₁ : (hp.push { cls := .type "dict", data := .dict #[] }).get? x = some (excObj C t) := Heap.get?_push_of_some _ hx
  have hxs : x ≠ hp.objs.size := Nat.ne_of_lt (Heap.lt_size hx)
  refine wpAny_bind (wpAny_alloc' ?_)
  refine wpAny_bind (wpAny_update' hx₁ ?_)
  refine wpAny_pure ?_
  have hgd : ((hp.push { cls := .type "dict", data := .dict #[] }).update x fun o => { cls := o.cls, dict := some hp.objs.size, data := o.data, slots := o.slots }).get? hp.objs.size
      = some { cls := .type "dict", data := .dict #[] } :=
    (Heap.get?_update_ne _ _ _ _ hxs.symm).trans (Heap.get?_push_at rfl rfl)
  have hnd : ((hp.push { cls := .type "dict", data := .dict #[] }).update x fun o => { cls := o.cls, dict := some hp.objs.size, data := o.data, slots := o.slots }).Ns hp.objs.size (fun _ => none) :=
    ⟨_, #[], _, hgd, rfl, fun e he => absurd he (by simp), fun _ => rfl⟩
  show wpAny _ _ (storeInDict hp.objs.size (.str name tk) name v) _ _ _
  unfold storeInDict newKeyGuard
  refine wpAny_bind (wpAny_pure (wpAny_bind (wpAny_nsSet1 (Heap.Ns1.of_empty hnd) fun h' hn' hs => ?_)))
  obtain ⟨oD, esD, epD, hoD, hdD, hcD⟩ := hn'.count (Within.cons name v Within.nil)
  refine wpAny_bind (wpAny_lookBehind hoD (by rw [hdD]; exact pastItsLine_dict (Nat.le_trans hcD (by rw [List.length_cons, List.length_nil, sizeLine_eq]; omega))) ?_)
  refine wpAny_pure ?_
  refine h h' (fun b o hb e' => ?_) ?_
  · exact (hs.2 b (Nat.ne_of_lt (Heap.lt_size e'))).trans ((Heap.get?_update_ne _ _ _ _ hb).trans (Heap.get?_push_of_some _ e'))
  · exact (hs.2 x hxs).trans (Heap.get?_update_self _ hx₁ rfl)
end

section
variable {w : World} {A : Around} {E : Value → Shared → Prop} {s : Shared} {h₀ : Heap} {L e t : Addr} {m : Str → Option Value} {news : List (Addr × Obj)} {v : Value}
theorem news_upd1 {h h' : Heap} {o o' : Obj} (N : News h₀ L h ((e, o) :: news)) (hne : ∀ q ∈ news, q.1 ≠ e) (k : ∀ b o, b ≠ e → h.get? b = some o → h'.get? b = some o) (he : h'.get? e = some o') : News h₀ L h' ((e, o') :: news) := fun q hq => by
  rcases List.mem_cons.mp hq with rfl | hq
  · exact ⟨he, (N _ (.head _)).2⟩
  · exact ⟨k _ _ (hne q hq) (N q (.tail _ hq)).1, (N q (.tail _ hq)).2⟩
theorem fr_upd1 {h h' : Heap} (F : Fr h₀ L h m) (hL : e ≠ L) (hn : h₀.get? e = none) (k : ∀ b o, b ≠ e → h.get? b = some o → h'.get? b = some o) : Fr h₀ L h' m := by
  obtain ⟨oL, a1, a2, hoL, a3⟩ := F.ns
  refine ⟨⟨oL, a1, a2, k _ _ hL.symm hoL, a3⟩, fun b x e' => k _ _ ?_ (F.keep b x e'), F.above⟩
  rintro rfl
  rw [hn] at e'
  cases e'
theorem init_K {Q : Value → Shared → Prop} (F : Fr h₀ L s.heap m) (X : (hd.heap_39 w.params).In h₀) (N : News h₀ L s.heap ((e, excObj 44 t) :: news)) (hne : ∀ q ∈ news, q.1 ≠ e)
    (hq : ∀ h' t', Fr h₀ L h' m → News h₀ L h' ((e, excObj 44 t') :: (t', tupObj [v]) :: news) → (∀ q ∈ (e, excObj 44 t) :: news, q.1 < t') → Q .none { s with heap := h' }) :
    wpAny (model PySem.Challenge.rw_on0180_01.row.prog w) A (call (.builtin "Exception.__init__") [.ref e, v]) Q E s := by
  have ne := N _ (.head _)
  revert X; k_fill; intro X
  have hC := X.keeps F.keep 44 _ (by k_is)
  refine init_exc (C := 44) (t := t) PySem.F.excBase_Exception rfl hC ne.1 (fun h' k1 k2 k3 => hq h' _ (fr_upd1 F ne.2.1 ne.2.2 k1) ?_ (fun q hq => Heap.lt_size (N q hq).1))
  intro q hq'
  rcases List.mem_cons.mp hq' with rfl | hq'
  · exact ⟨k2, ne.2⟩
  · rcases List.mem_cons.mp hq' with rfl | hq'
    · exact ⟨k3, Nat.ne_of_gt F.ns.lt, none_at_size F⟩
    · exact ⟨k1 _ _ (hne q hq') (N q (.tail _ hq')).1, (N q (.tail _ hq')).2⟩
theorem set_exc {Q : Unit → Shared → Prop} (F : Fr h₀ L s.heap m) (X₀ : (hd.heap_39 w.params).In h₀) (N : News h₀ L s.heap ((e, excObj 44 t) :: news)) (hne : ∀ q ∈ news, q.1 ≠ e)
    (h : ∀ h' d, Fr h₀ L h' m → News h₀ L h' ((e, { excObj 44 t with dict := some d }) :: news) → Q () { s with heap := h', toks := s.toks + 1 + 1 }) :
    wpAny (model PySem.Challenge.rw_on0180_01.row.prog w) A (setAttr (.ref e) "message" v) Q E s := by
  revert X₀; k_fill; intro X₀
  have X := X₀.keeps F.keep
  have ne := N _ (.head _)
  have I : InstAt s.heap e (excObj 44 t) 44 none := ⟨ne.1, rfl, rfl, trivial⟩
  obtain ⟨cd, hc, c1, c2⟩ : ∃ cd, clsIn (hd.heap_39 w.params) 44 = some cd ∧ cd.mro = [.ref 44, .ref 31, .type "Exception", .type "BaseException", .type "object"] ∧ cd.hasDict = true := ⟨_, rfl, rfl, rfl⟩
  refine set_plain X I (by k_is) ?_
  refine osa_exc (s := { s with toks := s.toks + 1 }) (t := t) X ne.1 hc c1 c2 (by k_is) (fun h' k1 k2 => ?_)
  exact h h' _ (fr_upd1 F ne.2.1 ne.2.2 k1) (news_upd1 N hne k1 k2)
end

theorem row49 : True := by
  w_top off
  exact trivial
section
theorem type_Exception : typeOf (.type "Exception") = pure (.type "type") := by kernel_rfl
theorem row51 : True := by
  k_with "m getMethod type:Exception" => ((fail_if_success (k_extra "off s50")); ((k_here; refine' method_type ?Fq55387 ?Xq55387 ?mq55387 (by decide +kernel) ?eq55387 ?hq55387 ?_; (case Fq55387 => k_asm); (case Xq55387 => k_asm); (case mq55387 => exact type_Exception); (case eq55387 => k_dflt k_is); (case hq55387 => k_handed))))
  k_with "m call builtin:Exception.__init__" => ((fail_if_success (k_extra "off s50")); ((k_here; k_dflt (refine' init_K ?Fq38494 ?Xq38494 ?Nq38494 ?neq38494 ?_; (case Fq38494 => k_asm); (case Xq38494 => k_asm); (case Nq38494 => k_asm); (case neq38494 => k_all); k_whole); intro h9 t9 F9 N9 l9; k_lt l9)))
  k_with "m setAttr ref" => ((fail_if_success (k_extra "off s50")); ((k_here; k_dflt (refine' set_exc ?Fq157 ?Xq157 ?Nq157 ?neq157 ?_; (case Fq157 => k_asm); (case Xq157 => k_asm); (case Nq157 => k_asm); (case neq157 => k_all); k_whole); intro h9 d9 F9 N9)))
  exact trivial
theorem exc_made {w : World} {A : Around} {R : Result → Shared → Prop} {s : Shared} {h₀ : Heap} {L : Addr} {m : Str → Option Value} {news : List (Addr × Obj)} {v : Value} (F : Fr h₀ L s.heap m) (X : (hd.heap_39 w.params).In h₀) (N : News h₀ L s.heap news)
    (hq : ∀ {e t : Addr} {h' : Heap}, Fr h₀ L h' m → News h₀ L h' ((e, excObj 44 t) :: (t, tupObj [v]) :: news) → (∀ q ∈ news, q.1 < t) → t < e →
      codeAny (model PySem.Challenge.rw_on0180_01.row.prog w) (A.under (.builtin "type.__call__" ⟨.ref 44 :: [v], []⟩)) (.call (.ref 28) ⟨.ref e :: [v], []⟩) (InitBack e R) { s with heap := h' }) :
    codeAny (model PySem.Challenge.rw_on0180_01.row.prog w) A (.call (.ref 44) ⟨[v], []⟩) R s := by
  revert X; k_fill; intro X
  have Xs := X.keeps F.keep
  have hC := Xs 44 _ (by k_is)
  have hi := looks_findIn (M := model PySem.Challenge.rw_on0180_01.row.prog w) Xs (show findIn (hd.heap_39 w.params) (.ref 44) "__init__" = some (some (.ref 28)) by k_is)
  have N' := (N.push F (tupObj [v])).push (F.push _) (excObj 44 s.heap.objs.size)
  have F' := (F.push (tupObj [v])).push (excObj 44 s.heap.objs.size)
  rw [Heap.size_push] at N'
  obtain ⟨hh, g, d, tk, os⟩ := s
  exact exc_core PySem.F.excBase_Exception rfl rfl rfl hC hi (fun self => bind_fn Xs self (by k_is)) (hq F' N' (fun q hq => Heap.lt_size (N q hq).1) (Nat.lt_succ_self _))
theorem exc_spec {w : World} {dp un : Nat} {gd : Option (List Code)} {cn : Str} {cs : Scope} {a : Addr} {ccd : Value} {cl : List (Str × Addr)} {outer : List Env} {A₀ : Around} {base h₀ : Heap} {L : Addr} {m mg mb : Str → Option Value}
  {p : Program} {loose : List Str} {mean : ExcName → Option Value} {news : List (Addr × Obj)} {s : Shared} {x : Str} {tx : Tok} {Q E : Value → Shared → Prop}
  (B : Below A₀ base outer h₀) (F : Fr h₀ L s.heap m) (X : (hd.heap_39 w.params).In h₀) (N : News h₀ L s.heap news) (T : Top p loose mean mg mb h₀) (hk : cs.kind = .function) (hdp : dp + 110 < recursionLimit) (hun : un + 1100 < cLine)
  (hret : ∀ e t d h' tk', Fr h₀ L h' m → News h₀ L h' ((e, { excObj 44 t with dict := some d }) :: (t, tupObj [.str x tx]) :: news) → (∀ q ∈ news, q.1 < e) → @LT.lt Nat _ e t → Q (.ref e) { s with heap := h', toks := tk' }) :
  wpAny (model PySem.Challenge.rw_on0180_01.row.prog w) (ktrTop dp un gd cn cs L a ccd cl outer) (call (.ref 44) [.str x tx]) Q E s := by
  k_extra "m mine in"
  refine wpAny_call (exc_made F X N (fun {e0 t0 h0} F0 N0 l1 l2 => ?_))
  have l4 : ∀ q ∈ news, q.1 < e0 := fun q hq => Nat.lt_trans (l1 q hq) l2
  have l3 := allLt_of l4
  replace l1 := allLt_of l1
  k_lt2 l2
  clear F N
  k_dflt k_enter
  k_steps
  rename News _ _ _ _ => kN9
  exact hret _ _ _ _ _ (by assumption) (news_cons (kN9 _ (.head _)) (news_cons (kN9 _ (.tail _ (.head _))) (news_of kN9 (fun q hq => .tail _ (.tail _ (.tail _ hq)))))) l4 (by omega)
end
theorem row52 : True := by
  k_with "off s50" => skip
  exact trivial
theorem row53 : True := by
  k_with "m call ref" => ((k_here; (with_reducible show wpAny _ _ (call (Value.ref 44) [Value.str _ _]) _ _ _); k_dflt (refine' exc_spec ?Bq27093 ?Fq27093 ?Xq27093 ?Nq27093 ?Tq27093 ?hkq27093 ?hdq27093 ?huq27093 ?_; (case Bq27093 => k_asm); (case Fq27093 => k_asm); (case Xq27093 => k_asm); (case Nq27093 => k_asm); (case Tq27093 => k_asm); (case hkq27093 => first | exact rfl | assumption); (case hdq27093 => (k_extra "m mine room")); (case huq27093 => (k_extra "m mine room")); k_whole); (try dsimp only); intro e9 t9 d9 h9 tk9 F9 N9 le9 lt9))
  exact trivial
def RaisePost (w : World) (E : Value → Shared → Prop) (v : Value) (s : Shared) : Prop :=
  ∃ e t d, v = .ref e ∧ (hd.heap_39 w.params).In s.heap ∧ s.heap.get? e = some { excObj 44 t with dict := some d } ∧ E (.ref e) s
theorem RaisePost.intro {w : World} {E : Value → Shared → Prop} {s : Shared} {e t d : Addr} {h₀ : Heap} {L : Addr} {m : Str → Option Value} {news : List (Addr × Obj)} (F : Fr h₀ L s.heap m) (X : (hd.heap_39 w.params).In h₀) (N : News h₀ L s.heap news)
    (hm : (e, { excObj 44 t with dict := some d }) ∈ news) (h : E (.ref e) s) : RaisePost w E (.ref e) s := ⟨e, t, d, rfl, X.keeps F.keep, (N _ hm).1, h⟩
theorem raise_my {w : World} {A : Around} {E : Value → Shared → Prop} {s : Shared} {env : Env} {x : Sem Value} {Q : Flow → Shared → Prop} (hh : A.handled = none) (h : wpAny (model PySem.Challenge.rw_on0180_01.row.prog w) A x (RaisePost w E) E s) :
    wpAny (model PySem.Challenge.rw_on0180_01.row.prog w) A (raiseStmt env (some x) none) Q E s := by
  unfold raiseStmt
  refine wpAny_bind (wpAny_mono h (fun v s₁ h₁ => ?_) fun _ _ x => x)
  obtain ⟨e, t, d, rfl, X, he, hE⟩ := h₁
  revert X; k_fill; intro X
  obtain ⟨nm, q', N, bs, bm, hdct, sn, sub, ab, col, dd, k0, k1, k2, k3, k5, newId, hC, hbase, hbT⟩ := kts_cls (T := "BaseException") (C := 44) X (by kts_isx)
  have hcB : (Value.ref 44 :: bm).contains (.type "BaseException") = true := by rw [List.contains_cons, hbase, Bool.or_true]
  obtain ⟨hp, g, dr, tk, os⟩ := s₁
  repeat (first | with_reducible refine wpAny_loadPart_at he ?_ | with_reducible refine wpAny_loadPart_at hC ?_ | (with_reducible refine wpAny_isSubtype_exc hC ?_; rw [hcB]) | wp_step)
  exact wpAny_raiseNew_none hh hE
theorem exec_raise_my {w : World} {A : Around} {E : Value → Shared → Prop} {s : Shared} {env : Env} {x : PySem.Expr} {pos : Pos} {Q : Flow → Shared → Prop} (hh : A.handled = none) (h : wpAny (model PySem.Challenge.rw_on0180_01.row.prog w) A (eval x env) (RaisePost w E) E s) :
    wpAny (model PySem.Challenge.rw_on0180_01.row.prog w) A (exec (.Raise (some x) none pos) env) Q E s := by
  rw [arm_exec_Raise]
  first
    | exact wpAny_bind (wpAny_standAt (raise_my hh (wpAny_bind (wpAny_mono h (fun v s₁ h₁ => wpAny_bind (wpAny_standAt (wpAny_pure h₁))) fun _ _ x => x))))
    | (simp only [evalOpt, Option.map]; exact wpAny_bind (wpAny_standAt (raise_my hh (wpAny_bind (wpAny_mono h (fun v s₁ h₁ => wpAny_bind (wpAny_standAt (wpAny_pure h₁))) fun _ _ x => x)))))
theorem row54 : True := by
  k_with "m exec Raise some none" => ((k_dflt (refine' exec_raise_my ?hq69146 ?_; (case hq69146 => exact rfl); k_whole)))
  k_with "m RaisePost" => ((k_dflt (refine' RaisePost.intro ?Fq43229 ?Xq43229 ?Nq43229 ?mq43229 ?_; (case Fq43229 => k_asm); (case Xq43229 => k_asm); (case Nq43229 => k_asm); (case mq43229 => k_mem); k_whole)))
  exact trivial
section
variable {M : Model} {A : Around} {E : Value → Shared → Prop} {s' : Shared} {base g g₂ h : Heap} {outer : List Env} {L e t d : Addr} {m : Str → Option Value} {env : Env} {Q : Unit → Shared → Prop} {news : List (Addr × Obj)} {C : Addr} {vs : List Value}
theorem my_mem {b : Addr} (hf : env.frame = some L) (hm : b ∈ (env :: outer).filterMap (·.frame)) : b = L ∨ b ∈ outer.filterMap (·.frame) := by
  obtain ⟨en, he, hf'⟩ := List.mem_filterMap.mp hm
  rcases List.mem_cons.mp he with rfl | he
  · rw [hf] at hf'; exact .inl (Option.some.inj hf').symm
  · exact .inr (List.mem_filterMap.mpr ⟨en, he, hf'⟩)
theorem leave_my (K : Below A base outer g) (F : Fr g L s'.heap m) (N : News g L s'.heap ((e, { excObj C t with dict := some d }) :: (t, tupObj vs) :: news)) (h1 : ∀ q ∈ news, q.1 < e) (h2 : @LT.lt Nat _ e t) (hf : env.frame = some L) (hke : env.scope.kind = .function)
    (hQ : ∀ h', RaisedS base g outer e (.ref C) t vs news h' → g.UpToSlots h' → Q () { s' with heap := h' }) :
    wpAny M (A.deeper env) (leaving env (.ref e)) Q E s' := by
  have K' := pushX K F hf hke
  have ne := N _ (.head _)
  have nt := N _ (.tail _ (.head _))
  obtain ⟨fs, hfs⟩ : ∃ fs, fs = (env :: outer).filterMap (·.frame) := ⟨_, rfl⟩
  have frm : ∀ b ∈ fs, ∃ o, s'.heap.get? b = some o ∧ ∀ vs, o.data ≠ .fields vs := fun b hb => (K'.frames.mem (hfs ▸ hb)).2
  have efs : e ∉ fs := fun hb => by
    obtain ⟨o, ho, hn⟩ := frm e hb
    rw [ne.1] at ho; cases ho; exact hn _ rfl
  have inB : ∀ b o, s'.heap.get? b = some o → b ∉ fs → b ≠ e → b ≠ t → (hideAll s'.heap (e :: t :: fs)).get? b = some o := fun b o q n1 n2 n3 => hideAll_get _ q (fun hm => by
    rcases List.mem_cons.mp hm with z | z
    · exact n2 z
    · rcases List.mem_cons.mp z with z | z
      · exact n3 z
      · exact n1 z)
  have st : base.StaysIn (hideAll s'.heap (e :: t :: fs)) := fun b o q => inB b o (K'.stays b o q) (fun hm => by
      rw [(K'.frames.mem (hfs ▸ hm)).1] at q; cases q) (fun z => by
      have := K.stays b o q; rw [z, ne.2.2] at this; cases this) (fun z => by
      have := K.stays b o q; rw [z, nt.2.2] at this; cases this)
  have sg : ∀ b o, g.get? b = some o → b ∉ outer.filterMap (·.frame) → (hideAll s'.heap (e :: t :: fs)).get? b = some o := fun b o q nm => inB b o (F.keep b o q) (fun hm => by
      rcases my_mem hf (hfs ▸ hm) with z | z
      · rw [z, kts_self F] at q; cases q
      · exact nm z) (fun z => by rw [z, ne.2.2] at q; cases q) (fun z => by rw [z, nt.2.2] at q; cases q)
  have hl : ∀ q ∈ news, (hideAll s'.heap (e :: t :: fs)).get? q.1 = some q.2 ∧ g.get? q.1 = none ∧ base.get? q.1 = none := fun q hq => by
    have nq := N q (.tail _ (.tail _ hq))
    refine ⟨inB _ _ nq.1 (fun hm => ?_) (Nat.ne_of_lt (h1 q hq)) (Nat.ne_of_lt (Nat.lt_trans (h1 q hq) h2)), nq.2.2, fresh_of_stays K.stays nq.2.2⟩
    rcases my_mem hf (hfs ▸ hm) with z | z
    · exact nq.2.1 z
    · obtain ⟨o, ho, _⟩ := (K.frames.mem z).2
      rw [nq.2.2] at ho; cases ho
  have hfr : s'.heap.FunFrames (hideAll s'.heap (e :: t :: fs)) (env :: outer) := funFrames_hide K'.frames fun env' he b hb => .tail _ (.tail _ (hfs ▸ List.mem_filterMap.mpr ⟨env', he, hb⟩))
  have hen : (hideAll s'.heap (e :: t :: fs)).get? e = none := hideAll_none _ (.head _)
  have htn : (hideAll s'.heap (e :: t :: fs)).get? t = none := hideAll_none _ (.tail _ (.head _))
  refine wpAny_leaving_firstW (a0 := .ref t) K'.stack hfr hf ne.1 (fun b o q => of_hideAll _ q) hen rfl rfl rfl fun h' hL => ?_
  obtain ⟨k1, ⟨_, _, k2⟩, k3, k4⟩ := hL
  exact hQ h' ⟨⟨_, st, sg, hl, ⟨k1, hen, k2, k3⟩, htn⟩, Heap.TupAt.of_slots ⟨_, _, nt.1, rfl, rfl⟩ k4⟩ ((Heap.UpToSlots.of_keeps F.keep).trans k4)
theorem leave_on_my {cls : Value} (K : Below A base outer g) (F : Fr g L g₂ m) (R : RaisedS base g₂ (env :: outer) e cls t vs news s'.heap) (hsm : g₂.UpToSlots s'.heap) (hf : env.frame = some L)
    (hQ : ∀ h', RaisedS base g outer e cls t vs news h' → g.UpToSlots h' → Q () { s' with heap := h' }) :
    wpAny M (A.deeper env) (leaving env (.ref e)) Q E s' := by
  obtain ⟨⟨B, hB, hBG, hl, hfl, hnew⟩, htup⟩ := R
  exact wpAny_leaves_onW (Around.frames_deeper K.stack) hf hfl fun h' x1 x2 =>
    hQ h' ⟨⟨B, hB, fun b o q nm => hBG b o (F.keep b o q) (fun hm => by
      rcases my_mem hf hm with z | z
      · rw [z, kts_self F] at q
        cases q
      · exact nm z), fun q hq => ⟨(hl q hq).1, kts_none F.keep (hl q hq).2.1, (hl q hq).2.2⟩, x1, hnew⟩, htup.of_slots x2⟩ ((Heap.UpToSlots.of_keeps F.keep).trans (hsm.trans x2))
theorem raisedS_sub {G : Heap} {l : List Env} {cls : Value} {news' : List (Addr × Obj)} (R : RaisedS base G l e cls t vs news h) (hs : ∀ q ∈ news', q ∈ news) : RaisedS base G l e cls t vs news' h := by
  obtain ⟨⟨B, hB, hBG, hl, r⟩, htup⟩ := R
  exact ⟨⟨B, hB, hBG, fun q hq => hl q (hs q hq), r⟩, htup⟩
end
theorem row56 : True := by
  k_with "m leaving ref" => ((k_dflt (refine' leave_my ?Kq35487 ?Fq35487 ?Nq35487 ?aq35487 ?bq35487 ?fq35487 ?kq35487 ?_; (case Nq35487 => assumption); (case Fq35487 => assumption); (case Kq35487 => assumption); (case aq35487 => assumption); (case bq35487 => assumption); (case fq35487 => exact rfl); (case kq35487 => exact rfl); k_whole); intro h9 S9 U9))
  k_with "m leaving ref" => ((k_dflt (refine' leave_on_my ?Kq43161 ?Fq43161 ?Rq43161 ?Uq43161 ?fq43161 ?_; (case Rq43161 => assumption); (case Uq43161 => assumption); (case Fq43161 => assumption); (case Kq43161 => assumption); (case fq43161 => exact rfl); k_whole); intro h9 S9 U9))
  exact trivial

theorem row57 : True := by
  w_top off
  exact trivial
/-- what a raise leaves for the caller -/
def Fails (w : World) (cn : Str) (cs : Scope) (L a : Addr) (ccd : Value) (cl : List (Str × Addr)) (outer : List Env) (base h₀ : Heap) (m : Str → Option Value) (news : List (Addr × Obj)) (s : Shared) (E : Value → Shared → Prop) : Prop :=
  ∀ g₂ e t vs h' tk', Fr h₀ L g₂ m → RaisedS base g₂ (envX cn cs L a ccd cl :: outer) e (.ref 44) t vs news h' → g₂.UpToSlots h' → E (.ref e) { s with heap := h', toks := tk' }
theorem nm_len {x : Str} (h : Nm x) : x.length ≤ 10 := by rcases h with rfl | rfl | rfl <;> decide
theorem bind_fail {w : World} {dp un : Nat} {gd : Option (List Code)} {cn : Str} {cs : Scope} {a : Addr} {ccd : Value} {cl : List (Str × Addr)} {outer : List Env} {A₀ : Around} {base h₀ : Heap} {L : Addr} {m mg mb : Str → Option Value}
  {p : Program} {loose : List Str} {mean : ExcName → Option Value} {news : List (Addr × Obj)} {s : Shared} {Q E : Value → Shared → Prop} {fa da oa pa : Addr} {oo : Obj} {c : List (Str × Int)} {ov : Value} {x : Str} {t te : Tok} {e : Int}
  (B : Below A₀ base outer h₀) (F : Fr h₀ L s.heap m) (X : (hd.heap_39 w.params).In h₀) (N : News h₀ L s.heap news) (T : Top p loose mean mg mb h₀) (hk : cs.kind = .function) (hdp : dp + 120 < recursionLimit) (hun : un + 1200 < cLine)
  (hf : FA w news fa da oa pa ov) (hm : (oa, oo) ∈ news) (D : DS w oa oo c) (hno : kdpHas c x = true) (hx : Nm x)
  (hexc : Fails w cn cs L a ccd cl outer base h₀ m news s E) :
  wpAny (model PySem.Challenge.rw_on0180_01.row.prog w) (ktrTop dp un gd cn cs L a ccd cl outer) (call (.ref 68) [.ref fa, .str x t, .int e te]) Q E s := by
  obtain ⟨f1, od, f2, t1, t2, t3, rfl⟩ := hf
  obtain ⟨lo, hc, kvs, hd, hff⟩ := D
  have hxl := nm_len hx
  replace N := news_cons (N _ f1) (news_cons (N _ f2) (news_cons (N _ hm) N))
  k_extra "m mine in"
  k_steps
  rename RaisedS _ _ _ _ _ _ _ _ _ => S9
  exact hexc _ _ _ _ _ _ (by assumption) (raisedS_sub S9 (by k_extra "m mine sub")) (by assumption)
theorem row58 : True := by
  k_with "m call ref" => ((k_here; (with_reducible show wpAny _ _ (call (Value.ref 68) [Value.ref _, Value.str _ _, Value.int _ _]) _ _ _); k_dflt (refine' bind_fail ?Bq12671 ?Fq12671 ?Xq12671 ?Nq12671 ?Tq12671 ?hkq12671 ?hdq12671 ?huq12671 ?fq12671 ?hmq12671 ?Dq12671 ?noq12671 ?xq12671 ?_; (case Bq12671 => k_asm); (case Fq12671 => k_asm); (case Xq12671 => k_asm); (case Nq12671 => k_asm); (case Tq12671 => k_asm); (case hkq12671 => first | exact rfl | assumption); (case noq12671 => assumption); (case fq12671 => k_extra "m mine fa"); (case hmq12671 => k_mem); (case Dq12671 => k_extra "m mine ds"); (case xq12671 => assumption); (case hdq12671 => (k_extra "m mine room")); (case huq12671 => (k_extra "m mine room")); k_whole); unfold Fails; intro g9 e9 t9 vs9 h9 tk9 FG9 S9 U9))
  exact trivial
theorem bound_fail {w : World} {dp un : Nat} {gd : Option (List Code)} {cn : Str} {cs : Scope} {a : Addr} {ccd : Value} {cl : List (Str × Addr)} {outer : List Env} {A₀ : Around} {base h₀ : Heap} {L : Addr} {m mg mb : Str → Option Value}
  {p : Program} {loose : List Str} {mean : ExcName → Option Value} {news : List (Addr × Obj)} {s : Shared} {Q E : Value → Shared → Prop} {fa da oa pa : Addr} {oo po : Obj} {c cp : List (Str × Int)} {ov : Value} {x : Str} {t te : Tok} {e : Int}
  (B : Below A₀ base outer h₀) (F : Fr h₀ L s.heap m) (X : (hd.heap_39 w.params).In h₀) (N : News h₀ L s.heap news) (T : Top p loose mean mg mb h₀) (hk : cs.kind = .function) (hdp : dp + 130 < recursionLimit) (hun : un + 1300 < cLine)
  (hf : FA w news fa da oa pa ov) (ho : handedIn ov = true) (h1 : (oa, oo) ∈ news) (D : DS w oa oo c) (h2 : (pa, po) ∈ news) (DP : DS w pa po cp) (hno : kdpHas c x = true) (hx : Nm x)
  (hexc : Fails w cn cs L a ccd cl outer base h₀ m news s E) :
  wpAny (model PySem.Challenge.rw_on0180_01.row.prog w) (ktrTop dp un gd cn cs L a ccd cl outer) (call (.ref 75) [.ref fa, .str x t, .int e te]) Q E s := by
  obtain ⟨f1, od, f2, t1, t2, t3, rfl⟩ := hf
  have Dc := D
  obtain ⟨lo, hc, kvs, hd, hff⟩ := Dc
  have hcl := Nat.le_trans hc.len (show 3 ≤ 1000 by decide)
  have hcl2 := hc.len
  replace N := news_cons (N _ f1) (news_cons (N _ f2) (news_cons (N _ h1) (news_cons (N _ h2) N)))
  k_extra "m mine in"
  k_steps
  rename RaisedS _ _ _ _ _ _ _ _ _ => S9
  exact hexc _ _ _ _ _ _ (by assumption) (raisedS_sub S9 (by k_extra "m mine sub")) (by assumption)
theorem row59 : True := by
  k_with "m call ref" => ((k_here; (with_reducible show wpAny _ _ (call (Value.ref 75) [Value.ref _, Value.str _ _, Value.int _ _]) _ _ _); k_dflt (refine' bound_fail ?Bq79090 ?Fq79090 ?Xq79090 ?Nq79090 ?Tq79090 ?hkq79090 ?hdq79090 ?huq79090 ?fq79090 ?oq79090 ?h1q79090 ?Dq79090 ?h2q79090 ?DPq79090 ?noq79090 ?xq79090 ?_; (case Bq79090 => k_asm); (case Fq79090 => k_asm); (case Xq79090 => k_asm); (case Nq79090 => k_asm); (case Tq79090 => k_asm); (case hkq79090 => first | exact rfl | assumption); (case noq79090 => assumption); (case fq79090 => k_extra "m mine fa"); (case oq79090 => first | assumption | exact rfl); (case h1q79090 => k_mem); (case Dq79090 => k_extra "m mine ds"); (case h2q79090 => k_mem); (case DPq79090 => k_extra "m mine ds"); (case xq79090 => assumption); (case hdq79090 => (k_extra "m mine room")); (case huq79090 => (k_extra "m mine room")); k_whole); unfold Fails; intro g9 e9 t9 vs9 h9 tk9 FG9 S9 U9))
  exact trivial
theorem bparam_fail {w : World} {dp un : Nat} {gd : Option (List Code)} {cn : Str} {cs : Scope} {a : Addr} {ccd : Value} {cl : List (Str × Addr)} {outer : List Env} {A₀ : Around} {base h₀ : Heap} {L : Addr} {m mg mb : Str → Option Value}
  {p : Program} {loose : List Str} {mean : ExcName → Option Value} {news : List (Addr × Obj)} {s : Shared} {Q E : Value → Shared → Prop} {fa da oa pa : Addr} {oo po : Obj} {c cp : List (Str × Int)} {ov : Value} {x : Str} {t te : Tok} {e : Int}
  (B : Below A₀ base outer h₀) (F : Fr h₀ L s.heap m) (X : (hd.heap_39 w.params).In h₀) (N : News h₀ L s.heap news) (T : Top p loose mean mg mb h₀) (hk : cs.kind = .function) (hdp : dp + 130 < recursionLimit) (hun : un + 1300 < cLine)
  (hf : FA w news fa da oa pa ov) (h1 : (oa, oo) ∈ news) (D : DS w oa oo c) (h2 : (pa, po) ∈ news) (DP : DS w pa po cp) (hno : kdpHas c x = true) (hx : Nm x)
  (hexc : Fails w cn cs L a ccd cl outer base h₀ m news s E) :
  wpAny (model PySem.Challenge.rw_on0180_01.row.prog w) (ktrTop dp un gd cn cs L a ccd cl outer) (call (.ref 89) [.ref fa, .str x t, .int e te]) Q E s := by
  obtain ⟨f1, od, f2, t1, t2, t3, rfl⟩ := hf
  have Dc := DP
  obtain ⟨lo, hc, kvs, hd, hff⟩ := Dc
  replace N := news_cons (N _ f1) (news_cons (N _ f2) (news_cons (N _ h1) (news_cons (N _ h2) N)))
  k_extra "m mine in"
  k_steps
  rename RaisedS _ _ _ _ _ _ _ _ _ => S9
  exact hexc _ _ _ _ _ _ (by assumption) (raisedS_sub S9 (by k_extra "m mine sub")) (by assumption)
theorem row60 : True := by
  k_with "m call ref" => ((k_here; (with_reducible show wpAny _ _ (call (Value.ref 89) [Value.ref _, Value.str _ _, Value.int _ _]) _ _ _); k_dflt (refine' bparam_fail ?Bq11239 ?Fq11239 ?Xq11239 ?Nq11239 ?Tq11239 ?hkq11239 ?hdq11239 ?huq11239 ?fq11239 ?h1q11239 ?Dq11239 ?h2q11239 ?DPq11239 ?noq11239 ?xq11239 ?_; (case Bq11239 => k_asm); (case Fq11239 => k_asm); (case Xq11239 => k_asm); (case Nq11239 => k_asm); (case Tq11239 => k_asm); (case hkq11239 => first | exact rfl | assumption); (case noq11239 => assumption); (case fq11239 => k_extra "m mine fa"); (case h1q11239 => k_mem); (case Dq11239 => k_extra "m mine ds"); (case h2q11239 => k_mem); (case DPq11239 => k_extra "m mine ds"); (case xq11239 => assumption); (case hdq11239 => (k_extra "m mine room")); (case huq11239 => (k_extra "m mine room")); k_whole); unfold Fails; intro g9 e9 t9 vs9 h9 tk9 FG9 S9 U9))
  exact trivial
section
theorem row62 : True := by
  k_with "m call ref" => ((fail_if_success (k_extra "off s61")); ((k_here; (with_reducible show wpAny _ _ (call (Value.ref 96) [Value.ref _, Value.str _ _]) _ _ _); k_dflt (refine' holder_spec ?Bq50886 ?Fq50886 ?Xq50886 ?Nq50886 ?Tq50886 ?hkq50886 ?hdq50886 ?huq50886 ?hCq50886 ?_; (case Bq50886 => k_asm); (case Fq50886 => k_asm); (case Xq50886 => k_asm); (case Nq50886 => k_asm); (case Tq50886 => k_asm); (case hkq50886 => first | exact rfl | assumption); (case hCq50886 => k_extra "m mine chain"); (case hdq50886 => (k_extra "m mine room")); (case huq50886 => (k_extra "m mine room")); k_whole); (try dsimp only); intro h9 tk9 F9 N9; (try rw [he]))))
  exact trivial
theorem value_fail {w : World} {dp un : Nat} {gd : Option (List Code)} {cn : Str} {cs : Scope} {a : Addr} {ccd : Value} {cl : List (Str × Addr)} {outer : List Env} {A₀ : Around} {base h₀ : Heap} {L : Addr} {m mg mb : Str → Option Value}
  {p : Program} {loose : List Str} {mean : ExcName → Option Value} {news : List (Addr × Obj)} {s : Shared} {Q E : Value → Shared → Prop} {l : List (Addr × List (Str × Int))} {fa : Addr} {x : Str} {t : Tok}
  (B : Below A₀ base outer h₀) (F : Fr h₀ L s.heap m) (X : (hd.heap_39 w.params).In h₀) (N : News h₀ L s.heap news) (T : Top p loose mean mg mb h₀) (hk : cs.kind = .function) (hdp : dp + 140 < recursionLimit) (hun : un + 1400 < cLine)
  (hC : Chain w news (.ref fa) l) (hb : bndV x l = false) (hx : Nm x)
  (hexc : Fails w cn cs L a ccd cl outer base h₀ m news s E) :
  wpAny (model PySem.Challenge.rw_on0180_01.row.prog w) (ktrTop dp un gd cn cs L a ccd cl outer) (call (.ref 110) [.ref fa, .str x t]) Q E s := by
  have hxl := nm_len hx
  obtain he | ⟨f, he⟩ := holdV_or x l
  · cases hC with
    | @cons _ da oa pa ov oo c l' f1 f2 f3 f4 =>
    have hC : Chain w news (.ref fa) ((fa, c) :: l') := .cons f1 f2 f3 f4
    obtain ⟨g1, od, g2, t1, t2, t3, rfl⟩ := f1
    replace N := news_cons (N _ g1) (news_cons (N _ g2) N)
    k_extra "m mine in"
    k_steps
    rename RaisedS _ _ _ _ _ _ _ _ _ => S9
    exact hexc _ _ _ _ _ _ (by assumption) (raisedS_sub S9 (by k_extra "m mine sub")) (by assumption)
  · rw [bndV_ref he] at hb; cases hb
end
theorem row63 : True := by
  k_with "off s61" => skip
  exact trivial
theorem row64 : True := by
  k_with "m call ref" => ((k_here; (with_reducible show wpAny _ _ (call (Value.ref 110) [Value.ref _, Value.str _ _]) _ _ _); k_dflt (refine' value_fail ?Bq58333 ?Fq58333 ?Xq58333 ?Nq58333 ?Tq58333 ?hkq58333 ?hdq58333 ?huq58333 ?hCq58333 ?hbq58333 ?hxq58333 ?_; (case Bq58333 => k_asm); (case Fq58333 => k_asm); (case Xq58333 => k_asm); (case Nq58333 => k_asm); (case Tq58333 => k_asm); (case hkq58333 => first | exact rfl | assumption); (case hCq58333 => k_extra "m mine chain"); (case hbq58333 => assumption); (case hxq58333 => assumption); (case hdq58333 => (k_extra "m mine room")); (case huq58333 => (k_extra "m mine room")); k_whole); unfold Fails; intro g9 e9 t9 vs9 h9 tk9 FG9 S9 U9))
  exact trivial

theorem row65 : True := by
  w_top off
  exact trivial
/-- what is known of a turned ground -/
structure Turned (w : World) (A₀ : Around) (base : Heap) (outer : List Env) (p : Program) (loose : List Str) (mean : ExcName → Option Value) (mg mb : Str → Option Value) (h₀ h₀' : Heap) : Prop where
  T : KtsTurn (outer.filterMap (·.frame)) h₀ h₀'
  B : Below A₀ base outer h₀'
  X : (hd.heap_39 w.params).In h₀'
  P : Top p loose mean mg mb h₀'
  D : KtsDicts (outer.filterMap (·.frame)) h₀'
theorem Turned.trans {w : World} {A₀ : Around} {base : Heap} {outer : List Env} {p : Program} {loose : List Str} {mean : ExcName → Option Value} {mg mb : Str → Option Value} {g₀ g₁ g₂ : Heap} (x : KtsTurn (outer.filterMap (·.frame)) g₀ g₁) (y : Turned w A₀ base outer p loose mean mg mb g₁ g₂) :
    Turned w A₀ base outer p loose mean mg mb g₀ g₂ := ⟨x.trans y.T, y.B, y.X, y.P, y.D⟩
/-- a frame is left, the frames around it may have got their frame objects -/
def LeaveT (w : World) (A₀ : Around) (base : Heap) (outer : List Env) (p : Program) (loose : List Str) (mean : ExcName → Option Value) (mg mb : Str → Option Value) (fs : List Addr) (h₀ : Heap) (L : Addr) (m : Str → Option Value) (g : Heap) (R : Result → Shared → Prop) (v : Value) (s' : Shared) : Prop :=
  ∃ g' L' m' news', KtsTurn fs g g' ∧ Fr g' L' s'.heap m' ∧ News g' L' s'.heap news' ∧ ∀ h₀', Turned w A₀ base outer p loose mean mg mb h₀ h₀' → Fr h₀' L s'.heap m → News h₀' L s'.heap news' → R (.ok (.ret v)) s'
theorem LeaveT.intro {w : World} {A₀ : Around} {base : Heap} {outer : List Env} {p : Program} {loose : List Str} {mean : ExcName → Option Value} {mg mb : Str → Option Value} {fs : List Addr} {h₀ g g' : Heap} {L L' : Addr} {m m' : Str → Option Value} {news' : List (Addr × Obj)} {R : Result → Shared → Prop} {v : Value} {s' : Shared}
    (F : Fr g' L' s'.heap m') (N : News g' L' s'.heap news') (T : KtsTurn fs g g') (k : ∀ h₀', Turned w A₀ base outer p loose mean mg mb h₀ h₀' → Fr h₀' L s'.heap m → News h₀' L s'.heap news' → R (.ok (.ret v)) s') :
    LeaveT w A₀ base outer p loose mean mg mb fs h₀ L m g R v s' := ⟨g', L', m', news', T, F, N, k⟩
section
variable {prog : Program} {w : World} {A₀ A : Around} {s : Shared} {base h₀ : Heap} {outer : List Env} {L : Addr} {m : Str → Option Value} {env : Env} {news : List (Addr × Obj)} {p : Program} {loose : List Str} {mean : ExcName → Option Value} {mg mb : Str → Option Value}
  {R : Result → Shared → Prop} {name qual : Str} {params : Arguments} {body : List Stmt} {scope : Scope} {dV kV doc pm cdv ct oc : Value} {an od : Option Addr} {osl : Array (Option Value)} {f : Addr} {args : Args} {binds : List (Str × Value)}
theorem groundT (B : Below A₀ base outer h₀) (F : Fr h₀ L s.heap m) (N : News h₀ L s.heap news) (XB : (hd.heap_39 w.params).In base) (TB : Top p loose mean mg mb base) (D : KtsDicts (outer.filterMap (·.frame)) h₀)
    (hA : A.frames = some (env :: outer)) (hf : env.frame = some L) (hke : env.scope.kind = .function) :
    Fr h₀ L (hideAll s.heap (news.map (·.1))) m ∧ Below A base (env :: outer) (hideAll s.heap (news.map (·.1))) ∧ h₀.StaysIn (hideAll s.heap (news.map (·.1))) ∧ KtsDicts ((env :: outer).filterMap (·.frame)) (hideAll s.heap (news.map (·.1))) ∧
      ∀ v s', LeaveT w A₀ base outer p loose mean mg mb ((env :: outer).filterMap (·.frame)) h₀ L m (hideAll s.heap (news.map (·.1))) R v s' → R (.ok (.ret v)) s' := by
  obtain ⟨FG, BG, st, -⟩ := groundX (R := R) B F N hA hf hke
  refine ⟨FG, BG, st, fun b hb => ?_, fun v s' hl => ?_⟩
  · rcases my_mem hf hb with rfl | hb
    · obtain ⟨o, es, ep, ho, hd, _⟩ := FG.ns
      exact ⟨o, es, ep, ho, hd⟩
    · obtain ⟨o, es, n, ho, hd⟩ := D b hb
      exact ⟨o, es, n, st b o ho, hd⟩
  · obtain ⟨g', L', m', news', T', F', N', k⟩ := hl
    have nL₀ : h₀.get? L = none := kts_self F
    obtain ⟨oL, es, ep, hLg, hLd, hLk, hLf⟩ := FG.ns
    obtain ⟨sl, hs⟩ := T'.up hLg
    have old : ∀ b o, h₀.get? b = some o → b ∉ outer.filterMap (·.frame) → s'.heap.get? b = some o := fun b o e nm => F'.keep b o (T'.other b o (st b o e) (fun q => by
      rcases my_mem hf q with z | z
      · rw [z, nL₀] at e; cases e
      · exact nm z))
    obtain ⟨T₁, S₁⟩ := kts_turn_at (h := s'.heap) (fs := outer.filterMap (·.frame)) (g := h₀) (fun b hb => let ⟨_, o, ho, _⟩ := B.frames.mem hb; ⟨o, ho⟩) old (fun b o e _ => let ⟨sl', hs'⟩ := T'.up (st b o e); ⟨sl', F'.keep _ _ hs'⟩)
    have B₃ : Below A₀ base outer (ktsHeap s'.heap (outer.filterMap (·.frame)) h₀) := ⟨B.stack, fun b o e => T₁.other b o (B.stays b o e) (fun hm => by rw [(B.frames.mem hm).1] at e; cases e),
      B.frames.of_keeps fun b o e _ => let ⟨sl', hs'⟩ := T₁.up e; ⟨_, hs', rfl⟩⟩
    refine k _ ⟨T₁, B₃, XB.keeps B₃.stays, TB.keeps B₃.stays, D.turn T₁⟩ ⟨⟨_, es, ep, F'.keep _ _ hs, hLd, hLk, hLf⟩, S₁, by rw [T₁.size]; exact F.above⟩ (fun q hq => ⟨(N' q hq).1, fun e => ?_, T₁.none_ _ ?_⟩)
    · have := (N' q hq).2.2; rw [e, hs] at this; cases this
    · cases e : h₀.get? q.1 with
      | none => rfl
      | some o =>
        obtain ⟨sl', hs'⟩ := T'.up (st _ _ e)
        have := (N' q hq).2.2
        rw [hs'] at this; cases this
theorem callT_plain (B : Below A₀ base outer h₀) (F : Fr h₀ L s.heap m) (X₀ : (hd.heap_39 w.params).In h₀) (N : News h₀ L s.heap news) (T : Top p loose mean mg mb h₀) (XB : (hd.heap_39 w.params).In base) (TB : Top p loose mean mg mb base) (D : KtsDicts (outer.filterMap (·.frame)) h₀)
    (hA : A.frames = some (env :: outer)) (hf : env.frame = some L) (hke : env.scope.kind = .function)
    (ho : (hd.heap_39 w.params).lookup f = some ⟨oc, od, .func (fnOf name qual params body scope dV kV doc pm an cdv ct), osl⟩) (hcd : codeIn (hd.heap_39 w.params) cdv qual = true) (hroom : A.depth < recursionLimit)
    (hbind : BindsTo s (fnOf name qual params body scope dV kV doc pm an cdv ct) args binds) (hloc : ∀ y ∈ binds, scope.names.lookup y.1 = some .local)
    (h : ∀ g L' h₁, Fr h₀ L g m → Fr g L' h₁ (fun y => binds.reverse.lookup y) → News g L' h₁ news → Below A base (env :: outer) g → (hd.heap_39 w.params).In g → Top p loose mean mg mb g → KtsDicts ((env :: outer).filterMap (·.frame)) g →
      wpAny (model prog w) (A.deeper (envOf qual scope L' f cdv)) (execs body (envOf qual scope L' f cdv))
        (fun fl s' => LeaveT w A₀ base outer p loose mean mg mb ((env :: outer).filterMap (·.frame)) h₀ L m g R (match fl with | .ret v => v | _ => .none) s')
        (fun e s' => wpAny (model prog w) (A.deeper (envOf qual scope L' f cdv)) (leaving (envOf qual scope L' f cdv) e) (fun _ s'' => R (.error e) s'') (fun e' s'' => R (.error e') s'') s')
        { s with heap := h₁, toks := s.toks + binds.length })
    (hco : scope.isCoroutine = false) (hgen : scope.isGenerator = false) (hk : scope.kind = .function)
    (hcell : ∀ x ∈ scope.names, x.2 ≠ .cell) : codeAny (model prog w) A (.call (.ref f) args) R s := by
  obtain ⟨FG, BG, st, DG, lv⟩ := groundT (R := R) B F N XB TB D hA hf hke
  have X := X₀.keeps F.keep
  refine codeAny_call_def (fd := fnOf name qual params body scope dV kV doc pm an cdv ct) (body := body) (binds := binds) hroom (X _ _ ho) rfl (T.nolimit.keeps F.keep) (codeRec_of X hcd) rfl hbind hcell hloc (fun h₁ hns hk₁ => ?_) hco hgen hk
  exact wpAny_mono (h _ s.heap.objs.size h₁ FG ⟨hns, fun b o e => hk₁ b o (of_hideAll _ e), Nat.le_of_eq (hideAll_size _ _)⟩
    (fun q hq => ⟨hk₁ _ _ (N q hq).1, Nat.ne_of_lt (Heap.lt_size (N q hq).1), hideAll_none _ (List.mem_map_of_mem hq)⟩) BG (X₀.keeps st) (T.keeps st) DG) (fun fl s' hl => lv _ _ hl) fun _ _ y => y
theorem callT_cells (B : Below A₀ base outer h₀) (F : Fr h₀ L s.heap m) (X₀ : (hd.heap_39 w.params).In h₀) (N : News h₀ L s.heap news) (T : Top p loose mean mg mb h₀) (XB : (hd.heap_39 w.params).In base) (TB : Top p loose mean mg mb base) (D : KtsDicts (outer.filterMap (·.frame)) h₀)
    (hA : A.frames = some (env :: outer)) (hf : env.frame = some L) (hke : env.scope.kind = .function)
    (ho : (hd.heap_39 w.params).lookup f = some ⟨oc, od, .func (fnOf name qual params body scope dV kV doc pm an cdv ct), osl⟩) (hcd : codeIn (hd.heap_39 w.params) cdv qual = true) (hroom : A.depth < recursionLimit)
    (hbind : BindsTo s (fnOf name qual params body scope dV kV doc pm an cdv ct) args binds) (hkind : (binds.all fun y => scope.names.lookup y.1 == some .local || scope.names.lookup y.1 == some .cell) = true)
    (hnd : ((cellsFrom 0 scope.names []).map (·.1)).Nodup)
    (h : ∀ g L' h₁ tk cells, Fr h₀ L g m → Fr g L' h₁ (bindL (envOfC qual scope L' f cdv).kindOf binds fun _ => none) → News g L' h₁ (cells ++ news) →
      CellsAre (bindC (envOfC qual scope L' f cdv).kindOf binds fun _ => none) (cellsFrom (L' + 1) scope.names []) cells → Below A base (env :: outer) g → (hd.heap_39 w.params).In g → Top p loose mean mg mb g → KtsDicts ((env :: outer).filterMap (·.frame)) g → (∀ q ∈ news, q.1 < L') →
      wpAny (model prog w) (A.deeper (envOfC qual scope L' f cdv)) (execs body (envOfC qual scope L' f cdv))
        (fun fl s' => LeaveT w A₀ base outer p loose mean mg mb ((env :: outer).filterMap (·.frame)) h₀ L m g R (match fl with | .ret v => v | _ => .none) s')
        (fun e s' => wpAny (model prog w) (A.deeper (envOfC qual scope L' f cdv)) (leaving (envOfC qual scope L' f cdv) e) (fun _ s'' => R (.error e) s'') (fun e' s'' => R (.error e') s'') s')
        { s with heap := h₁, toks := tk })
    (hco : scope.isCoroutine = false) (hgen : scope.isGenerator = false) (hk : scope.kind = .function) : codeAny (model prog w) A (.call (.ref f) args) R s := by
  obtain ⟨FG, BG, st, DG, lv⟩ := groundT (R := R) B F N XB TB D hA hf hke
  have X := X₀.keeps F.keep
  refine codeAny_call_function hroom (X _ _ ho) rfl hco hgen rfl (codeRec_of X hcd) (hbind _ _ _ _ ?_)
  refine wpAny_newFunctionEnv_cells hk (kindsX hkind _) fun env' he s' x => ?_
  subst he
  refine ⟨(T.nolimit.keeps F.keep).keeps x.toInCall.keep, codeAny_func ?_⟩
  obtain ⟨h₁, tk, rfl, _⟩ := x.done
  have hk₁ := x.toInCall.keep
  obtain ⟨cells, NC, Y⟩ := Cl.news (h₀ := s.heap) (Nat.le_refl _) fun n c hm => ⟨x.cell n c (lookup_of_mem_nodup (cellsFrom_names scope.names 0 (s.heap.objs.size + 1) [] [] rfl ▸ hnd) hm), x.above n c hm⟩
  refine wpAny_mono (h _ s.heap.objs.size h₁ tk cells FG ⟨x.toInCall.ns, fun b o e => hk₁ b o (of_hideAll _ e), Nat.le_of_eq (hideAll_size _ _)⟩ (fun q hq => ?_) Y BG (X₀.keeps st) (T.keeps st) DG (fun q hq => Heap.lt_size (N q hq).1)) (fun fl s' hl => lv _ _ hl) fun _ _ y => y
  rcases List.mem_append.mp hq with hq | hq
  · refine ⟨(NC q hq).1, (NC q hq).2.1, ?_⟩
    cases e : (hideAll s.heap (news.map (·.1))).get? q.1 with
    | none => rfl
    | some o => have := of_hideAll _ e; rw [(NC q hq).2.2] at this; cases this
  · exact ⟨hk₁ _ _ (N q hq).1, Nat.ne_of_lt (Heap.lt_size (N q hq).1), hideAll_none _ (List.mem_map_of_mem hq)⟩
end
theorem row67 : True := by
  k_with "m mine plain" => ((refine' callT_plain ?k1q66763 ?k2q66763 ?k3q66763 ?k4q66763 ?k5q66763 ?XBq66763 ?TBq66763 ?Dq66763 ?kAq66763 ?kFq66763 ?kKq66763 ?k6q66763 ?k7q66763 ?k8q66763 ?k9q66763 ?kBq66763 ?_ ?c2q66763 ?c3q66763 ?c4q66763 ?c5q66763; (case kAq66763 => exact rfl); (case kFq66763 => exact rfl); (case kKq66763 => assumption); (case k2q66763 => k_asm); (case k1q66763 => k_asm); (case k3q66763 => k_asm); (case k4q66763 => k_asm); (case k5q66763 => k_asm); (case XBq66763 => assumption); (case TBq66763 => assumption); (case Dq66763 => assumption); (case k6q66763 => k_is); (case k7q66763 => k_is); (case k8q66763 => ktr_room); (case k9q66763 => exact BindsTo.of_eq rfl); (case c5q66763 => decide); (case kBq66763 => exact locs rfl); (case c2q66763 => exact rfl); (case c3q66763 => exact rfl); (case c4q66763 => exact rfl); k_whole; intro g' L' h' FG' F' N' B' X' T' D'; (try dsimp only); (try k_fold)))
  k_with "m mine cells0" => ((refine' callT_cells ?k1q10111 ?k2q10111 ?k3q10111 ?k4q10111 ?k5q10111 ?XBq10111 ?TBq10111 ?Dq10111 ?kAq10111 ?kFq10111 ?kKq10111 ?k6q10111 ?k7q10111 ?k8q10111 ?k9q10111 ?kBq10111 ?kDq10111 ?_ ?c2q10111 ?c3q10111 ?c4q10111; (case kAq10111 => exact rfl); (case kFq10111 => exact rfl); (case kKq10111 => assumption); (case k2q10111 => k_asm); (case k1q10111 => k_asm); (case k3q10111 => k_asm); (case k4q10111 => k_asm); (case k5q10111 => k_asm); (case XBq10111 => assumption); (case TBq10111 => assumption); (case Dq10111 => assumption); (case k6q10111 => k_is); (case k7q10111 => k_is); (case k8q10111 => ktr_room); (case k9q10111 => exact BindsTo.of_eq rfl); (case kBq10111 => exact rfl); (case kDq10111 => decide +kernel); (case c2q10111 => exact rfl); (case c3q10111 => exact rfl); (case c4q10111 => exact rfl); k_whole))
  k_with "m mine cells" => ((k_extra "m mine cells0"; intro g' L' h' tk' cells' FG' F' N' Y' B' X' T' D' l1; k_cells Y'; (try simp only [List.cons_append, List.nil_append] at N'); (try dsimp only); (try k_fold)))
  k_with "m LeaveT" => ((k_dflt (refine' LeaveT.intro ?Fq64078 ?Nq64078 ?Tq64078 ?_; (case Fq64078 => k_asm); (case Nq64078 => k_asm); (case Tq64078 => first | assumption | exact KtsTurn.refl); k_whole); intro kh kT kF kN))
  exact trivial

theorem row68 : True := by
  w_top off
  exact trivial
/-- a call without arguments that always raises the text's own exception -/
def CallFails (w : World) (f : Addr) (news : List (Addr × Obj)) (p : Program) (loose : List Str) (mean : ExcName → Option Value) (mg mb : Str → Option Value) : Prop :=
  ∀ {dp un : Nat} {gd : Option (List Code)} {cn : Str} {cs : Scope} {a : Addr} {ccd : Value} {cl : List (Str × Addr)} {outer : List Env} {A₀ : Around} {base h₀ : Heap} {L : Addr} {m : Str → Option Value} {s : Shared} {Q E : Value → Shared → Prop},
    Below A₀ base outer h₀ → Fr h₀ L s.heap m → (hd.heap_39 w.params).In h₀ → News h₀ L s.heap news → Top p loose mean mg mb h₀ → cs.kind = .function → dp + 150 < recursionLimit → un + 1500 < cLine → Fails w cn cs L a ccd cl outer base h₀ m news s E →
    wpAny (model PySem.Challenge.rw_on0180_01.row.prog w) (ktrTop dp un gd cn cs L a ccd cl outer) (call (.ref f) []) Q E s
section
theorem row70 : True := by
  k_with "m call ref" => ((fail_if_success (k_extra "off s69")); ((k_here; (with_reducible show wpAny _ _ (call (Value.ref _) []) _ _ _); k_dflt (refine' hcf ?Bq30530 ?Fq30530 ?Xq30530 ?Nq30530 ?Tq30530 ?hkq30530 ?hdq30530 ?huq30530 ?_; (case Bq30530 => k_asm); (case Fq30530 => k_asm); (case Xq30530 => k_asm); (case Nq30530 => k_asm); (case Tq30530 => k_asm); (case hkq30530 => first | exact rfl | assumption); (case hdq30530 => (k_extra "m mine room")); (case huq30530 => (k_extra "m mine room")); k_whole); unfold Fails; intro g9 e9 t9 vs9 h9 tk9 FG9 S9 U9)))
  k_with "m callWith ref" => ((fail_if_success (k_extra "off s69")); ((k_here; (with_reducible show wpAny _ _ (callWith _ (Value.ref _) [] (backTo _ (starEach [] _)) []) _ _ _); k_dflt (refine' callWith_F0 ?k1q19393 ?_; (case k1q19393 => exact FnAt.of (by k_asm) (by k_mem)); k_whole; try dsimp only [List.nil_append, List.cons_append]))))
  exact trivial
theorem refused_spec {w : World} {dp un : Nat} {gd : Option (List Code)} {cn : Str} {cs : Scope} {a : Addr} {ccd : Value} {cl : List (Str × Addr)} {outer : List Env} {A₀ : Around} {base h₀ : Heap} {L : Addr} {m mg mb : Str → Option Value}
  {p : Program} {loose : List Str} {mean : ExcName → Option Value} {news : List (Addr × Obj)} {s : Shared} {Q E : Value → Shared → Prop} {f c' : Addr} {name qual : Str} {params : Arguments} {body : PySem.Expr} {scope : Scope} {clos : List (Str × Addr)} {pm ctv : Value}
  (B : Below A₀ base outer h₀) (F : Fr h₀ L s.heap m) (X : (hd.heap_39 w.params).In h₀) (N : News h₀ L s.heap news) (T : Top p loose mean mg mb h₀) (hk : cs.kind = .function) (hdp : dp + 160 < recursionLimit) (hun : un + 1600 < cLine)
  (XB : (hd.heap_39 w.params).In base) (TB : Top p loose mean mg mb base) (D : KtsDicts (outer.filterMap (·.frame)) h₀) (hfn : (f, kla_obj name qual params body scope clos pm c' ctv) ∈ news) (hcf : CallFails w f news p loose mean mg mb)
  (hret : ∀ h₀' h' tk', Turned w A₀ base outer p loose mean mg mb h₀ h₀' → Fr h₀' L h' m → News h₀' L h' news → Q (.bool true) { s with heap := h', toks := tk' }) :
  wpAny (model PySem.Challenge.rw_on0180_01.row.prog w) (ktrTop dp un gd cn cs L a ccd cl outer) (call (.ref 185) [.ref f]) Q E s := by
  obtain ⟨k9, n9, g9, c9, m9⟩ := cs
  have hk9 : k9 = .function := hk
  subst hk9
  revert X; k_fill; intro X
  refine wpAny_call ?_
  k_dflt (k_extra "m mine plain")
  k_steps
  exact hret _ _ _ (by assumption) (by assumption) (by assumption)
end
theorem row71 : True := by
  k_with "off s69" => skip
  exact trivial

theorem row72 : True := by
  w_top off
  exact trivial
/-- the lambdas of the law -/
abbrev NoArgs : Arguments := { posonlyargs := [], args := [], vararg := none, kwonlyargs := [], kw_defaults := [], kwarg := none, defaults := [] }
abbrev LScope3 : Scope := { kind := .function, names := [("frame", .free), ("name", .free), ("value", .free)], isGenerator := false, isCoroutine := false, more := [] }
abbrev LScope2 : Scope := { kind := .function, names := [("frame", .free), ("name", .free)], isGenerator := false, isCoroutine := false, more := [] }
section
theorem row74 : True := by
  k_with "m eval Name" => ((fail_if_success (k_extra "off s73")); ((k_here; k_dflt (refine' nameX_F ?Nq56026 ?cq56026 ?mq56026 ?dq56026 ?_ ?aq56026 ?bq56026; (case aq56026 => rfl); (case bq56026 => rfl); (case Nq56026 => k_asm); (case cq56026 => rfl); (case mq56026 => k_mem); (case dq56026 => k_asm); k_whole))))
  k_with "m mine lam" => ((fail_if_success (k_extra "off s73")); ((refine' kla_code ?k1q461 ?k2q461 ?k3q461 ?k4q461 ?k5q461 ?kAq461 ?kFq461 ?kKq461 ?k6q461 ?k7q461 ?k8q461 ?k9q461 ?kBq461 ?_ ?c2q461 ?c3q461 ?c4q461 ?c5q461; (case kAq461 => exact rfl); (case kFq461 => exact rfl); (case kKq461 => assumption); (case k1q461 => k_asm); (case k2q461 => k_asm); (case k3q461 => k_asm); (case k4q461 => k_asm); (case k5q461 => k_asm); (case k6q461 => k_mem); (case k7q461 => exact codeRec_news (by k_asm) (by k_mem) (by assumption) (by assumption)); (case k8q461 => ktr_room); (case k9q461 => exact rfl); (case c5q461 => decide); (case kBq461 => exact locs rfl); (case c2q461 => exact rfl); (case c3q461 => exact rfl); (case c4q461 => exact rfl); k_whole; intro g' L' h' FG' F' N' B' X' T'; (try dsimp only); (try k_fold))))
  exact trivial
theorem lam_bound_fail {w : World} {p : Program} {loose : List Str} {mean : ExcName → Option Value} {mg mb : Str → Option Value} {news : List (Addr × Obj)} {f c' ca cb cc : Addr} {nm qual : Str} {pm ctv : Value} {oc o1 o2 o3 : Obj} {vs : Array Value} {tq : Tok} {fa da oa pa : Addr} {ov : Value} {oo po : Obj} {c cp : List (Str × Int)} {x : Str} {t te : Tok} {e : Int}
  (hl : (f, kla_obj nm qual NoArgs (.Call (.Attribute (.Name "frame" ⟨122, 8, 122, 13⟩) "bound" ⟨122, 8, 122, 19⟩) [.Name "name" ⟨122, 20, 122, 24⟩, .Name "value" ⟨122, 26, 122, 31⟩] [] ⟨122, 8, 122, 32⟩) LScope3 [("value", cc), ("name", cb), ("frame", ca)] pm c' ctv) ∈ news) (hcm : (c', oc) ∈ news) (hcd : oc.data = .fields vs) (hcv : vs[1]? = some (.str qual tq)) (m1 : (ca, o1) ∈ news) (d1 : o1.data = .cell (some (.ref fa))) (m2 : (cb, o2) ∈ news) (d2 : o2.data = .cell (some (.str x t))) (m3 : (cc, o3) ∈ news) (d3 : o3.data = .cell (some (.int e te)))
  (hf : FA w news fa da oa pa ov) (ho : handedIn ov = true) (h1 : (oa, oo) ∈ news) (D : DS w oa oo c) (h2 : (pa, po) ∈ news) (DP : DS w pa po cp) (hno : kdpHas c x = true) (hx : Nm x) : CallFails w f news p loose mean mg mb := by
  unfold CallFails
  intro dp un gd cn cs a ccd cl outer A₀ base h₀ L m s Q E B F X N T hk hdp hun hexc
  obtain ⟨f1, od, f2, t1, t2, t3, rfl⟩ := hf
  replace N := news_cons (N _ hl) (news_cons (N _ hcm) (news_cons (N _ m1) (news_cons (N _ m2) (news_cons (N _ m3) (news_cons (N _ f1) (news_cons (N _ f2) (news_cons (N _ h1) (news_cons (N _ h2) N))))))))
  obtain ⟨k9, n9, g9, c9, m9⟩ := cs
  have hk9 : k9 = .function := hk
  subst hk9
  revert X; k_fill; intro X
  refine wpAny_call ?_
  k_dflt (k_extra "m mine lam")
  k_steps
  rename RaisedS _ _ _ _ _ _ _ _ _ => S9
  exact hexc _ _ _ _ _ _ (by assumption) (raisedS_sub S9 (by k_extra "m mine sub")) (by assumption)
theorem lam_bparam_fail {w : World} {p : Program} {loose : List Str} {mean : ExcName → Option Value} {mg mb : Str → Option Value} {news : List (Addr × Obj)} {f c' ca cb cc : Addr} {nm qual : Str} {pm ctv : Value} {oc o1 o2 o3 : Obj} {vs : Array Value} {tq : Tok} {fa da oa pa : Addr} {ov : Value} {oo po : Obj} {c cp : List (Str × Int)} {x : Str} {t te : Tok} {e : Int}
  (hl : (f, kla_obj nm qual NoArgs (.Call (.Attribute (.Name "frame" ⟨129, 9, 129, 14⟩) "bind_param" ⟨129, 9, 129, 25⟩) [.Name "name" ⟨129, 26, 129, 30⟩, .Name "value" ⟨129, 32, 129, 37⟩] [] ⟨129, 9, 129, 38⟩) LScope3 [("value", cc), ("name", cb), ("frame", ca)] pm c' ctv) ∈ news) (hcm : (c', oc) ∈ news) (hcd : oc.data = .fields vs) (hcv : vs[1]? = some (.str qual tq)) (m1 : (ca, o1) ∈ news) (d1 : o1.data = .cell (some (.ref fa))) (m2 : (cb, o2) ∈ news) (d2 : o2.data = .cell (some (.str x t))) (m3 : (cc, o3) ∈ news) (d3 : o3.data = .cell (some (.int e te)))
  (hf : FA w news fa da oa pa ov) (h1 : (oa, oo) ∈ news) (D : DS w oa oo c) (h2 : (pa, po) ∈ news) (DP : DS w pa po cp) (hno : kdpHas c x = true) (hx : Nm x) : CallFails w f news p loose mean mg mb := by
  unfold CallFails
  intro dp un gd cn cs a ccd cl outer A₀ base h₀ L m s Q E B F X N T hk hdp hun hexc
  obtain ⟨f1, od, f2, t1, t2, t3, rfl⟩ := hf
  replace N := news_cons (N _ hl) (news_cons (N _ hcm) (news_cons (N _ m1) (news_cons (N _ m2) (news_cons (N _ m3) (news_cons (N _ f1) (news_cons (N _ f2) (news_cons (N _ h1) (news_cons (N _ h2) N))))))))
  obtain ⟨k9, n9, g9, c9, m9⟩ := cs
  have hk9 : k9 = .function := hk
  subst hk9
  revert X; k_fill; intro X
  refine wpAny_call ?_
  k_dflt (k_extra "m mine lam")
  k_steps
  rename RaisedS _ _ _ _ _ _ _ _ _ => S9
  exact hexc _ _ _ _ _ _ (by assumption) (raisedS_sub S9 (by k_extra "m mine sub")) (by assumption)
theorem lam_bind_fail {w : World} {p : Program} {loose : List Str} {mean : ExcName → Option Value} {mg mb : Str → Option Value} {news : List (Addr × Obj)} {f c' ca cb cc : Addr} {nm qual : Str} {pm ctv : Value} {oc o1 o2 o3 : Obj} {vs : Array Value} {tq : Tok} {fa da oa pa : Addr} {ov : Value} {oo : Obj} {c : List (Str × Int)} {x : Str} {t te : Tok} {e : Int}
  (hl : (f, kla_obj nm qual NoArgs (.Call (.Attribute (.Name "frame" ⟨130, 8, 130, 13⟩) "bind" ⟨130, 8, 130, 18⟩) [.Name "name" ⟨130, 19, 130, 23⟩, .Name "value" ⟨130, 25, 130, 30⟩] [] ⟨130, 8, 130, 31⟩) LScope3 [("value", cc), ("name", cb), ("frame", ca)] pm c' ctv) ∈ news) (hcm : (c', oc) ∈ news) (hcd : oc.data = .fields vs) (hcv : vs[1]? = some (.str qual tq)) (m1 : (ca, o1) ∈ news) (d1 : o1.data = .cell (some (.ref fa))) (m2 : (cb, o2) ∈ news) (d2 : o2.data = .cell (some (.str x t))) (m3 : (cc, o3) ∈ news) (d3 : o3.data = .cell (some (.int e te)))
  (hf : FA w news fa da oa pa ov) (h1 : (oa, oo) ∈ news) (D : DS w oa oo c) (hno : kdpHas c x = true) (hx : Nm x) : CallFails w f news p loose mean mg mb := by
  unfold CallFails
  intro dp un gd cn cs a ccd cl outer A₀ base h₀ L m s Q E B F X N T hk hdp hun hexc
  obtain ⟨f1, od, f2, t1, t2, t3, rfl⟩ := hf
  replace N := news_cons (N _ hl) (news_cons (N _ hcm) (news_cons (N _ m1) (news_cons (N _ m2) (news_cons (N _ m3) (news_cons (N _ f1) (news_cons (N _ f2) (news_cons (N _ h1) N)))))))
  obtain ⟨k9, n9, g9, c9, m9⟩ := cs
  have hk9 : k9 = .function := hk
  subst hk9
  revert X; k_fill; intro X
  refine wpAny_call ?_
  k_dflt (k_extra "m mine lam")
  k_steps
  rename RaisedS _ _ _ _ _ _ _ _ _ => S9
  exact hexc _ _ _ _ _ _ (by assumption) (raisedS_sub S9 (by k_extra "m mine sub")) (by assumption)
theorem lam_value_fail {w : World} {p : Program} {loose : List Str} {mean : ExcName → Option Value} {mg mb : Str → Option Value} {news : List (Addr × Obj)} {f c' ca cb : Addr} {nm qual : Str} {pm ctv : Value} {oc o1 o2 : Obj} {vs : Array Value} {tq : Tok} {fa : Addr} {l : List (Addr × List (Str × Int))} {x : Str} {t : Tok}
  (hl : (f, kla_obj nm qual NoArgs (.Call (.Attribute (.Name "frame" ⟨149, 55, 149, 60⟩) "value" ⟨149, 55, 149, 66⟩) [.Name "name" ⟨149, 67, 149, 71⟩] [] ⟨149, 55, 149, 72⟩) LScope2 [("name", cb), ("frame", ca)] pm c' ctv) ∈ news) (hcm : (c', oc) ∈ news) (hcd : oc.data = .fields vs) (hcv : vs[1]? = some (.str qual tq)) (m1 : (ca, o1) ∈ news) (d1 : o1.data = .cell (some (.ref fa))) (m2 : (cb, o2) ∈ news) (d2 : o2.data = .cell (some (.str x t)))
  (hC : Chain w news (.ref fa) l) (hb : bndV x l = false) (hx : Nm x) : CallFails w f news p loose mean mg mb := by
  unfold CallFails
  intro dp un gd cn cs a ccd cl outer A₀ base h₀ L m s Q E B F X N T hk hdp hun hexc
  cases hC with
  | @cons _ da oa pa ov oo c l' f1 f2 f3 f4 =>
  have hC : Chain w news (.ref fa) ((fa, c) :: l') := .cons f1 f2 f3 f4
  obtain ⟨g1, od, g2, t1, t2, t3, rfl⟩ := f1
  replace N := news_cons (N _ hl) (news_cons (N _ hcm) (news_cons (N _ m1) (news_cons (N _ m2) (news_cons (N _ g1) (news_cons (N _ g2) N)))))
  obtain ⟨k9, n9, g9, c9, m9⟩ := cs
  have hk9 : k9 = .function := hk
  subst hk9
  revert X; k_fill; intro X
  refine wpAny_call ?_
  k_dflt (k_extra "m mine lam")
  k_steps
  rename RaisedS _ _ _ _ _ _ _ _ _ => S9
  exact hexc _ _ _ _ _ _ (by assumption) (raisedS_sub S9 (by k_extra "m mine sub")) (by assumption)
end
theorem row75 : True := by
  k_with "off s73" => skip
  exact trivial

theorem row76 : True := by
  w_top off
  exact trivial
/-- one frame of the law with its book -/
structure Rec where
  fa : Addr
  da : Addr
  pa : Addr
  oa : Addr
  bd : Addr
  bp : Addr
  bo : Addr
  ov : Value
  out : Option Nat
  par : List (Str × Int)
  own : List (Str × Int)
/-- a book's dict -/
def BD (w : World) (o : Obj) (bv : Value) (bp bo : Addr) : Prop := (o.IsDictOf (PySem.strKind PySem.Challenge.rw_on0180_01.row.prog w) [("outer", bv), ("params", .ref bp), ("own", .ref bo)])
def IsOut (v : Value) : Option Nat → Prop
  | none => v = .none
  | some j => ∃ t, v = .int j t
structure RecOk (w : World) (R : List (Addr × Obj)) (r : Rec) : Prop where
  frame : FA w R r.fa r.da r.oa r.pa r.ov
  par : ∃ o, (r.pa, o) ∈ R ∧ DS w r.pa o r.par
  own : ∃ o, (r.oa, o) ∈ R ∧ DS w r.oa o r.own
  book : ∃ o bv, (r.bd, o) ∈ R ∧ BD w o bv r.bp r.bo ∧ IsOut bv r.out
  bpar : ∃ o, (r.bp, o) ∈ R ∧ DS w r.bp o r.par
  bown : ∃ o, (r.bo, o) ∈ R ∧ DS w r.bo o r.own
theorem RecOk.mono {w : World} {R R' : List (Addr × Obj)} {r : Rec} (x : RecOk w R r) (k : ∀ q ∈ R, q ∈ R') : RecOk w R' r :=
  ⟨x.frame.mono k, let ⟨o, a, b⟩ := x.par; ⟨o, k _ a, b⟩, let ⟨o, a, b⟩ := x.own; ⟨o, k _ a, b⟩, let ⟨o, v, a, b, c⟩ := x.book; ⟨o, v, k _ a, b, c⟩, let ⟨o, a, b⟩ := x.bpar; ⟨o, k _ a, b⟩, let ⟨o, a, b⟩ := x.bown; ⟨o, k _ a, b⟩⟩
/-- the places that never change -/
def Rec.stat (r : Rec) : List Addr := [r.fa, r.da, r.pa, r.bd, r.bp]
structure Sep (r r' : Rec) : Prop where
  a : r.oa ∉ r'.stat
  b : r.bo ∉ r'.stat
  c : r.oa ≠ r'.bo
/-- what hangs together in the table of the law -/
structure Recs (w : World) (R : List (Addr × Obj)) (recs : List Rec) : Prop where
  ok : ∀ (i : Nat) (r : Rec), recs[i]? = some r → RecOk w R r
  lnk : ∀ (i : Nat) (r : Rec), recs[i]? = some r → (r.out = none ∧ r.ov = .none) ∨ ∃ (j : Nat) (r' : Rec), r.out = some j ∧ j < i ∧ recs[j]? = some r' ∧ r.ov = .ref r'.fa
  sep : ∀ (i j : Nat) (r r' : Rec), recs[i]? = some r → recs[j]? = some r' → Sep r r'
  dst : ∀ (i j : Nat) (r r' : Rec), recs[i]? = some r → recs[j]? = some r' → i ≠ j → r.oa ≠ r'.oa ∧ r.bo ≠ r'.bo
theorem Recs.nil {w : World} {R : List (Addr × Obj)} : Recs w R [] := ⟨fun i r h => by simp at h, fun i r h => by simp at h, fun i j r r' h => by simp at h, fun i j r r' h => by simp at h⟩
theorem Recs.mono {w : World} {R R' : List (Addr × Obj)} {recs : List Rec} (x : Recs w R recs) (k : ∀ q ∈ R, q ∈ R') : Recs w R' recs := ⟨fun i r h => (x.ok i r h).mono k, x.lnk, x.sep, x.dst⟩
theorem get_push {α : Type} {l : List α} {x r : α} {i : Nat} (h : (l ++ [x])[i]? = some r) : l[i]? = some r ∨ (i = l.length ∧ r = x) := by
  by_cases hi : i < l.length
  · rw [List.getElem?_append_left hi] at h; exact .inl h
  · rw [List.getElem?_append_right (by omega)] at h
    by_cases hz : i - l.length = 0
    · rw [hz] at h; exact .inr ⟨by omega, by simpa using h.symm⟩
    · rw [List.getElem?_eq_none (by simp; omega)] at h; cases h
theorem get_set {α : Type} {l : List α} {x r : α} {i j : Nat} (h : (l.set i x)[j]? = some r) : (j = i ∧ r = x) ∨ (j ≠ i ∧ l[j]? = some r) := by
  rw [List.getElem?_set] at h
  by_cases e : i = j
  · subst e
    rw [if_pos rfl] at h
    split at h
    · exact .inl ⟨rfl, (Option.some.inj h).symm⟩
    · cases h
  · rw [if_neg e] at h; exact .inr ⟨Ne.symm e, h⟩
theorem get_left {α : Type} {l l' : List α} {r : α} {i : Nat} (h : l[i]? = some r) : (l ++ l')[i]? = some r := by
  rw [List.getElem?_append_left (List.getElem?_eq_some_iff.mp h).1]; exact h
theorem RecOk.mem_stat {w : World} {R : List (Addr × Obj)} {r : Rec} (x : RecOk w R r) : ∀ d ∈ r.stat, ∃ o, (d, o) ∈ R := by
  intro d hd
  obtain ⟨f1, od, f2, _⟩ := x.frame
  obtain ⟨o1, p1, _⟩ := x.par
  obtain ⟨o2, v, p2, _⟩ := x.book
  obtain ⟨o3, p3, _⟩ := x.bpar
  simp only [Rec.stat, List.mem_cons, List.not_mem_nil, or_false] at hd
  rcases hd with rfl | rfl | rfl | rfl | rfl
  · exact ⟨_, f1⟩
  · exact ⟨_, f2⟩
  · exact ⟨_, p1⟩
  · exact ⟨_, p2⟩
  · exact ⟨_, p3⟩
/-- one more frame -/
theorem Recs.push {w : World} {R R' : List (Addr × Obj)} {recs : List Rec} {x : Rec} (I : Recs w R recs) (k : ∀ q ∈ R, q ∈ R') (hx : RecOk w R' x)
    (hl : (x.out = none ∧ x.ov = .none) ∨ ∃ (j : Nat) (r' : Rec), x.out = some j ∧ recs[j]? = some r' ∧ x.ov = .ref r'.fa)
    (hf : ∀ q ∈ R, ∀ d ∈ [x.fa, x.da, x.pa, x.oa, x.bd, x.bo], @LT.lt Nat _ q.1 d) (hbp : (∀ q ∈ R, @LT.lt Nat _ q.1 x.bp) ∨ ∃ (i : Nat) (r : Rec), recs[i]? = some r ∧ r.bp = x.bp) (hs : Sep x x) : Recs w R' (recs ++ [x]) := by
  have old : ∀ (i : Nat) (r : Rec), recs[i]? = some r → (∃ o, (r.oa, o) ∈ R) ∧ (∃ o, (r.bo, o) ∈ R) := fun i r h => ⟨let ⟨o, a, _⟩ := (I.ok i r h).own; ⟨o, a⟩, let ⟨o, a, _⟩ := (I.ok i r h).bown; ⟨o, a⟩⟩
  have xo : ∀ q ∈ R, @LT.lt Nat _ q.1 x.oa := fun q hq => hf q hq _ (by simp)
  have xb : ∀ q ∈ R, @LT.lt Nat _ q.1 x.bo := fun q hq => hf q hq _ (by simp)
  have sx : ∀ (i : Nat) (r : Rec), recs[i]? = some r → Sep x r := fun i r h => by
    refine ⟨fun hm => ?_, fun hm => ?_, fun e => ?_⟩
    · obtain ⟨o, ho⟩ := (I.ok i r h).mem_stat _ hm; exact absurd (xo _ ho) (Nat.lt_irrefl _)
    · obtain ⟨o, ho⟩ := (I.ok i r h).mem_stat _ hm; exact absurd (xb _ ho) (Nat.lt_irrefl _)
    · obtain ⟨_, o, ho⟩ := old i r h; have := xo _ ho; rw [e] at this; exact absurd this (Nat.lt_irrefl _)
  have nbp : ∀ (i : Nat) (r : Rec), recs[i]? = some r → r.oa ≠ x.bp ∧ r.bo ≠ x.bp := fun i r h => by
    obtain ⟨⟨o, ho⟩, o', ho'⟩ := old i r h
    rcases hbp with hb | ⟨j, r', hj, e⟩
    · exact ⟨Nat.ne_of_lt (hb _ ho), Nat.ne_of_lt (hb _ ho')⟩
    · have s := I.sep i j r r' h hj
      exact ⟨fun e' => s.a (by rw [e', ← e]; simp [Rec.stat]), fun e' => s.b (by rw [e', ← e]; simp [Rec.stat])⟩
  have rx : ∀ (i : Nat) (r : Rec), recs[i]? = some r → Sep r x := fun i r h => by
    obtain ⟨⟨o, ho⟩, o', ho'⟩ := old i r h
    refine ⟨fun hm => ?_, fun hm => ?_, fun e => ?_⟩
    · simp only [Rec.stat, List.mem_cons, List.not_mem_nil, or_false] at hm
      rcases hm with e | e | e | e | e
      · exact absurd (e ▸ hf _ ho x.fa (by simp)) (Nat.lt_irrefl _)
      · exact absurd (e ▸ hf _ ho x.da (by simp)) (Nat.lt_irrefl _)
      · exact absurd (e ▸ hf _ ho x.pa (by simp)) (Nat.lt_irrefl _)
      · exact absurd (e ▸ hf _ ho x.bd (by simp)) (Nat.lt_irrefl _)
      · exact (nbp i r h).1 e
    · simp only [Rec.stat, List.mem_cons, List.not_mem_nil, or_false] at hm
      rcases hm with e | e | e | e | e
      · exact absurd (e ▸ hf _ ho' x.fa (by simp)) (Nat.lt_irrefl _)
      · exact absurd (e ▸ hf _ ho' x.da (by simp)) (Nat.lt_irrefl _)
      · exact absurd (e ▸ hf _ ho' x.pa (by simp)) (Nat.lt_irrefl _)
      · exact absurd (e ▸ hf _ ho' x.bd (by simp)) (Nat.lt_irrefl _)
      · exact (nbp i r h).2 e
    · exact absurd (e ▸ xb _ ho) (Nat.lt_irrefl _)
  refine ⟨fun i r h => ?_, fun i r h => ?_, fun i j r r' h h' => ?_, fun i j r r' h h' hne => ?_⟩
  · rcases get_push h with h | ⟨rfl, rfl⟩
    · exact (I.ok i r h).mono k
    · exact hx
  · rcases get_push h with h | ⟨rfl, rfl⟩
    · rcases I.lnk i r h with h1 | ⟨j, r', h1, h2, h3, h4⟩
      · exact .inl h1
      · exact .inr ⟨j, r', h1, h2, get_left h3, h4⟩
    · rcases hl with h1 | ⟨j, r', h1, h3, h4⟩
      · exact .inl h1
      · exact .inr ⟨j, r', h1, (List.getElem?_eq_some_iff.mp h3).1, get_left h3, h4⟩
  · rcases get_push h with g | ⟨e1, e2⟩ <;> rcases get_push h' with g' | ⟨e1', e2'⟩
    · exact I.sep i j r r' g g'
    · rw [e2']; exact rx i r g
    · rw [e2]; exact sx j r' g'
    · rw [e2, e2']; exact hs
  · rcases get_push h with g | ⟨e1, e2⟩ <;> rcases get_push h' with g' | ⟨e1', e2'⟩
    · exact I.dst i j r r' g g' hne
    · obtain ⟨⟨o, ho⟩, o', ho'⟩ := old i r g
      rw [e2']
      exact ⟨Nat.ne_of_lt (xo _ ho), Nat.ne_of_lt (xb _ ho')⟩
    · obtain ⟨⟨o, ho⟩, o', ho'⟩ := old j r' g'
      rw [e2]
      exact ⟨Nat.ne_of_gt (xo _ ho), Nat.ne_of_gt (xb _ ho')⟩
    · exact absurd (e1.trans e1'.symm) hne
/-- a frame binds one name more -/
theorem Recs.bind {w : World} {R R' : List (Addr × Obj)} {recs : List Rec} {i : Nat} {r : Rec} {c' : List (Str × Int)} {oo bo : Obj} (I : Recs w R recs) (hi : recs[i]? = some r) (k : ∀ q ∈ R, q.1 ≠ r.oa → q.1 ≠ r.bo → q ∈ R')
    (h1 : (r.oa, oo) ∈ R') (D1 : DS w r.oa oo c') (h2 : (r.bo, bo) ∈ R') (D2 : DS w r.bo bo c') : Recs w R' (recs.set i { r with own := c' }) := by
  have stay : ∀ (j : Nat) (r' : Rec), recs[j]? = some r' → FA w R' r'.fa r'.da r'.oa r'.pa r'.ov ∧ (∃ o, (r'.pa, o) ∈ R' ∧ DS w r'.pa o r'.par) ∧ (∃ o bv, (r'.bd, o) ∈ R' ∧ BD w o bv r'.bp r'.bo ∧ IsOut bv r'.out) ∧ (∃ o, (r'.bp, o) ∈ R' ∧ DS w r'.bp o r'.par) := fun j r' hj => by
    have s := I.sep i j r r' hi hj
    have x := I.ok j r' hj
    have ne : ∀ d ∈ r'.stat, d ≠ r.oa ∧ d ≠ r.bo := fun d hd => ⟨fun e => s.a (e ▸ hd), fun e => s.b (e ▸ hd)⟩
    have go : ∀ d o, d ∈ r'.stat → (d, o) ∈ R → (d, o) ∈ R' := fun d o hd ho => k _ ho (ne d hd).1 (ne d hd).2
    obtain ⟨f1, od, f2, f3⟩ := x.frame
    refine ⟨⟨go _ _ (by simp [Rec.stat]) f1, od, go _ _ (by simp [Rec.stat]) f2, f3⟩, ?_, ?_, ?_⟩
    · obtain ⟨o, a, b⟩ := x.par; exact ⟨o, go _ _ (by simp [Rec.stat]) a, b⟩
    · obtain ⟨o, v, a, b⟩ := x.book; exact ⟨o, v, go _ _ (by simp [Rec.stat]) a, b⟩
    · obtain ⟨o, a, b⟩ := x.bpar; exact ⟨o, go _ _ (by simp [Rec.stat]) a, b⟩
  have back : ∀ (j : Nat) (r' : Rec), (recs.set i { r with own := c' })[j]? = some r' → ∃ r₀ : Rec, recs[j]? = some r₀ ∧ r'.fa = r₀.fa ∧ r'.oa = r₀.oa ∧ r'.bo = r₀.bo ∧ r'.stat = r₀.stat ∧ r'.out = r₀.out ∧ r'.ov = r₀.ov := fun j r' h => by
    rcases get_set h with ⟨rfl, rfl⟩ | ⟨_, h⟩
    · exact ⟨r, hi, rfl, rfl, rfl, rfl, rfl, rfl⟩
    · exact ⟨r', h, rfl, rfl, rfl, rfl, rfl, rfl⟩
  refine ⟨fun j r' h => ?_, fun j r' h => ?_, fun a b r₁ r₂ h h' => ?_, fun a b r₁ r₂ h h' hne => ?_⟩
  · rcases get_set h with ⟨rfl, rfl⟩ | ⟨hne, h⟩
    · obtain ⟨a1, a2, a3, a4⟩ := stay _ _ hi
      exact ⟨a1, a2, ⟨oo, h1, D1⟩, a3, a4, ⟨bo, h2, D2⟩⟩
    · obtain ⟨a1, a2, a3, a4⟩ := stay _ _ h
      have s := I.sep j i r' r h hi
      have s2 := I.sep i j r r' hi h
      have d := I.dst j i r' r h hi hne
      refine ⟨a1, a2, ?_, a3, a4, ?_⟩
      · obtain ⟨o, a, b⟩ := (I.ok _ _ h).own; exact ⟨o, k _ a d.1 s.c, b⟩
      · obtain ⟨o, a, b⟩ := (I.ok _ _ h).bown; exact ⟨o, k _ a (Ne.symm s2.c) d.2, b⟩
  · obtain ⟨r₀, h0, e1, e2, e3, e4, e5, e6⟩ := back j r' h
    rcases I.lnk j r₀ h0 with ⟨q1, q2⟩ | ⟨j', r₁, q1, q2, q3, q4⟩
    · exact .inl ⟨e5.trans q1, e6.trans q2⟩
    · refine .inr ?_
      by_cases hj : j' = i
      · subst hj
        rw [hi] at q3
        cases q3
        exact ⟨j', { r with own := c' }, e5.trans q1, q2, by rw [List.getElem?_set_self (List.getElem?_eq_some_iff.mp hi).1], e6.trans q4⟩
      · exact ⟨j', r₁, e5.trans q1, q2, by rw [List.getElem?_set_ne (Ne.symm hj)]; exact q3, e6.trans q4⟩
  · obtain ⟨s₁, g1, _, a2, a3, _⟩ := back _ _ h
    obtain ⟨s₂, g2, _, _, b3, b4, _⟩ := back _ _ h'
    have s := I.sep _ _ _ _ g1 g2
    exact ⟨a2 ▸ b4 ▸ s.a, a3 ▸ b4 ▸ s.b, a2 ▸ b3 ▸ s.c⟩
  · obtain ⟨s₁, g1, _, a2, a3, _⟩ := back _ _ h
    obtain ⟨s₂, g2, _, b2, b3, _⟩ := back _ _ h'
    have s := I.dst _ _ _ _ g1 g2 hne
    exact ⟨a2 ▸ b2 ▸ s.1, a3 ▸ b3 ▸ s.2⟩
/-- a way from a frame outwards -/
inductive Path (recs : List Rec) : Option Nat → List (Nat × Rec) → Prop
  | nil : Path recs none []
  | cons {i : Nat} {r : Rec} {l : List (Nat × Rec)} : recs[i]? = some r → Path recs r.out l → Path recs (some i) ((i, r) :: l)
theorem Recs.path {w : World} {R : List (Addr × Obj)} {recs : List Rec} (I : Recs w R recs) : ∀ (i : Nat) (r : Rec), recs[i]? = some r → ∃ l, Path recs (some i) l ∧ l.length ≤ i + 1 := by
  intro i
  induction i using Nat.strongRecOn with
  | _ i ih =>
    intro r h
    rcases I.lnk i r h with ⟨h1, _⟩ | ⟨j, r', h1, h2, h3, _⟩
    · exact ⟨[(i, r)], .cons h (h1 ▸ .nil), by simp⟩
    · obtain ⟨l, p, hl⟩ := ih j h2 r' h3
      exact ⟨(i, r) :: l, .cons h (h1 ▸ p), by rw [List.length_cons]; omega⟩
theorem Path.mem {recs : List Rec} {o : Option Nat} {l : List (Nat × Rec)} (p : Path recs o l) : ∀ q ∈ l, recs[q.1]? = some q.2 := by
  induction p with
  | nil => intro q hq; cases hq
  | cons h _ ih => intro q hq; rcases List.mem_cons.mp hq with rfl | hq; exact h; exact ih q hq
abbrev toCh (l : List (Nat × Rec)) : List (Addr × List (Str × Int)) := l.map fun q => (q.2.fa, q.2.own)
theorem Recs.chain {w : World} {R : List (Addr × Obj)} {recs : List Rec} (I : Recs w R recs) {o : Option Nat} {l : List (Nat × Rec)} (p : Path recs o l) : ∀ v, (o = none ∧ v = .none) ∨ (∃ (i : Nat) (r : Rec), o = some i ∧ recs[i]? = some r ∧ v = .ref r.fa) → Chain w R v (toCh l) := by
  induction p with
  | nil => rintro v (⟨_, rfl⟩ | ⟨i, r, h, _⟩); exact .nil; cases h
  | @cons i r l h _ ih =>
    rintro v (⟨h', _⟩ | ⟨i', r', h', h2, rfl⟩)
    · cases h'
    · cases h'
      rw [h] at h2
      cases h2
      have x := I.ok i r h
      obtain ⟨o, a, b⟩ := x.own
      refine .cons x.frame a b (ih _ ?_)
      rcases I.lnk i r h with h1 | ⟨j, r', h1, _, h3, h4⟩
      · exact .inl h1
      · exact .inr ⟨j, r', h1, h3, h4⟩
theorem Recs.chain_at {w : World} {R : List (Addr × Obj)} {recs : List Rec} (I : Recs w R recs) {i : Nat} {r : Rec} {l : List (Nat × Rec)} (h : recs[i]? = some r) (p : Path recs (some i) l) : Chain w R (.ref r.fa) (toCh l) := I.chain p _ (.inr ⟨i, r, rfl, h, rfl⟩)

theorem row77 : True := by
  w_top off
  exact trivial
/-- the table of a code object's own lambdas -/
def TabOk (qual : Str) (R : List (Addr × Obj)) (o : Obj) : Prop := ∃ ps : Array Value, o = tabObj ps ∧ TriplesOk ps.toList ∧ ∀ pos c, codeAmong pos ps.toList = some c → ∃ c' oc vs t, c = .ref c' ∧ (c', oc) ∈ R ∧ oc.data = .fields vs ∧ vs[1]? = some (.str qual t)
theorem TabOk.nil {qual : Str} {R : List (Addr × Obj)} : TabOk qual R (tabObj #[]) := ⟨#[], rfl, trivial, fun _ _ h => by cases h⟩
theorem TabOk.mono {qual : Str} {R R' : List (Addr × Obj)} {o : Obj} (x : TabOk qual R o) (k : ∀ q ∈ R, q ∈ R') : TabOk qual R' o :=
  let ⟨ps, e, t, h⟩ := x; ⟨ps, e, t, fun pos c hc => let ⟨c', oc, vs, tq, a, b, r⟩ := h pos c hc; ⟨c', oc, vs, tq, a, k _ b, r⟩⟩
theorem among_snoc {pos : Pos} {a b : Nat} {c c' : Value} : ∀ (l : List Value), TriplesOk l → codeAmong pos (l ++ [rawInt a, rawInt b, c]) = some c' → codeAmong pos l = some c' ∨ c' = c := by
  intro l
  fun_induction TriplesOk l with
  | case1 =>
    intro _ h
    simp only [List.nil_append, codeAmong, rawInt] at h
    split at h
    · exact .inr (Option.some.inj h).symm
    · cases h
  | case2 x t y u z rest ih =>
    intro h1 h2
    simp only [List.cons_append, codeAmong] at h2 ⊢
    split at h2
    · rename_i hc; rw [if_pos hc]; exact .inl h2
    · rename_i hc; rw [if_neg hc]; exact ih h1 h2
  | case3 l h1 h2 => intro h; exact h.elim
theorem triples_snoc {a b : Nat} {c : Value} : ∀ (l : List Value), TriplesOk l → TriplesOk (l ++ [rawInt a, rawInt b, c]) := by
  intro l
  fun_induction TriplesOk l with
  | case1 => intro _; exact trivial
  | case2 x t y u z rest ih => intro h; exact ih h
  | case3 l h1 h2 => intro h; exact h.elim
def AllNe (c : Nat) : List Addr → Prop
  | [] => True
  | d :: l => @Ne Nat d c ∧ AllNe c l
theorem allNe_of {c : Addr} : ∀ {l : List Addr}, (∀ d ∈ l, d ≠ c) → AllNe c l
  | [], _ => trivial
  | d :: _, h => ⟨h d (.head _), allNe_of fun q hq => h q (.tail _ hq)⟩
theorem lam_make {M : Model} {A : Around} {E : Value → Shared → Prop} {s : Shared} {h₀ : Heap} {L a c P : Addr} {m mg mb : Str → Option Value} {cn : Str} {cs : Scope} {ccd : Value} {cl : List (Str × Addr)} {news R : List (Addr × Obj)} {g : Obj → List (Addr × Obj)}
    {p : Program} {loose : List Str} {mean : ExcName → Option Value} {qual : Str} {params : Arguments} {body : PySem.Expr} {scope : Scope} {o : Obj} {pos : Pos} {clos : List (Str × Addr)} {Q : Value → Shared → Prop} (ds : List Addr)
    (F : Fr h₀ L s.heap m) (N : News h₀ L s.heap news) (T : Top p loose mean mg mb h₀) (C : CodeHd h₀ c P) (hcd : ccd = .ref c) (U : UpdF P o news g) (TO : TabOk qual R o) (hR : ∀ q ∈ R, q ∈ news) (hRP : ∀ q ∈ R, q.1 ≠ P) (hds : ∀ d ∈ ds, (∃ o, (d, o) ∈ news) ∧ ∀ q ∈ R, q.1 ≠ d)
    (hq : (envX cn cs L a ccd cl).qual ++ "<lambda>" = qual) (hdef : defaultsOf params (envX cn cs L a ccd cl) = ([], [])) (hcl : closureFor scope (envX cn cs L a ccd cl) = pure clos)
    (h : ∀ f c' oc vs t pm ctv o' h' tk', Fr h₀ L h' m → News h₀ L h' ((f, kla_obj "<lambda>" qual params body scope clos pm c' ctv) :: (c', oc) :: g o') → oc.data = .fields vs → vs[1]? = some (.str qual t) → TabOk qual ((c', oc) :: R) o' → (∀ q ∈ (c', oc) :: g o', q.1 < f) → AllNe c' ds → Q (.ref f) { s with heap := h', toks := tk' }) :
    wpAny M A (eval (.Lambda params body scope pos) (envX cn cs L a ccd cl)) Q E s := by
  subst hq
  obtain ⟨ps, rfl, ht, hc⟩ := TO
  obtain ⟨pre, post, hnews, hg, h1, h2⟩ := U.split
  refine kla_eval hdef ?_
  have sub : ∀ o' q, q ∈ g o' → ∃ q' ∈ news, q'.1 = q.1 := fun o' q hq => by
    rw [hg] at hq
    rcases List.mem_append.mp hq with hq | hq
    · exact ⟨q, by rw [hnews]; exact List.mem_append_left _ hq, rfl⟩
    · rcases List.mem_cons.mp hq with rfl | hq
      · exact ⟨(P, tabObj ps), by rw [hnews]; exact List.mem_append_right _ (.head _), rfl⟩
      · exact ⟨q, by rw [hnews]; exact List.mem_append_right _ (.tail _ hq), rfl⟩
  cases hb : codeAmong pos ps.toList with
  | none =>
    refine kla_nest F N T C hcd U ht hb hcl (fun f c' oc vs t ctv h' tk F' N' d1 d2 l1 l2 => h f c' oc vs t _ ctv _ h' tk F' N' d1 d2 ⟨_, rfl, ?_, fun pos' cc hcc => ?_⟩ (fun q hq => ?_) (allNe_of fun d hd => ?_))
    · rw [Array.toList_append]; exact triples_snoc _ ht
    · rw [Array.toList_append] at hcc
      rcases among_snoc _ ht hcc with hcc | rfl
      · obtain ⟨c₂, oc₂, vs₂, t₂, a1, a2, a3⟩ := hc _ _ hcc
        exact ⟨c₂, oc₂, vs₂, t₂, a1, .tail _ a2, a3⟩
      · exact ⟨c', oc, vs, t, rfl, .head _, d1, d2⟩
    · rcases List.mem_cons.mp hq with rfl | hq
      · exact l2
      · obtain ⟨q', hq', e⟩ := sub _ _ hq
        exact e ▸ Nat.lt_trans (l1 q' hq') l2
    · obtain ⟨⟨o, ho⟩, _⟩ := hds d hd
      exact Nat.ne_of_lt (l1 _ ho)
  | some cv =>
    obtain ⟨c', oc, vs, t, rfl, a2, a3, a4⟩ := hc _ _ hb
    have hm : (P, tabObj ps) ∈ news := by rw [hnews]; exact List.mem_append_right _ (.head _)
    have ee : ∀ q, q ∈ g (tabObj ps) ↔ q ∈ news := fun q => by rw [hg, hnews]
    refine kla_hit F N T C hcd hm ht hb hcl (fun f ctv h' tk F' N' l1 => h f c' oc vs t _ ctv (tabObj ps) h' tk F' (news_cons (N' _ (.head _)) (news_cons (N' _ (.tail _ (hR _ a2))) (news_of N' (fun q hq => .tail _ ((ee q).mp hq))))) a3 a4 ⟨ps, rfl, ht, fun pos' cc hcc => ?_⟩ (fun q hq => ?_) (allNe_of fun d hd => ?_))
    · obtain ⟨c₂, oc₂, vs₂, t₂, a1, a2, a3⟩ := hc _ _ hcc
      exact ⟨c₂, oc₂, vs₂, t₂, a1, .tail _ a2, a3⟩
    · rcases List.mem_cons.mp hq with rfl | hq
      · exact l1 _ (hR _ a2)
      · exact l1 _ ((ee q).mp hq)
    · exact fun e => (hds d hd).2 _ a2 e.symm
/-- all that the law keeps, apart from the places themselves -/
structure Inv (w : World) (src FL BL : Addr) (so t1 t2 fo bo : Obj) (R : List (Addr × Obj)) (recs : List Rec) : Prop where
  S : Src so
  T1 : TabOk "_law_deed.<locals>.<lambda>" R t1
  T2 : TabOk "_law_stands.<locals>.<lambda>" R t2
  F : ∃ A n, fo = listOf A n ∧ A = (recs.map fun r => Value.ref r.fa).toArray
  B : ∃ A n, bo = listOf A n ∧ A = (recs.map fun r => Value.ref r.bd).toArray
  rs : Recs w R recs
  R0 : ∀ q ∈ R, q.1 ≠ src
  R1 : ∀ q ∈ R, q.1 ≠ (187 : Addr)
  R2 : ∀ q ∈ R, q.1 ≠ (194 : Addr)
  R3 : ∀ q ∈ R, q.1 ≠ FL
  R4 : ∀ q ∈ R, q.1 ≠ BL
  ne : @Ne Nat src 187 ∧ @Ne Nat src 194 ∧ @Ne Nat src FL ∧ @Ne Nat src BL ∧ @Ne Nat FL 187 ∧ @Ne Nat FL 194 ∧ @Ne Nat BL 187 ∧ @Ne Nat BL 194 ∧ @Ne Nat FL BL
/-- the places of the law -/
abbrev led (src FL BL : Addr) (so t1 t2 fo bo : Obj) (R : List (Addr × Obj)) : List (Addr × Obj) := (src, so) :: ((187 : Addr), t1) :: ((194 : Addr), t2) :: (FL, fo) :: (BL, bo) :: R

theorem row78 : True := by
  w_top off
  exact trivial
theorem item_at {w : World} {A : Around} {E : Value → Shared → Prop} {s : Shared} {h₀ : Heap} {L l : Addr} {news : List (Addr × Obj)} {value slice : PySem.Expr} {A' : Array Value} {n : Nat} {k : Int} {u : Tok} {v : Value} {Q : Value → Shared → Prop}
    (N : News h₀ L s.heap news) (hm : (l, listOf A' n) ∈ news) (h0 : 0 ≤ k) (hhi : k < 2 ^ 63) (hx : A'[k.toNat]? = some v) (h : Q v s)
    (hs : subscripted slice false (.ref l) (.int k u) = operate [.ref l, .int k u] (getItem (.ref l) (.int k u)) := by with_unfolding_all rfl) :
    wpAny (model PySem.Challenge.rw_on0180_01.row.prog w) A (subscriptTail value slice (.ref l) (.int k u)) Q E s :=
  tail_any (IsList.ofNews N hm).typeIs slot_list_getitem.lookup (wpAny_getItem_list (IsList.ofNews N hm) h0 hhi hx h) hs
theorem row79 : True := by
  k_with "m mine item" => ((k_here; (with_reducible show wpAny _ _ (subscriptTail _ _ (Value.ref _) (Value.int _ _)) _ _ _); k_dflt (refine' item_at ?Nq85738 ?mq85738 ?aq85738 ?bq85738 ?xq85738 ?_ ?sq85738; (case Nq85738 => k_asm); (case mq85738 => k_mem); (case xq85738 => assumption); (case aq85738 => omega); (case bq85738 => omega); (case sq85738 => with_unfolding_all rfl); k_whole)))
  k_with "m mine key" => ((k_here; (with_reducible show wpAny _ _ (subscriptTail _ _ (Value.ref _) (Value.str _ _)) _ _ _); k_dflt (refine kda_item (knd := PySem.strKind _ _) (by k_asm) (by k_mem) (by k_asm) (strKind_is _ _ _ _) (by rfl) ?_)))
  exact trivial
abbrev ixs (l : List (Nat × Rec)) : List Int := l.map fun q => (q.1 : Int)
def ChJ (recs : List Rec) (l : List (Nat × Rec)) (d : List (Nat × Rec)) (v : Value) (o : Obj) : Prop :=
  ∃ opt vs n done, Path recs opt d ∧ IsOut v opt ∧ o = listOf (List.toArray vs) n ∧ IntsAre vs done ∧ done ++ ixs d = ixs l
theorem isOut_handed {v : Value} {o : Option Nat} (h : IsOut v o) : handedIn v = true := by
  cases o with
  | none => rw [show v = .none from h]; rfl
  | some j => obtain ⟨t, rfl⟩ := h; rfl
theorem ints_snoc {vs : List Value} {ns : List Int} {i : Int} {t : Tok} (h : IntsAre vs ns) : IntsAre (vs ++ [.int i t]) (ns ++ [i]) := by
  induction h with
  | nil => exact .cons _ _ .nil
  | cons n t _ ih => exact .cons n t ih
theorem ints_len {vs : List Value} {ns : List Int} (h : IntsAre vs ns) : vs.length = ns.length := by
  induction h with
  | nil => rfl
  | cons n t _ ih => rw [List.length_cons, List.length_cons, ih]
section
theorem row81 : True := by
  k_with "m exec" => ((fail_if_success (k_extra "off s80")); (((with_reducible show wpAny _ _ (exec (Stmt.While _ _ _ _) _) _ _ _); k_dflt (refine' my_while (y := "at") (d₀ := l) List.length (ChJ recs l) ?Fq71185 ?Nq71185 ?hyq71185 ?hjq71185 (Stay.out ?turn) ?hEq71185; (case Fq71185 => k_asm); (case Nq71185 => k_asm); (case hyq71185 => exact rfl); (case hjq71185 => exact ⟨_, [], _, [], hp, ⟨_, rfl⟩, rfl, .nil, rfl⟩); (case hEq71185 => passes_own)))))
  k_with "m call builtin:list.append" => ((fail_if_success (k_extra "off s80")); ((k_here; (with_reducible show wpAny _ _ (call (Value.builtin _) [Value.ref _, _]) _ _ _); k_dflt (refine' append_K ?k1q85408 ?k2q85408 ?k3q85408 ?_ ?zq85408; (case k1q85408 => k_asm); (case k2q85408 => k_asm); (case k3q85408 => k_upd); (case zq85408 => assumption); k_whole); intro h' F' N')))
  k_with "m subscriptTail Name Name ref int" => ((fail_if_success (k_extra "off s80")); (k_extra "m mine item"))
  k_with "m subscriptTail" => ((fail_if_success (k_extra "off s80")); (k_extra "m mine key"))
  exact trivial
theorem chain_spec {w : World} {dp un : Nat} {gd : Option (List Code)} {cn : Str} {cs : Scope} {a : Addr} {ccd : Value} {cl : List (Str × Addr)} {outer : List Env} {A₀ : Around} {base h₀ : Heap} {L : Addr} {m mg mb : Str → Option Value}
  {p : Program} {loose : List Str} {mean : ExcName → Option Value} {news : List (Addr × Obj)} {s : Shared} {Q E : Value → Shared → Prop} {BL : Addr} {A : Array Value} {n i : Nat} {t : Tok} {R : List (Addr × Obj)} {recs : List Rec} {l : List (Nat × Rec)}
  (B : Below A₀ base outer h₀) (F : Fr h₀ L s.heap m) (X : (hd.heap_39 w.params).In h₀) (N : News h₀ L s.heap news) (T : Top p loose mean mg mb h₀) (hk : cs.kind = .function) (hdp : dp + 120 < recursionLimit) (hun : un + 1200 < cLine)
  (hm : (BL, listOf A n) ∈ news) (hA : A = (recs.map fun r => Value.ref r.bd).toArray) (I : Recs w R recs) (hR : ∀ q ∈ R, q ∈ news) (hp : Path recs (some i) l) (hl : l.length ≤ 100) (hrl : recs.length ≤ 1000)
  (hret : ∀ d vs n' h' tk', Fr h₀ L h' m → News h₀ L h' ((d, listOf (List.toArray vs) n') :: news) → IntsAre vs (ixs l) → (∀ q ∈ news, q.1 < d) → Q (.ref d) { s with heap := h', toks := tk' }) :
  wpAny (model PySem.Challenge.rw_on0180_01.row.prog w) (ktrTop dp un gd cn cs L a ccd cl outer) (call (.ref 173) [.ref BL, .int i t]) Q E s := by
  replace N := news_cons (N _ hm) N
  k_extra "m mine in"
  k_steps
  case turn =>
    intro d v o h tk hJ F9 N9
    obtain ⟨opt, vs, n', done, hp', ho, rfl, hv, hd⟩ := hJ
    rename (_ ∧ AllLt _ news) => l1
    cases hp' with
    | nil =>
      have e : v = .none := ho
      subst e
      k_steps
      have hd2 : done = ixs l := by simpa [ixs] using hd
      rw [hd2] at hv
      exact hret _ vs _ _ _ (by assumption) (news_of (by assumption) (fun q hq => by rcases List.mem_cons.mp hq with rfl | hq; exact .head _; exact .tail _ (.tail _ hq))) hv (allLt_mem l1.2)
    | @cons j r l' hj hp'' =>
      obtain ⟨t', rfl⟩ := ho
      have hjl := (List.getElem?_eq_some_iff.mp hj).1
      have hx9 : A[((j : Nat) : Int).toNat]? = some (Value.ref r.bd) := by rw [hA]; simp [hj]
      have hz : (List.toArray vs).size ≤ sizeLine := by
        have e := congrArg List.length hd
        simp only [List.length_append, ixs, List.length_map] at e
        have e2 := ints_len hv
        rw [List.size_toArray, sizeLine_eq]; omega
      obtain ⟨ob, bv, b1, b2, b3⟩ := (I.ok j r hj).book
      unfold BD at b2
      have N8 := news_cons (N9 _ (.tail _ (.tail _ (hR _ b1)))) N9
      have q0 : @Ne Nat r.bd _ := Nat.ne_of_lt (allLt_mem l1.2 _ (hR _ b1))
      have hbv : handedIn bv = true := isOut_handed b3
      k_steps
      refine MyEnd.intro (o' := listOf (List.toArray (vs ++ [.int j t'])) (n' + 1)) (by assumption) (by assumption) (fun q hq => ?_) ⟨r.out, vs ++ [.int j t'], n' + 1, done ++ [(j : Int)], hp'', b3, rfl, ints_snoc hv, by simpa [ixs] using hd⟩ (Nat.lt_succ_self _)
      simp only [List.mem_cons] at hq ⊢
      rcases hq with h | h | h <;> simp [h]
end
theorem row82 : True := by
  k_with "off s80" => skip
  exact trivial

theorem row83 : True := by
  w_top off
  exact trivial
/-- pairs of a name and an int, as tuples that lie somewhere -/
inductive Tups (R : List (Addr × Obj)) : List Value → List (Str × Int) → Prop
  | nil : Tups R [] []
  | cons {t : Addr} {x : Str} {tx tv : Tok} {v : Int} {n : Nat} {ys : List Value} {c : List (Str × Int)} : (t, ({ cls := .type "tuple", data := .seq #[.str x tx, .int v tv] n } : Obj)) ∈ R → Tups R ys c → Tups R (.ref t :: ys) ((x, v) :: c)
theorem Tups.mono {R R' : List (Addr × Obj)} {ys : List Value} {c : List (Str × Int)} (h : Tups R ys c) (k : ∀ q ∈ R, q ∈ R') : Tups R' ys c := by
  induction h with
  | nil => exact .nil
  | cons hm _ ih => exact .cons (k _ hm) ih
theorem Tups.snoc {R : List (Addr × Obj)} {ys : List Value} {c : List (Str × Int)} {t : Addr} {x : Str} {tx tv : Tok} {v : Int} {n : Nat} (h : Tups R ys c) (hm : (t, ({ cls := .type "tuple", data := .seq #[.str x tx, .int v tv] n } : Obj)) ∈ R) : Tups R (ys ++ [.ref t]) (c ++ [(x, v)]) := by
  induction h with
  | nil => exact .cons hm .nil
  | cons hm' _ ih => exact .cons hm' ih
theorem Tups.len {R : List (Addr × Obj)} {ys : List Value} {c : List (Str × Int)} (h : Tups R ys c) : ys.length = c.length := by
  induction h with
  | nil => rfl
  | cons _ _ ih => simp [ih]
theorem Tups.at {R : List (Addr × Obj)} {ys : List Value} {c : List (Str × Int)} (h : Tups R ys c) : ∀ (i : Nat) (v : Value), ys[i]? = some v → ∃ t x tx k tk n, v = .ref t ∧ (t, ({ cls := .type "tuple", data := .seq #[.str x tx, .int k tk] n } : Obj)) ∈ R ∧ c[i]? = some (x, k) := by
  induction h with
  | nil => intro i v h; simp at h
  | @cons t x tx tv k n ys c hm _ ih =>
    intro i v h
    cases i with
    | zero => simp at h; exact ⟨t, x, tx, k, tv, n, h.symm, hm, by simp⟩
    | succ i => simpa using ih i v (by simpa using h)
section
variable {prog : Program} {w : World} {A : Around} {E : Value → Shared → Prop} {s : Shared}
theorem plain_update_loop : plainId "dict.update.loop" = true := by decide +kernel
theorem entry_update_loop : entryFor table "dict.update.loop" = some Builtin.«dict.update.loop» := entryFor_of_fast (by kernel_rfl)
theorem list_no_keys : typeLookup (.type "list") "keys" = pure none := by rw [typeLookup_type, builtinLookup_eq_fast]; kernel_rfl
theorem no_keys_by {a : Addr} {xs : Array Value} {k : Nat} {u : Tok} {Q : Value → Shared → Prop} (hx : s.heap.get? a = some (listOf xs k)) (hA : A.handled = none)
    (h : ∀ h' tk e, Heap.NewExcOf s.heap h' e "AttributeError" → E (.ref e) { s with heap := h', toks := tk }) : wpAny (model prog w) A (getAttrBy (.ref a) (.str "keys" u) false) Q E s := by
  obtain ⟨hp, g, d, tk, os⟩ := s
  have hT : ∀ tk', (⟨hp, g, d, tk', os⟩ : Shared).TypeIs (.ref a) "list" := fun _ => ⟨_, hx, rfl⟩
  have f1 := sub_AttributeError
  have f3 := F.slot_list_getattribute.lookup
  have f4 := F.slot_list_getattribute.bind (.ref a)
  have f5 := am_list_getattr_none
  unfold getAttrBy
  repeat (any_goals (first | assumption | exact hT _ | ((with_reducible show wpAny _ _ (call (Value.builtin "list.__getattribute__") _ _) _ _ _); refine call_meets F.slot_list_getattribute (hT _) am_entry_list_getattribute (F.args_list_getattribute_2 _ _) (meets_getattribute_miss_list a xs k #[] "keys" _ list_no_keys (by decide) (by size_fits)) ⟨hx, hA, fun h' tk' e hx' => ?_⟩) | wp_step))
  obtain ⟨t', u', he⟩ := hx'.there
  show wpAny _ _ (getattributeRaised _ _ _ _ _ _ _) _ _ _
  unfold getattributeRaised
  repeat (any_goals (first | assumption | wp_step))
  exact h _ _ _ hx'.of
theorem no_keys {a : Addr} {xs : Array Value} {k : Nat} {Q : Option Value → Shared → Prop} (hx : s.heap.get? a = some (listOf xs k)) (hA : A.handled = none)
    (h : ∀ h' tk, (∀ b o, s.heap.get? b = some o → h'.get? b = some o) → Q none { s with heap := h', toks := tk }) : wpAny (model prog w) A (getAttr? (.ref a) "keys") Q E s := by
  unfold getAttr? getAttrBy?
  refine wpAny_bind (wpAny_mkText (wpAny_bind (wpAny_attempt (no_keys_by hx hA fun h' tk e hn => ?_))))
  obtain ⟨ob, vs, he, hc, hd, _⟩ := hn.there
  refine wpAny_bind (wpAny_isInstance (T := "AttributeError") ⟨_, he, hc⟩ sub_AttributeError ?_)
  exact wpAny_pure (h _ _ hn.keeps)
theorem update_loop {I l d : Addr} {its : Array Value} {cl : List (Str × Int)} (hI : l ≠ I) (hdI : d ≠ I) (hdl : d ≠ l) (hh : A.handled = none)
    (hok : ∀ (i : Nat) (v : Value), its[i]? = some v → ∃ (t : Addr) (x : Str) (tx : Tok) (k : Int) (tk : Tok) (n : Nat), v = .ref t ∧ t ≠ I ∧ t ≠ d ∧ s.heap.get? t = some ({ cls := .type "tuple", data := .seq #[.str x tx, .int k tk] n } : Obj) ∧ cl[i]? = some (x, k)) (hcl : cl.length = its.size) (hsz : its.size ≤ 1000) (hls : s.heap.IsList l its)
    {R : Result → Shared → Prop} : ∀ (j i : Nat) (h : Heap) (tk t0 : Nat) (kvs : List (Str × Value)) (c : List (Str × Int)), i + j = its.size → (∀ b o, b ≠ I → b ≠ d → s.heap.get? b = some o → h.get? b = some o) → h.IsListIter I l i → h.DictOf (PySem.strKind prog w) d kvs → PyProof.V.FlatPairs PyData.str kvs (kdpD c) → kvs.length ≤ i →
      (∀ h' tk' kvs', (∀ b o, b ≠ I → b ≠ d → s.heap.get? b = some o → h'.get? b = some o) → h'.DictOf (PySem.strKind prog w) d kvs' → PyProof.V.FlatPairs PyData.str kvs' (kdpD (kdpUpd c (cl.drop i))) → R (.ok (.ret .none)) { s with heap := h', toks := tk' }) →
      codeAny (model prog w) A (.builtin "dict.update.loop" ⟨[.ref d, .ref I, .int i t0, .none], []⟩) R { s with heap := h, toks := tk } := by
  intro j
  have W := Walks.list (prog := prog) (w := w) (A := A.in1) hh I l hI its
  have lst : ∀ h : Heap, (∀ b o, b ≠ I → b ≠ d → s.heap.get? b = some o → h.get? b = some o) → h.IsList l its := fun h hk => let ⟨o, e, r⟩ := hls; ⟨o, hk _ _ hI (Ne.symm hdl) e, r⟩
  induction j with
  | zero =>
    intro i h tk t0 kvs c hij hk hit hd hf hlen hR
    obtain rfl : i = its.size := by omega
    refine codeAny_builtin entry_update_loop ?_
    rw [Around.under_plainId plain_update_loop _]
    show wpAny _ A.in1 (pyNext (.ref I) >>= _) _ _ _
    refine wpAny_bind (W.done _ _ _ ⟨hit, lst h hk⟩ fun h' tk' hk' => ?_)
    refine wpAny_bind (wpAny_pure (wpAny_pure ?_))
    refine hR h' tk' kvs (fun b o n1 n2 e => hk' b o (by simpa using n1) (hk b o n1 n2 e)) ?_ ?_
    · obtain ⟨o, es, ep, ho, r⟩ := hd
      exact ⟨o, es, ep, hk' _ _ (by simpa using hdI) ho, r⟩
    · rw [← hcl, List.drop_length]; exact hf
  | succ j ih =>
    intro i h tk t0 kvs c hij hk hit hd hf hlen hR
    refine codeAny_builtin entry_update_loop ?_
    rw [Around.under_plainId plain_update_loop _]
    show wpAny _ A.in1 (pyNext (.ref I) >>= _) _ _ _
    refine wpAny_bind (W.item i _ _ _ (by omega) ⟨hit, lst h hk⟩ fun v h' tk' hv hst hk' => ?_)
    obtain ⟨t, x, tx, k, tkk, n, rfl, nI, nd, ht, hc⟩ := hok i v hv
    have ht' : h'.get? t = some ({ cls := .type "tuple", data := .seq #[.str x tx, .int k tkk] n } : Obj) := hk' _ _ (by simpa using nI) (hk _ _ nI nd ht)
    have hd' : h'.DictOf (PySem.strKind prog w) d kvs := by
      obtain ⟨o, es, ep, ho, r⟩ := hd
      exact ⟨o, es, ep, hk' _ _ (by simpa using hdI) ho, r⟩
    have hcd : cl.drop i = (x, k) :: cl.drop (i + 1) := by
      obtain ⟨h1, h2⟩ := List.getElem?_eq_some_iff.mp hc
      rw [List.drop_eq_getElem_cons h1, h2]
    dsimp only
    refine wpAny_bind (wpAny_holding (wpAny_bind (wpAny_tryCatch ?_)))
    unfold Builtin.Dict.pairItems
    refine wpAny_bind (wpAny_typeOf (T := "tuple") ⟨_, ht', rfl⟩ ?_)
    rw [if_pos (by decide)]
    refine wpAny_bind (wpAny_seqItems ht' rfl (wpAny_pure ?_))
    show wpAny _ _ (holding _ (dictSet d (.str x tx) (.int k tkk))) _ _ _
    refine wpAny_holding (wpAny_dictSet_pairs (strKind_is _ _ _ _) hd' (fun h'' hd'' hs'' => ?_) (by rw [sizeLine_eq]; omega))
    refine wpAny_pure ⟨plainId_quiet plain_update_loop _, ih (i + 1) h'' _ _ _ (kdpPut c x k) (by omega) (fun b o n1 n2 e => (hs''.2 b n2).trans (hk' b o (by simpa using n1) (hk b o n1 n2 e))) ?_ hd'' ?_ ?_ ?_⟩
    · obtain ⟨o, e, r⟩ := hst.1; exact ⟨o, (hs''.2 I (Ne.symm hdI)).trans e, r⟩
    · rw [← kdpD_put]; exact hf.stored PyProof.V.same_str x (PyProof.V.Flat.int k tkk)
    · have : (stored kvs x (Value.int k tkk)).length ≤ kvs.length + 1 := by
        unfold stored
        split <;> simp
      omega
    · intro h3 tk3 kvs3 a1 a2 a3
      refine hR h3 tk3 kvs3 a1 a2 ?_
      rw [hcd]
      exact a3
end
theorem kdpUpd_nodup : ∀ (c' c : List (Str × Int)), (c ++ c').map (·.1) |>.Nodup → kdpUpd c c' = c ++ c' := by
  intro c'
  induction c' with
  | nil => intro c _; simp [kdpUpd]
  | cons q r ih =>
    intro c hn
    show kdpUpd (kdpPut c q.1 q.2) r = _
    have e : kdpPut c q.1 q.2 = c ++ [q] := by
      unfold kdpPut
      rw [if_neg]
      intro ha
      obtain ⟨a, ha, hq⟩ := List.any_eq_true.mp ha
      rw [List.map_append, List.nodup_append] at hn
      exact hn.2.2 a.1 (List.mem_map_of_mem ha) q.1 (by simp) (by simpa using hq)
    rw [e, ih (c ++ [q]) (by simpa using hn)]
    simp
theorem dict_pairs {w : World} {A : Around} {E : Value → Shared → Prop} {s : Shared} {h₀ : Heap} {L l : Addr} {m : Str → Option Value} {news : List (Addr × Obj)} {ys : List Value} {n : Nat} {c : List (Str × Int)} {Q : Value → Shared → Prop}
    (F : Fr h₀ L s.heap m) (N : News h₀ L s.heap news) (hbig : h₀.NoLimit) (hA : A.handled = none) (hm : (l, listOf (List.toArray ys) n) ∈ news) (hy : Tups news ys c) (hc : DC c)
    (k : ∀ d o h' tk', Fr h₀ L h' m → News h₀ L h' ((d, o) :: news) → DS w d o c → (∀ q ∈ news, q.1 < d) → Q (.ref d) { s with heap := h', toks := tk' }) :
    wpAny (model PySem.Challenge.rw_on0180_01.row.prog w) A (call (.type "dict") [.ref l]) Q E s := by
  refine callType_codes (Q₁ := fun obj s₁ => obj = .ref s.heap.objs.size ∧ s₁ = { s with heap := s.heap.push { cls := .type "dict", data := .dict #[] } }) PySem.F.kt_called_dict (PySem.F.kt_typeCall_dict_1 _) PySem.F.entry_dict_init (kt_code_dict_new _ ⟨rfl, rfl⟩) ?_
  rintro obj s₁ ⟨rfl, rfl⟩
  have hnew : (s.heap.push { cls := .type "dict", data := .dict #[] }).DictOf (PySem.strKind PySem.Challenge.rw_on0180_01.row.prog w) s.heap.objs.size [] := Heap.DictOf.new s.heap
  have hg := (N _ hm).1
  have hg1 : (s.heap.push { cls := .type "dict", data := .dict #[] }).get? l = some (listOf (List.toArray ys) n) := Heap.get?_push_of_some _ hg
  have hlt : l < s.heap.objs.size := Heap.lt_size hg
  refine ⟨hnew.typeIs, PySem.F.args_dict_init_2 _ _, ?_⟩
  unfold Builtin.«dict.__init__»
  refine wpAny_bind ?_
  unfold Builtin.Dict.selfAndRest
  refine wpAny_bind (wpAny_notOrdered_dict hnew.typeIs ?_)
  show wpAny _ _ (pure (s.heap.objs.size, [Value.ref l])) _ _ _
  refine wpAny_pure ?_
  show wpAny _ _ (Builtin.Dict.updateFrom "dict.__init__" s.heap.objs.size (.ref l) [] .none) _ _ _
  unfold Builtin.Dict.updateFrom
  refine wpAny_bind (wpAny_typeOf (T := "list") ⟨_, hg1, rfl⟩ ?_)
  rw [if_pos (by decide)]
  refine wpAny_bind (no_keys hg1 hA fun h₂ tk₂ k₂ => ?_)
  have k02 : ∀ b o, s.heap.get? b = some o → h₂.get? b = some o := fun b o e => k₂ _ _ (Heap.get?_push_of_some _ e)
  have hl2 : h₂.IsList l (List.toArray ys) := ⟨_, k02 _ _ hg, rfl, n, rfl⟩
  have hd2 : h₂.get? s.heap.objs.size = some { cls := .type "dict", data := .dict #[] } := k₂ _ _ (Heap.get?_push_at rfl rfl)
  have hdlt : s.heap.objs.size < h₂.objs.size := Heap.lt_size hd2
  refine wpAny_bind (wpAny_rule (wpAny_bind (wpAny_pyIter_list hl2 ?_)))
  refine wpAny_pure ⟨plainId_quiet plain_update_loop _, ?_⟩
  refine update_loop (s := s) (l := l) (d := s.heap.objs.size) (I := h₂.objs.size) (its := List.toArray ys) (cl := c) (Nat.ne_of_lt (Nat.lt_trans hlt hdlt)) (Nat.ne_of_lt hdlt) (Nat.ne_of_gt hlt) (show A.in1.handled = none from hA) (fun i v hv => ?_) (by rw [List.size_toArray, hy.len]) (by rw [List.size_toArray, hy.len]; exact Nat.le_trans hc.len (by decide)) ⟨_, hg, rfl, n, rfl⟩ ys.length 0 (h₂.push { cls := .type "list_iterator", data := .fields #[.ref l, .int 0 0] }) tk₂ 0 [] [] (by rw [List.size_toArray]; omega) (fun b o n1 n2 e => Heap.get?_push_of_some _ (k02 b o e)) ?it ?_ .nil (Nat.le_refl _) ?hR
  case it => exact ⟨_, Heap.get?_push_size _ rfl, rfl, rfl⟩
  · obtain ⟨t, x, tx, kk, tk, nn, e1, e2, e3⟩ := hy.at i v (by simpa using hv)
    have := Heap.lt_size (N _ e2).1
    exact ⟨t, x, tx, kk, tk, nn, e1, Nat.ne_of_lt (Nat.lt_trans this hdlt), Nat.ne_of_lt this, (N _ e2).1, e3⟩
  · obtain ⟨o, es, ep, ho, r⟩ := hnew
    exact ⟨o, es, ep, Heap.get?_push_of_some _ (k₂ _ _ ho), r⟩
  · intro h' tk' kvs' a1 a2 a3
    refine ⟨rfl, ?_⟩
    rw [List.drop_zero, kdpUpd_nodup c [] (by simpa using hc.2), List.nil_append] at a3
    obtain ⟨o, ho, hd⟩ := Heap.dictOf_iff.mp a2
    have kk : ∀ b o, s.heap.get? b = some o → h'.get? b = some o := fun b o e => a1 b o (Nat.ne_of_lt (Nat.lt_trans (Heap.lt_size e) hdlt)) (Nat.ne_of_lt (Heap.lt_size e)) e
    refine k _ o h' tk' (F.after kk) (fun q hq => ?_) ⟨F.notModules (modules_low hbig), hc, _, hd, a3⟩ (fun q hq => Heap.lt_size (N q hq).1)
    rcases List.mem_cons.mp hq with rfl | hq
    · exact ⟨ho, Nat.ne_of_gt F.ns.lt, none_at_size F⟩
    · exact ⟨kk _ _ (N q hq).1, (N q hq).2⟩

theorem row85 : True := by
  w_top off
  exact trivial
theorem listOf_inj {A B : Array Value} {n m : Nat} (e : listOf A n = listOf B m) : A = B ∧ n = m := by
  injection e with _ _ e
  injection e with e1 e2
  exact ⟨e1, e2⟩
theorem made_ret {w : World} {h₀ h' : Heap} {L src FL BL fa da pa oa bd bp bo lo : Addr} {ledger R : List (Addr × Obj)} {recs : List Rec} {so t1 t2 so' od po oo bdo bpo boo : Obj} {A A2 : Array Value} {n n2 n' n2' : Nat} {ov bv : Value} {out : Option Nat} {par own : List (Str × Int)}
    (N : News h₀ L h' ledger) (I : Inv w src FL BL so t1 t2 (listOf A n) (listOf A2 n2) R recs) (hFL : (FL, listOf (A.push (.ref fa)) n') ∈ ledger) (h1 : (fa, instObj 134 da) ∈ ledger) (h2 : (da, od) ∈ ledger) (h3 : FD w od ov pa oa) (h4 : (pa, po) ∈ ledger) (h5 : DS w pa po par) (h6 : (oa, oo) ∈ ledger) (h7 : DS w oa oo own)
    (hBL : (BL, listOf (A2.push (.ref bd)) n2') ∈ ledger) (h8 : (bd, bdo) ∈ ledger) (h9 : BD w bdo bv bp bo) (h10 : (bp, bpo) ∈ ledger) (h11 : DS w bp bpo par) (h12 : (bo, boo) ∈ ledger) (h13 : DS w bo boo own) (h14 : IsOut bv out)
    (hlk : (out = none ∧ ov = .none) ∨ ∃ (j : Nat) (r' : Rec), out = some j ∧ recs[j]? = some r' ∧ ov = .ref r'.fa)
    (hsrc : (src, so') ∈ ledger) (hS : Src so') (h187 : ((187 : Addr), t1) ∈ ledger) (h194 : ((194 : Addr), t2) ∈ ledger) (hR : ∀ q ∈ R, q ∈ ledger)
    (hlo : ∀ q ∈ R, @LT.lt Nat _ q.1 lo) (hfix : @LT.lt Nat _ src lo ∧ @LT.lt Nat _ 187 lo ∧ @LT.lt Nat _ 194 lo ∧ @LT.lt Nat _ FL lo ∧ @LT.lt Nat _ BL lo)
    (hnew : @LE.le Nat _ lo fa ∧ @LE.le Nat _ lo da ∧ @LE.le Nat _ lo pa ∧ @LE.le Nat _ lo oa ∧ @LE.le Nat _ lo bd ∧ @LE.le Nat _ lo bo)
    (hbp : @LE.le Nat _ lo bp ∨ ((bp, bpo) ∈ R ∧ ∃ (i : Nat) (r : Rec), recs[i]? = some r ∧ r.bp = bp))
    (hsep : @Ne Nat oa fa ∧ @Ne Nat oa da ∧ @Ne Nat oa pa ∧ @Ne Nat oa bd ∧ @Ne Nat oa bp ∧ @Ne Nat oa bo ∧ @Ne Nat bo fa ∧ @Ne Nat bo da ∧ @Ne Nat bo pa ∧ @Ne Nat bo bd ∧ @Ne Nat bo bp) :
    ∃ x R', News h₀ L h' (led src FL BL so' t1 t2 (listOf (A.push (.ref fa)) n') (listOf (A2.push (.ref bd)) n2') R') ∧ Inv w src FL BL so' t1 t2 (listOf (A.push (.ref fa)) n') (listOf (A2.push (.ref bd)) n2') R' (recs ++ [x]) ∧ ∀ q ∈ R, q ∈ R' := by
  obtain ⟨hS0, hT1, hT2, ⟨A', m', eA, hA⟩, ⟨A2', m2', eA2, hA2⟩, rs, R0, R1, R2, R3, R4, ne⟩ := I
  have eA := (listOf_inj eA).1
  have eA2 := (listOf_inj eA2).1
  subst eA eA2
  obtain ⟨b1, b2, b3, b4, b5, b6⟩ := hnew
  obtain ⟨f1, f2, f3, f4, f5⟩ := hfix
  obtain ⟨s1, s2, s3, s4, s5, s6, s7, s8, s9, s10, s11⟩ := hsep
  let x : Rec := ⟨fa, da, pa, oa, bd, bp, bo, ov, out, par, own⟩
  let R' := (fa, instObj 134 da) :: (da, od) :: (pa, po) :: (oa, oo) :: (bd, bdo) :: (bp, bpo) :: (bo, boo) :: R
  have sub : ∀ q ∈ R, q ∈ R' := fun q hq => by simp only [R', List.mem_cons]; simp [hq]
  have out' : ∀ d : Addr, @LT.lt Nat _ d lo → (∀ q ∈ R, q.1 ≠ d) → ∀ q ∈ R', q.1 ≠ d := fun d hd k q hq => by
    simp only [R', List.mem_cons] at hq
    rcases hq with rfl | rfl | rfl | rfl | rfl | rfl | rfl | hq
    · exact Nat.ne_of_gt (Nat.lt_of_lt_of_le hd b1)
    · exact Nat.ne_of_gt (Nat.lt_of_lt_of_le hd b2)
    · exact Nat.ne_of_gt (Nat.lt_of_lt_of_le hd b3)
    · exact Nat.ne_of_gt (Nat.lt_of_lt_of_le hd b4)
    · exact Nat.ne_of_gt (Nat.lt_of_lt_of_le hd b5)
    · rcases hbp with hb | ⟨hb, _⟩
      · exact Nat.ne_of_gt (Nat.lt_of_lt_of_le hd hb)
      · exact k _ hb
    · exact Nat.ne_of_gt (Nat.lt_of_lt_of_le hd b6)
    · exact k q hq
  have M1 : (fa, instObj 134 da) ∈ R' := by simp [R']
  have M2 : (da, od) ∈ R' := by simp [R']
  have M3 : (pa, po) ∈ R' := by simp [R']
  have M4 : (oa, oo) ∈ R' := by simp [R']
  have M5 : (bd, bdo) ∈ R' := by simp [R']
  have M6 : (bp, bpo) ∈ R' := by simp [R']
  have M7 : (bo, boo) ∈ R' := by simp [R']
  refine ⟨x, R', fun q hq => ?_, ⟨hS, hT1.mono sub, hT2.mono sub, ⟨_, _, rfl, by rw [hA]; simp [x]⟩, ⟨_, _, rfl, by rw [hA2]; simp [x]⟩, rs.push sub ⟨⟨M1, od, M2, h3⟩, ⟨po, M3, h5⟩, ⟨oo, M4, h7⟩, ⟨bdo, bv, M5, h9, h14⟩, ⟨bpo, M6, h11⟩, ⟨boo, M7, h13⟩⟩ hlk (fun q hq d hd => ?_) ?_ ⟨?_, ?_, s6⟩,
    out' _ f1 R0, out' _ f2 R1, out' _ f3 R2, out' _ f4 R3, out' _ f5 R4, ne⟩, sub⟩
  · simp only [led, R', List.mem_cons] at hq
    rcases hq with rfl | rfl | rfl | rfl | rfl | rfl | rfl | rfl | rfl | rfl | rfl | rfl | hq
    · exact N _ hsrc
    · exact N _ h187
    · exact N _ h194
    · exact N _ hFL
    · exact N _ hBL
    · exact N _ h1
    · exact N _ h2
    · exact N _ h4
    · exact N _ h6
    · exact N _ h8
    · exact N _ h10
    · exact N _ h12
    · exact N _ (hR q hq)
  · have l := hlo q hq
    simp only [x, List.mem_cons, List.not_mem_nil, or_false] at hd
    rcases hd with rfl | rfl | rfl | rfl | rfl | rfl
    · exact Nat.lt_of_lt_of_le l b1
    · exact Nat.lt_of_lt_of_le l b2
    · exact Nat.lt_of_lt_of_le l b3
    · exact Nat.lt_of_lt_of_le l b4
    · exact Nat.lt_of_lt_of_le l b5
    · exact Nat.lt_of_lt_of_le l b6
  · rcases hbp with hb | ⟨_, hb⟩
    · exact .inl fun q hq => Nat.lt_of_lt_of_le (hlo q hq) hb
    · exact .inr hb
  · simp only [x, Rec.stat, List.mem_cons, List.not_mem_nil, or_false, not_or]; exact ⟨s1, s2, s3, s4, s5⟩
  · simp only [x, Rec.stat, List.mem_cons, List.not_mem_nil, or_false, not_or]; exact ⟨s7, s8, s9, s10, s11⟩
theorem made_ret_k {P : Prop} {w : World} {h₀ h' : Heap} {L src FL BL fa da pa oa bd bp bo lo : Addr} {ledger R : List (Addr × Obj)} {recs : List Rec} {so t1 t2 so' od po oo bdo bpo boo : Obj} {A A2 : Array Value} {n n2 n' n2' : Nat} {ov bv : Value} {out : Option Nat} {par own : List (Str × Int)}
    (N : News h₀ L h' ledger) (I : Inv w src FL BL so t1 t2 (listOf A n) (listOf A2 n2) R recs) (hFL : (FL, listOf (A.push (.ref fa)) n') ∈ ledger) (h1 : (fa, instObj 134 da) ∈ ledger) (h2 : (da, od) ∈ ledger) (h3 : FD w od ov pa oa) (h4 : (pa, po) ∈ ledger) (h5 : DS w pa po par) (h6 : (oa, oo) ∈ ledger) (h7 : DS w oa oo own)
    (hBL : (BL, listOf (A2.push (.ref bd)) n2') ∈ ledger) (h8 : (bd, bdo) ∈ ledger) (h9 : BD w bdo bv bp bo) (h10 : (bp, bpo) ∈ ledger) (h11 : DS w bp bpo par) (h12 : (bo, boo) ∈ ledger) (h13 : DS w bo boo own) (h14 : IsOut bv out)
    (hlk : (out = none ∧ ov = .none) ∨ ∃ (j : Nat) (r' : Rec), out = some j ∧ recs[j]? = some r' ∧ ov = .ref r'.fa)
    (hsrc : (src, so') ∈ ledger) (hS : Src so') (h187 : ((187 : Addr), t1) ∈ ledger) (h194 : ((194 : Addr), t2) ∈ ledger) (hR : ∀ q ∈ R, q ∈ ledger)
    (hlo : ∀ q ∈ R, q.1 < lo) (hfix : @LT.lt Nat _ src lo ∧ @LT.lt Nat _ 187 lo ∧ @LT.lt Nat _ 194 lo ∧ @LT.lt Nat _ FL lo ∧ @LT.lt Nat _ BL lo)
    (hnew : @LE.le Nat _ lo fa ∧ @LE.le Nat _ lo da ∧ @LE.le Nat _ lo pa ∧ @LE.le Nat _ lo oa ∧ @LE.le Nat _ lo bd ∧ @LE.le Nat _ lo bo)
    (hbp : @LE.le Nat _ lo bp ∨ ((bp, bpo) ∈ R ∧ ∃ (i : Nat) (r : Rec), recs[i]? = some r ∧ r.bp = bp))
    (hsep : @Ne Nat oa fa ∧ @Ne Nat oa da ∧ @Ne Nat oa pa ∧ @Ne Nat oa bd ∧ @Ne Nat oa bp ∧ @Ne Nat oa bo ∧ @Ne Nat bo fa ∧ @Ne Nat bo da ∧ @Ne Nat bo pa ∧ @Ne Nat bo bd ∧ @Ne Nat bo bp)
    (k : ∀ x R', News h₀ L h' (led src FL BL so' t1 t2 (listOf (A.push (.ref fa)) n') (listOf (A2.push (.ref bd)) n2') R') → Inv w src FL BL so' t1 t2 (listOf (A.push (.ref fa)) n') (listOf (A2.push (.ref bd)) n2') R' (recs ++ [x]) → (∀ q ∈ R, q ∈ R') → P) : P := by
  obtain ⟨x, R', a, b, c⟩ := made_ret N I hFL h1 h2 h3 h4 h5 h6 h7 hBL h8 h9 h10 h11 h12 h13 h14 hlk hsrc hS h187 h194 hR hlo hfix hnew hbp hsep
  exact k x R' a b c
theorem isOut_toNat {k : Int} {t : Tok} (h : 0 ≤ k) : IsOut (.int k t) (some k.toNat) := ⟨t, by rw [Int.toNat_of_nonneg h]⟩

theorem row86 : True := by
  w_top off
  exact trivial
section
variable {prog : Program} {w : World} {A : Around} {h₀ : Heap} {L : Addr} {m : Str → Option Value} {env : Env} {ct elt : Expr} {z : Str} {scope : Scope} {cl : List (Str × Addr)} {s : Shared} {S : List (Addr × Obj) → Prop} {P : Nat → Value → Prop} {Fin : List Value → List (Addr × Obj) → Prop} {news : List (Addr × Obj)}
/-- a comprehension with a test, by an invariant -/
theorem comp_loop {n : Nat} (J : Nat → List Value → List (Addr × Obj) → Prop) (h0 : J 0 [] news)
    (turn : ∀ i v ys news I oI C oC D m₂ h tk (E' : Value → Shared → Prop), i < n → P i v → J i ys news → LCg.NsObj oC m₂ → m₂ z = some v → Fr h₀ L h m → News h₀ L h ((I, oI) :: (C, oC) :: (D, LCg.lst ys) :: news) → LCg.Off3 I C D news → ((@Ne Nat I C) ∧ (@Ne Nat I D) ∧ (@Ne Nat C D)) →
      wpAny (model prog w) A (isTrue ct (compEnvC scope cl C env) (eval ct (compEnvC scope cl C env))) (fun b s' => if b = true then wpAny (model prog w) A (eval elt (compEnvC scope cl C env)) (LCg.CompEnd h₀ L m { s with heap := h, toks := tk } I oI C oC D (LCg.lst ys) S (fun y news' => J (i + 1) (ys ++ [y]) news')) E' s'
        else LCg.CompEnd h₀ L m { s with heap := h, toks := tk } I oI C oC D (LCg.lst ys) S (fun _ news' => J (i + 1) ys news') Value.none s') E' { s with heap := h, toks := tk })
    (fin : ∀ ys news, J n ys news → Fin ys news) : LCt.CompRestT prog w A h₀ L m env ct elt z scope cl s S P Fin n 0 [] news := by
  have key : ∀ (j i : Nat) (ys : List Value) (news : List (Addr × Obj)), i + j = n → J i ys news → LCt.CompRestT prog w A h₀ L m env ct elt z scope cl s S P Fin j i ys news := by
    intro j
    induction j with
    | zero =>
      intro i ys news hi hy
      have e : i = n := by omega
      subst e
      exact LCt.CompRestT.zero (fin ys news hy)
    | succ j ih =>
      intro i ys news hi hy
      refine LCt.CompRestT.succ ?_
      intro v I oI C oC D m₂ h tk E' hv hC hx F N off ne
      refine wpAny_mono (turn i v ys news I oI C oC D m₂ h tk E' (by omega) hv hy hC hx F N off ne) (fun b s₂ hq => ?_) fun _ _ e => e
      cases b with
      | true =>
        simp only [if_true] at hq ⊢
        refine wpAny_mono hq (fun y s₃ hr => ?_) fun _ _ e => e
        obtain ⟨h', tk', nw, e, F', N', off', hS, hn⟩ := hr
        exact ⟨h', tk', nw, e, F', N', off', hS, ih (i + 1) _ _ (by omega) hn⟩
      | false =>
        simp only [Bool.false_eq_true, if_false] at hq ⊢
        obtain ⟨h', tk', nw, e, F', N', off', hS, hn⟩ := hq
        exact ⟨h', tk', nw, e, F', N', off', hS, ih (i + 1) _ _ (by omega) hn⟩
  exact key n 0 [] news (by omega) h0
end
theorem off3_of {I C D : Addr} : ∀ {l : List (Addr × Obj)}, (∀ p ∈ l, @Ne Nat p.1 I ∧ @Ne Nat p.1 C ∧ @Ne Nat p.1 D) → LCg.Off3 I C D l
  | [], _ => trivial
  | p :: _, h => ⟨h p (.head _), off3_of fun q hq => h q (.tail _ hq)⟩
theorem off1_mem {D : Addr} : ∀ {l : List (Addr × Obj)}, LCg.Off1 D l → ∀ p ∈ l, @Ne Nat p.1 D
  | [], _, _, h => nomatch h
  | _ :: _, x, _, h => by
    cases h with
    | head => exact x.1
    | tail _ h => exact off1_mem x.2 _ h
/-- the ledger of the turns -/
abbrev ledN (nl : Addr) (no : Obj) (lc : Addr) (oc : Obj) (src FL BL : Addr) (so t1 t2 fo bo : Obj) (R : List (Addr × Obj)) : List (Addr × Obj) := (nl, no) :: (lc, oc) :: led src FL BL so t1 t2 fo bo R
/-- how a turn that keeps its name ends -/
def TurnYes (h₀ : Heap) (L : Addr) (m : Str → Option Value) (s₁ : Shared) (x : Str) (all : Obj → List (Addr × Obj)) (y : Value) (s₂ : Shared) : Prop :=
  ∃ so' tp t0 v tv k h' tk', y = .ref tp ∧ s₂ = { s₁ with heap := h', toks := tk' } ∧ Fr h₀ L h' m ∧ News h₀ L h' ((tp, ({ cls := .type "tuple", data := .seq #[.str x t0, .int v tv] k } : Obj)) :: all so') ∧ Src so' ∧ ∀ q ∈ all so', @LT.lt Nat _ q.1 tp
/-- how a turn that drops its name ends -/
def TurnNo (h₀ : Heap) (L : Addr) (m : Str → Option Value) (s₁ : Shared) (all : Obj → List (Addr × Obj)) (s₂ : Shared) : Prop :=
  ∃ so' h' tk', s₂ = { s₁ with heap := h', toks := tk' } ∧ Fr h₀ L h' m ∧ News h₀ L h' (all so') ∧ Src so'
theorem TurnYes.intro {h₀ : Heap} {L : Addr} {m : Str → Option Value} {s₁ : Shared} {x : Str} {all : Obj → List (Addr × Obj)} {so' : Obj} {tp : Addr} {t0 : Tok} {v : Int} {tv : Tok} {k : Nat} {h' : Heap} {tk' : Nat} {l : List (Addr × Obj)} (F : Fr h₀ L h' m) (N : News h₀ L h' l) (h : ∀ q ∈ ((tp, ({ cls := .type "tuple", data := .seq #[.str x t0, .int v tv] k } : Obj)) :: all so'), q ∈ l) (hS : Src so') (lt : ∀ q ∈ all so', @LT.lt Nat _ q.1 tp) :
    TurnYes h₀ L m s₁ x all (.ref tp) { s₁ with heap := h', toks := tk' } := ⟨so', tp, t0, v, tv, k, h', tk', rfl, rfl, F, fun q hq => N q (h q hq), hS, lt⟩
theorem TurnNo.intro {h₀ : Heap} {L : Addr} {m : Str → Option Value} {s₁ : Shared} {all : Obj → List (Addr × Obj)} {so' : Obj} {h' : Heap} {tk' : Nat} {l : List (Addr × Obj)} (F : Fr h₀ L h' m) (N : News h₀ L h' l) (h : ∀ q ∈ all so', q ∈ l) (hS : Src so') :
    TurnNo h₀ L m s₁ all { s₁ with heap := h', toks := tk' } := ⟨so', h', tk', rfl, F, fun q hq => N q (h q hq), hS⟩
/-- the three names, the first i -/
def nms : List Str := ["a", "b", "c"]
theorem nms_at {ta tb tc : Tok} {i : Nat} {v : Value} (h : (#[Value.str "a" ta, .str "b" tb, .str "c" tc] : Array Value)[i]? = some v) : ∃ x t, v = .str x t ∧ nms[i]? = some x ∧ Nm x := by
  match i, h with
  | 0, h => exact ⟨"a", ta, by simpa using h.symm, rfl, .inl rfl⟩
  | 1, h => exact ⟨"b", tb, by simpa using h.symm, rfl, .inr (.inl rfl)⟩
  | 2, h => exact ⟨"c", tc, by simpa using h.symm, rfl, .inr (.inr rfl)⟩
  | i + 3, h => simp at h
theorem nms_dc {c : List (Str × Int)} (h : (c.map (·.1)).Sublist nms) : DC c := by
  refine ⟨fun q hq => ?_, h.nodup (by unfold nms; decide +kernel)⟩
  have := h.subset (List.mem_map_of_mem hq)
  simpa [nms, Nm] using this
theorem names_comp {prog : Program} {w : World} {A : Around} {h₀ : Heap} {L : Addr} {m : Str → Option Value} {env : Env} {ct elt : Expr} {z : Str} {scope : Scope} {cl : List (Str × Addr)} {s : Shared} {ta tb tc : Tok} {k n : Nat} {nl lc src FL BL : Addr} {oc so t1 t2 fo bo : Obj} {R : List (Addr × Obj)} {Q : Value → Shared → Prop}
    (hS : Src so) (hlt : @LT.lt Nat _ lc nl ∧ @LT.lt Nat _ src nl ∧ @LT.lt Nat _ 187 nl ∧ @LT.lt Nat _ 194 nl ∧ @LT.lt Nat _ FL nl ∧ @LT.lt Nat _ BL nl) (hn : n = 3)
    (R0 : ∀ q ∈ R, q.1 ≠ src) (R1 : ∀ q ∈ R, q.1 ≠ (187 : Addr)) (R2 : ∀ q ∈ R, q.1 ≠ (194 : Addr)) (R3 : ∀ q ∈ R, q.1 ≠ FL) (R4 : ∀ q ∈ R, q.1 ≠ BL)
    (turn : ∀ so' R' x t ys I oI C oC D m₂ h tk (E' : Value → Shared → Prop), Src so' → Nm x → (∀ q ∈ R', q.1 ≠ src) → LCg.NsObj oC m₂ → m₂ z = some (.str x t) → Fr h₀ L h m → News h₀ L h ((I, oI) :: (C, oC) :: (D, LCg.lst ys) :: (nl, listOf #[.str "a" ta, .str "b" tb, .str "c" tc] k) :: (lc, oc) :: (src, so') :: ((187 : Addr), t1) :: ((194 : Addr), t2) :: (FL, fo) :: (BL, bo) :: R') →
      @Ne Nat I src → @Ne Nat C src → @Ne Nat D src →
      wpAny (model prog w) A (isTrue ct (compEnvC scope cl C env) (eval ct (compEnvC scope cl C env))) (fun b s' => if b = true then wpAny (model prog w) A (eval elt (compEnvC scope cl C env)) (TurnYes h₀ L m { s with heap := h, toks := tk } x (fun so'' => (I, oI) :: (C, oC) :: (D, LCg.lst ys) :: ledN nl (listOf #[.str "a" ta, .str "b" tb, .str "c" tc] k) lc oc src FL BL so'' t1 t2 fo bo R')) E' s'
        else TurnNo h₀ L m { s with heap := h, toks := tk } (fun so'' => (I, oI) :: (C, oC) :: (D, LCg.lst ys) :: ledN nl (listOf #[.str "a" ta, .str "b" tb, .str "c" tc] k) lc oc src FL BL so'' t1 t2 fo bo R') s') E' { s with heap := h, toks := tk })
    (fin : ∀ so' R' ys c D h tk, Src so' → Tups R' ys c → DC c → (∀ q ∈ R, q ∈ R') → (∀ q ∈ R', q.1 ≠ src) → (∀ q ∈ R', q.1 ≠ (187 : Addr)) → (∀ q ∈ R', q.1 ≠ (194 : Addr)) → (∀ q ∈ R', q.1 ≠ FL) → (∀ q ∈ R', q.1 ≠ BL) → Fr h₀ L h m →
      News h₀ L h ((D, listOf (List.toArray ys) ys.length) :: (lc, oc) :: (src, so') :: ((187 : Addr), t1) :: ((194 : Addr), t2) :: (FL, fo) :: (BL, bo) :: R') → @Ne Nat src D → @Ne Nat FL D → @Ne Nat BL D → (∀ q ∈ R', q.1 ≠ D) → Q (.ref D) { s with heap := h, toks := tk }) :
    LCt.CompRestT prog w A h₀ L m env ct elt z scope cl s (LCg.SrcAt h₀ nl #[.str "a" ta, .str "b" tb, .str "c" tc]) (fun i v => (#[Value.str "a" ta, .str "b" tb, .str "c" tc] : Array Value)[i]? = some v) (LCg.FinE h₀ L m s Q) n 0 []
      (ledN nl (listOf #[.str "a" ta, .str "b" tb, .str "c" tc] k) lc oc src FL BL so t1 t2 fo bo R) := by
  subst hn
  obtain ⟨f0, f1, f2, f3, f4, f5⟩ := hlt
  have apart : ∀ {d : Addr} {R' : List (Addr × Obj)}, @LT.lt Nat _ d nl → (∀ q ∈ R, q.1 ≠ d) → (∀ q ∈ R', q ∈ R ∨ @LT.lt Nat _ nl q.1) → ∀ q ∈ R', q.1 ≠ d := fun hd h k q hq => by
    rcases k q hq with k | k
    · exact h q k
    · exact Nat.ne_of_gt (Nat.lt_trans hd k)
  have src0 : ∀ so' R', LCg.SrcAt h₀ nl #[.str "a" ta, .str "b" tb, .str "c" tc] (ledN nl (listOf #[.str "a" ta, .str "b" tb, .str "c" tc] k) lc oc src FL BL so' t1 t2 fo bo R') := fun _ _ => .inr ⟨_, .head _, rfl, _, rfl⟩
  refine comp_loop (fun i ys news => ∃ so' R' c, news = ledN nl (listOf #[.str "a" ta, .str "b" tb, .str "c" tc] k) lc oc src FL BL so' t1 t2 fo bo R' ∧ Src so' ∧ Tups R' ys c ∧ (c.map (·.1)).Sublist (nms.take i) ∧ (∀ q ∈ R, q ∈ R') ∧ (∀ q ∈ R', q ∈ R ∨ @LT.lt Nat _ nl q.1))
    ⟨so, R, [], rfl, hS, .nil, List.nil_sublist _, fun _ h => h, fun _ h => .inl h⟩ ?_ ?_
  · intro i v ys news I oI C oC D m₂ h tk E' hi hv hJ hC hx F N off ne
    obtain ⟨so', R', c, rfl, hS', hT, hc, hsub, hnew⟩ := hJ
    obtain ⟨x, t, rfl, hxi, hx'⟩ := nms_at hv
    have htk : nms.take (i + 1) = nms.take i ++ [x] := by rw [List.take_add_one, hxi]; rfl
    have os := LCg.Off3.mem off (src, so') (.tail _ (.tail _ (.head _)))
    refine wpAny_mono (turn so' R' x t ys I oI C oC D m₂ h tk E' hS' hx' (apart f1 R0 hnew) hC hx F N (Ne.symm os.1) (Ne.symm os.2.1) (Ne.symm os.2.2)) (fun b s₂ hq => ?_) fun _ _ e => e
    cases b with
    | true =>
      simp only [if_true] at hq ⊢
      refine wpAny_mono hq (fun y s₃ hr => ?_) fun _ _ e => e
      obtain ⟨so'', tp, t0, v, tv, k', h', tk', rfl, e, F', N', hS'', lt⟩ := hr
      have l1 := lt (I, oI) (by simp)
      have l2 := lt (C, oC) (by simp)
      have l3 := lt (D, LCg.lst ys) (by simp)
      have l4 := lt (nl, listOf #[.str "a" ta, .str "b" tb, .str "c" tc] k) (by simp)
      refine ⟨h', tk', ledN nl (listOf #[.str "a" ta, .str "b" tb, .str "c" tc] k) lc oc src FL BL so'' t1 t2 fo bo ((tp, ({ cls := .type "tuple", data := .seq #[.str x t0, .int v tv] k' } : Obj)) :: R'), e, F', fun q hq => N' q ?_, off3_of fun q hq => ?_, src0 _ _, so'', (tp, ({ cls := .type "tuple", data := .seq #[.str x t0, .int v tv] k' } : Obj)) :: R', c ++ [(x, v)], rfl, hS'', (hT.mono fun q hq => List.mem_cons_of_mem _ hq).snoc (.head _), ?_, fun q hq => List.mem_cons_of_mem _ (hsub q hq), fun q hq => ?_⟩
      · simp only [ledN, led, List.mem_cons] at hq ⊢
        rcases hq with hq | hq | hq | hq | hq | hq | hq | hq | hq | hq | hq | hq <;> simp [hq]
      · simp only [ledN, led, List.mem_cons] at hq
        have o := LCg.Off3.mem off
        by_cases hq' : q ∈ ledN nl (listOf #[.str "a" ta, .str "b" tb, .str "c" tc] k) lc oc src FL BL so' t1 t2 fo bo R'
        · exact o q hq'
        · have oe : ∀ q' : Addr × Obj, q' ∈ ledN nl (listOf #[.str "a" ta, .str "b" tb, .str "c" tc] k) lc oc src FL BL so' t1 t2 fo bo R' → q.1 = q'.1 → (@Ne Nat q.1 I ∧ @Ne Nat q.1 C ∧ @Ne Nat q.1 D) := fun q' h' e => by rw [e]; exact o q' h'
          rcases hq with rfl | rfl | rfl | rfl | rfl | rfl | rfl | rfl | hq
          · exact oe _ (.head _) rfl
          · exact oe _ (.tail _ (.head _)) rfl
          · exact oe (src, so') (.tail _ (.tail _ (.head _))) rfl
          · exact oe _ (.tail _ (.tail _ (.tail _ (.head _)))) rfl
          · exact oe _ (.tail _ (.tail _ (.tail _ (.tail _ (.head _))))) rfl
          · exact oe _ (.tail _ (.tail _ (.tail _ (.tail _ (.tail _ (.head _)))))) rfl
          · exact oe _ (.tail _ (.tail _ (.tail _ (.tail _ (.tail _ (.tail _ (.head _))))))) rfl
          · exact ⟨Nat.ne_of_gt l1, Nat.ne_of_gt l2, Nat.ne_of_gt l3⟩
          · exact absurd (.tail _ (.tail _ (.tail _ (.tail _ (.tail _ (.tail _ (.tail _ hq))))))) hq'
      · rw [htk, List.map_append]
        exact hc.append (List.Sublist.refl _)
      · rcases List.mem_cons.mp hq with rfl | hq
        · exact .inr l4
        · exact hnew q hq
    | false =>
      simp only [Bool.false_eq_true, if_false] at hq ⊢
      obtain ⟨so'', h', tk', e, F', N', hS''⟩ := hq
      refine ⟨h', tk', ledN nl (listOf #[.str "a" ta, .str "b" tb, .str "c" tc] k) lc oc src FL BL so'' t1 t2 fo bo R', e, F', N', off3_of fun q hq => ?_, src0 _ _, so'', R', c, rfl, hS'', hT, ?_, hsub, hnew⟩
      · have o := LCg.Off3.mem off
        simp only [ledN, led, List.mem_cons] at hq
        have oe : ∀ q' : Addr × Obj, q' ∈ ledN nl (listOf #[.str "a" ta, .str "b" tb, .str "c" tc] k) lc oc src FL BL so' t1 t2 fo bo R' → q.1 = q'.1 → (@Ne Nat q.1 I ∧ @Ne Nat q.1 C ∧ @Ne Nat q.1 D) := fun q' h' e => by rw [e]; exact o q' h'
        rcases hq with rfl | rfl | rfl | rfl | rfl | rfl | rfl | hq
        · exact oe _ (.head _) rfl
        · exact oe _ (.tail _ (.head _)) rfl
        · exact oe (src, so') (.tail _ (.tail _ (.head _))) rfl
        · exact oe _ (.tail _ (.tail _ (.tail _ (.head _)))) rfl
        · exact oe _ (.tail _ (.tail _ (.tail _ (.tail _ (.head _))))) rfl
        · exact oe _ (.tail _ (.tail _ (.tail _ (.tail _ (.tail _ (.head _)))))) rfl
        · exact oe _ (.tail _ (.tail _ (.tail _ (.tail _ (.tail _ (.tail _ (.head _))))))) rfl
        · exact o q (.tail _ (.tail _ (.tail _ (.tail _ (.tail _ (.tail _ (.tail _ hq)))))))
      · rw [htk]
        exact hc.trans (List.sublist_append_left _ _)
  · rintro ys news ⟨so', R', c, rfl, hS', hT, hc, hsub, hnew⟩
    intro D h tk F N off
    have od : ∀ q ∈ ledN nl (listOf #[.str "a" ta, .str "b" tb, .str "c" tc] k) lc oc src FL BL so' t1 t2 fo bo R', @Ne Nat q.1 D := off1_mem off
    exact fin so' R' ys c D h tk hS' hT (nms_dc (hc.trans (List.take_sublist _ _))) hsub (apart f1 R0 hnew) (apart f2 R1 hnew) (apart f3 R2 hnew) (apart f4 R3 hnew) (apart f5 R4 hnew) F
      (news_of N (fun q hq => by
        simp only [ledN, led, List.mem_cons] at hq ⊢
        rcases hq with hq | hq | hq | hq | hq | hq | hq | hq <;> simp [hq]))
      (od (src, so') (.tail _ (.tail _ (.head _)))) (od (FL, fo) (.tail _ (.tail _ (.tail _ (.tail _ (.tail _ (.head _))))))) (od (BL, bo) (.tail _ (.tail _ (.tail _ (.tail _ (.tail _ (.tail _ (.head _)))))))) (fun q hq => od q (.tail _ (.tail _ (.tail _ (.tail _ (.tail _ (.tail _ (.tail _ hq))))))))
theorem canon {h₀ h : Heap} {L nl l1 D d lc : Addr} {no o1 oD od oc : Obj} {rest : List (Addr × Obj)} (N : News h₀ L h ((nl, no) :: (l1, o1) :: (D, oD) :: (d, od) :: (lc, oc) :: rest)) : News h₀ L h ((nl, no) :: (lc, oc) :: rest) := news_of N (fun q hq => by
  rcases List.mem_cons.mp hq with rfl | hq
  · exact .head _
  · exact .tail _ (.tail _ (.tail _ (.tail _ hq))))

theorem row88 : True := by
  w_top off
  exact trivial
theorem call_app {prog : Program} {w : World} {A : Around} {E : Value → Shared → Prop} {s : Shared} {f : Value} {f' : Value} {xs : List Value} {Q : Value → Shared → Prop} (h : wpAny (model prog w) A (call f xs) Q E s) : wpAny (model prog w) A (call f ((f', xs).2 ++ [])) Q E s := by
  simpa using h
theorem eq_nil {prog : Program} {w : World} {A : Around} {E : Value → Shared → Prop} {s : Shared} {h₀ : Heap} {L l b : Addr} {news : List (Addr × Obj)} {A' : Array Value} {n n' : Nat} {Q : Value → Shared → Prop}
    (N : News h₀ L s.heap news) (hm : (l, listOf A' n) ∈ news) (hb : (b, listOf #[] n') ∈ news) (hu : A.units < cLine) (h : Q (.bool (decide (A'.size = 0))) s) : wpAny (model prog w) A (compareOp .Eq (.ref l) (.ref b)) Q E s := by
  by_cases e : A'.size = 0
  · rw [decide_eq_true e] at h
    exact PySem.SeqAt.eq_listAt (e := fun _ => true) (IsList.ofNews N hm) (IsList.ofNews N hb) (by simpa using e) hu (fun j h1 h2 => by simp at h2) (by rw [e]; exact h)
  · rw [decide_eq_false e] at h
    exact PySem.SeqAt.eq_list_lengthsAt (IsList.ofNews N hm) (IsList.ofNews N hb) (by simpa using e) hu h
theorem item_fr {w : World} {A : Around} {E : Value → Shared → Prop} {s : Shared} {h₀ : Heap} {L l : Addr} {news : List (Addr × Obj)} {value slice : PySem.Expr} {A' : Array Value} {n : Nat} {k : Int} {u : Tok} {recs : List Rec} {f : Rec → Addr} {Q : Value → Shared → Prop}
    (N : News h₀ L s.heap news) (hm : (l, listOf A' n) ∈ news) (hA : A' = (recs.map fun r => Value.ref (f r)).toArray) (h0 : 0 ≤ k) (h1 : k < (A'.size : Int)) (hz : recs.length ≤ 1000) (h : ∀ r, recs[k.toNat]? = some r → Q (.ref (f r)) s)
    (hs : subscripted slice false (.ref l) (.int k u) = operate [.ref l, .int k u] (getItem (.ref l) (.int k u)) := by with_unfolding_all rfl) :
    wpAny (model PySem.Challenge.rw_on0180_01.row.prog w) A (subscriptTail value slice (.ref l) (.int k u)) Q E s := by
  have hsz : A'.size = recs.length := by rw [hA]; simp
  have hk : k.toNat < recs.length := by omega
  exact item_at (v := .ref (f recs[k.toNat])) N hm h0 (by omega) (by rw [hA]; simp [hk]) (h _ (List.getElem?_eq_getElem hk)) hs
theorem dictof_ds {w : World} {A : Around} {E : Value → Shared → Prop} {s : Shared} {h₀ : Heap} {L d : Addr} {m mg mb : Str → Option Value} {p : Program} {loose : List Str} {mean : ExcName → Option Value} {news : List (Addr × Obj)} {o : Obj} {c : List (Str × Int)} {Q : Value → Shared → Prop}
    (F : Fr h₀ L s.heap m) (N : News h₀ L s.heap news) (T : Top p loose mean mg mb h₀) (hm : (d, o) ∈ news) (D : DS w d o c)
    (k : ∀ d' o' h', Fr h₀ L h' m → News h₀ L h' ((d', o') :: news) → DS w d' o' c → (∀ q ∈ news, q.1 < d') → Q (.ref d') { s with heap := h' }) :
    wpAny (model PySem.Challenge.rw_on0180_01.row.prog w) A (call (.type "dict") [.ref d]) Q E s := by
  obtain ⟨lo, hc, kvs, hd, hf⟩ := D
  exact my_dict_of F N T hm lo hd hf (Nat.le_trans hc.len (by decide)) (fun d' o' kvs' h' F' N' lo' hd' hf' l => k d' o' h' F' N' ⟨lo', hc, kvs', hd', hf'⟩ l)
theorem row89 : True := by
  k_with "m mine fold" => (((with_reducible show wpAny _ _ _ _ _ _); k_fold; refine fold_T ?_; intro tk1))
  k_with "m mine eqnil" => ((k_here; (with_reducible show wpAny _ _ (compareOp _ (Value.ref _) (Value.ref _)) _ _ _); k_dflt (refine eq_nil (by k_asm) (by k_mem) (by k_mem) (by k_extra "m mine room") ?_; k_whole)))
  k_with "m mine ds" => (first | assumption | exact ⟨by assumption, DC.nil, [], by assumption, by assumption⟩)
  k_with "m call type:dict" => ((k_here; (with_reducible show wpAny _ _ (call (Value.type "dict") [Value.ref _]) _ _ _); k_dflt (refine' dictof_ds ?Fq89144 ?Nq89144 ?Tq89144 ?hmq89144 ?Dq89144 ?_; (case Fq89144 => k_asm); (case Nq89144 => k_asm); (case Tq89144 => k_asm); (case hmq89144 => k_mem); (case Dq89144 => k_extra "m mine ds"); k_whole); intro d9 o9 h9 F9 N9 D9 l9; (have L9 := l9); k_lt l9))
  k_with "m call ref" => ((k_here; (with_reducible show wpAny _ _ (call (Value.ref 134) [_, Value.ref _]) _ _ _); k_dflt (refine' mk_spec ?Bq53627 ?Fq53627 ?Xq53627 ?Nq53627 ?Tq53627 ?hkq53627 ?hdq53627 ?huq53627 ?hmq53627 ?Dq53627 ?_; (case Bq53627 => k_asm); (case Fq53627 => k_asm); (case Xq53627 => k_asm); (case Nq53627 => k_asm); (case Tq53627 => k_asm); (case hkq53627 => first | exact rfl | assumption); (case hmq53627 => k_mem); (case Dq53627 => k_extra "m mine ds"); (case hdq53627 => (k_extra "m mine room")); (case huq53627 => (k_extra "m mine room")); k_whole); k_dflt (intro fa9 da9 pa9 oa9 od9 po9 oo9 h9 tk9 F9 N9 FD9 DP9 DO9 l91 l92 l93 l94; (have L9 := l91); k_lt l91; k_lt2 l92; k_lt2 l93; k_lt2 l94)))
  k_with "m call ref" => ((refine call_app ?_; walk_at "call ref"))
  k_with "m KdnMade" => ((k_here; (with_reducible show KdnMade _ _ _ _ _ (_ :: (_, Value.ref _) :: _) _); k_dflt (refine' kdn_made_str ?Fq22510 ?Nq22510 ?Uq22510 ?dq22510 ?kq22510 ?nq22510 ?_; (case Fq22510 => k_asm); (case Nq22510 => k_asm); (case Uq22510 => k_updF); (case dq22510 => k_asm); (case kq22510 => rfl); (case nq22510 => exact of_decide_eq_true (by first | rfl | kernel_rfl!)); intro _ _ _ kn9; (try dsimp only at kn9); revert kn9; intro _ _)))
  exact trivial
theorem Stay.mk {P : Prop} (h : P) : Stay P := h
theorem way3 {r : Int} (h0 : 0 ≤ r) (h1 : r < 3) : r = 0 ∨ r = 1 ∨ r = 2 := by omega
/-- the walk has gone past its halt -/
def Passed (_ : Nat) : Prop := True

theorem row90 : True := by
  w_top off
  exact trivial
section
theorem row92 : True := by
  k_with "m exec Assign" => ((fail_if_success (k_extra "off s91")); (((with_reducible show wpAny _ _ (exec (Stmt.Assign [Expr.Name "outer" _] _ _) _) _ _ _); (fail_if_success (rename Passed 1 => hp9)); refine Stay.out ?_)))
  k_with "m CompSrcT" => ((fail_if_success (k_extra "off s91")); ((refine Stay.out ?_)))
  k_with "m compareOp Eq ref ref" => ((fail_if_success (k_extra "off s91")); (k_extra "m mine eqnil"))
  k_with "m subscriptTail Name Name ref int" => ((fail_if_success (k_extra "off s91")); ((k_here; (with_reducible show wpAny _ _ (subscriptTail _ _ (Value.ref _) (Value.int _ _)) _ _ _); k_dflt (k_dflt (refine item_fr (by k_asm) (by k_mem) hA (by omega) (by omega) (by omega) ?_ (by with_unfolding_all rfl); k_whole); intro r8 hr8; (obtain ⟨g81, od8, g82, g83⟩ := (Recs.ok rs _ _ hr8).frame); (obtain ⟨ta8, tb8, tc8, eo8⟩ := g83); subst eo8; (have n81 := R3 _ g81); (have n82 := R3 _ g82); (have n83 := R4 _ g81); (have n84 := R4 _ g82); (dsimp only at n81 n82 n83 n84); (rename News _ _ _ _ => N8); (have N88 := news_cons (N8 _ (by repeat (first | exact g81 | exact hR8 _ g81 | apply List.mem_cons_of_mem))) (news_cons (N8 _ (by repeat (first | exact g82 | exact hR8 _ g82 | apply List.mem_cons_of_mem))) N8))))))
  k_with "m mine made" => ((fail_if_success (k_extra "off s91")); (((rename News _ _ _ _ => kN); (refine' made_ret_k kN I0 ?hFLq36946 ?h1q36946 ?h2q36946 ?h3q36946 ?h4q36946 ?h5q36946 ?h6q36946 ?h7q36946 ?hBLq36946 ?h8q36946 ?h9q36946 ?h10q36946 ?h11q36946 ?h12q36946 ?h13q36946 ?h14q36946 ?hlkq36946 ?hsrcq36946 ?hSq36946 ?h187q36946 ?h194q36946 ?hRq36946 ?hloq36946 ?hfixq36946 ?hnewq36946 ?hbpq36946 ?hsepq36946 (fun x R' NN II SS => hret _ _ _ _ _ _ _ (by assumption) NN II SS)); (case hloq36946 => exact hlo); (case hFLq36946 => k_mem); (case h1q36946 => k_mem); (case h2q36946 => k_mem); (case h3q36946 => first | assumption | exact ⟨_, _, _, rfl⟩); (case h4q36946 => k_mem); (case h5q36946 => k_extra "m mine ds"); (case h6q36946 => k_mem); (case h7q36946 => k_extra "m mine ds"); (case hBLq36946 => k_mem); (case h8q36946 => k_mem); (case h9q36946 => k_dflt (unfold BD; assumption)); (case h10q36946 => k_mem); (case h11q36946 => k_extra "m mine ds"); (case h12q36946 => k_mem); (case h13q36946 => k_extra "m mine ds"); (case hlkq36946 => first | exact .inl ⟨rfl, rfl⟩ | exact .inr ⟨_, _, rfl, hr8, rfl⟩); (case h14q36946 => first | exact rfl | exact isOut_toNat (by omega)); (case hsrcq36946 => k_mem); (case hSq36946 => assumption); (case h187q36946 => k_mem); (case h194q36946 => k_mem); (case hRq36946 => first | ((intro q9 hq9); (repeat (first | exact hq9 | apply List.mem_cons_of_mem)); done) | ((intro q9 hq9); (replace hq9 := hR8 _ hq9); (repeat (first | exact hq9 | apply List.mem_cons_of_mem)); done)); (case hfixq36946 => exact ⟨l01, l02, l03, l04, l05⟩); (case hnewq36946 => (refine ⟨?_, ?_, ?_, ?_, ?_, ?_⟩ <;> omega)); (case hbpq36946 => exact .inl (by omega)); (case hsepq36946 => (refine ⟨?_, ?_, ?_, ?_, ?_, ?_, ?_, ?_, ?_, ?_, ?_⟩ <;> omega)))))
  exact trivial
set_option maxHeartbeats 40000000 in
theorem made_spec {w : World} {dp un : Nat} {gd : Option (List Code)} {cn : Str} {cs : Scope} {a : Addr} {ccd : Value} {cl : List (Str × Addr)} {outer : List Env} {A₀ : Around} {base h₀ : Heap} {L : Addr} {m mg mb : Str → Option Value}
  {p : Program} {loose : List Str} {mean : ExcName → Option Value} {s : Shared} {Q E : Value → Shared → Prop} {src FL BL : Addr} {so t1 t2 fo bo : Obj} {R : List (Addr × Obj)} {recs : List Rec}
  (B : Below A₀ base outer h₀) (F : Fr h₀ L s.heap m) (X : (hd.heap_39 w.params).In h₀) (N : News h₀ L s.heap (led src FL BL so t1 t2 fo bo R)) (T : Top p loose mean mg mb h₀) (hk : cs.kind = .function) (hdp : dp + 150 < recursionLimit) (hun : un + 1500 < cLine) (I : Inv w src FL BL so t1 t2 fo bo R recs)
  (hlen : recs.length ≤ 5)
  (hret : ∀ so' fo' bo' R' x h' tk', Fr h₀ L h' m → News h₀ L h' (led src FL BL so' t1 t2 fo' bo' R') → Inv w src FL BL so' t1 t2 fo' bo' R' (recs ++ [x]) → (∀ q ∈ R, q ∈ R') → Q .none { s with heap := h', toks := tk' }) :
  wpAny (model PySem.Challenge.rw_on0180_01.row.prog w) (ktrTop dp un gd cn cs L a ccd cl outer) (call (.ref 178) [.ref src, .ref FL, .ref BL]) Q E s := by
  have I0 := I
  obtain ⟨hS, hT1, hT2, ⟨A, n, rfl, hA⟩, ⟨A2, n2, rfl, hA2⟩, rs, R0, R1, R2, R3, R4, ne⟩ := I
  obtain ⟨e1, e2, e3, e4, e5, e6, e7, e8, e9⟩ := ne
  have hsz : A.size = recs.length := by rw [hA]; simp
  have hsz2 : A2.size = recs.length := by rw [hA2]; simp
  have hz1 : A.size ≤ sizeLine := by rw [sizeLine_eq]; omega
  have hz2 : A2.size ≤ sizeLine := by rw [sizeLine_eq]; omega
  obtain ⟨k9, n9, g9, c9, m9⟩ := cs
  have hk9 : k9 = .function := hk
  subst hk9
  revert X; k_fill; intro X
  refine wpAny_call ?_
  k_dflt k_enter
  rename (@LT.lt Nat _ src _ ∧ _) => l0
  obtain ⟨l01, l02, l03, l04, l05, l06⟩ := l0
  have hlo := allLt_mem l06
  k_steps
  rename (_ < (3 : Int)) => hw2
  rename ((0 : Int) ≤ _) => hw1
  have hp9 : Passed 1 := trivial
  obtain hw | hw | hw := way3 hw1 hw2
  all_goals (clear hw1 hw2; subst hw)
  all_goals (refine Stay.mk ?_)
  · k_steps
    k_extra "m mine made"
  · k_steps
    all_goals k_extra "m mine made"
  · k_steps
    all_goals (refine Stay.mk ?_)
    all_goals (rename News _ _ _ _ => N8)
    all_goals (dsimp only at N8)
    all_goals (rename (@LT.lt Nat _ _ _ ∧ _) => l8)
    all_goals (obtain ⟨b1, b2, b3, b4, b5, b6, b7, b8, b9, b10⟩ := l8)
    all_goals (refine LCt.CompSrcT.ledger (by rfl) (by k_asm) (canon N8) (List.Mem.head _) (by size_fits) ?_)
    all_goals (intro g8)
    all_goals (refine names_comp (by assumption) ⟨by omega, by omega, by omega, by omega, by omega, by omega⟩ rfl R0 R1 R2 R3 R4 ?_ ?_)
    · intro so8 R8 x8 t8 ys8 I8 oI8 C8 oC8 D8 m8 h8 tk8 E8 hS8 hx8 R08 hC8 hm8 F8 N88 i81 i82 i83
      clear N8
      k_steps
      · rename_i N9 _ FA NA _ _
        exact TurnYes.intro FA NA (fun q hq => hq) hS9 (fun q hq => Heap.lt_size (N9 q hq).1)
      · exact TurnNo.intro F9 N9 (fun q hq => hq) hS9
    · intro so8 R8 ys8 c8 D8 h8 tk8 hS8 hT8 hD8 hR8 R08 R18 R28 R38 R48 F8 N88 i81 i82 i83 i84
      clear N8
      k_steps
      k_dflt (refine dict_pairs (by k_asm) N88 (Top.nolimit (by k_asm)) rfl (.head _) (hT8.mono (fun q hq => by repeat (first | exact hq | apply List.mem_cons_of_mem))) hD8 ?_)
      intro d9 o9 h9 tk9 F9 N9 D9 l9
      have L9 := l9
      k_lt l9
      k_steps
      all_goals k_extra "m mine made"
    · intro so8 R8 x8 t8 ys8 I8 oI8 C8 oC8 D8 m8 h8 tk8 E8 hS8 hx8 R08 hC8 hm8 F8 N88 i81 i82 i83
      clear N8
      k_steps
      · rename_i N9 _ FA NA _ _
        exact TurnYes.intro FA NA (fun q hq => hq) hS9 (fun q hq => Heap.lt_size (N9 q hq).1)
      · exact TurnNo.intro F9 N9 (fun q hq => hq) hS9
    · intro so8 R8 ys8 c8 D8 h8 tk8 hS8 hT8 hD8 hR8 R08 R18 R28 R38 R48 F8 N88 i81 i82 i83 i84
      clear N8
      k_steps
      k_dflt (refine dict_pairs (by k_asm) N88 (Top.nolimit (by k_asm)) rfl (.head _) (hT8.mono (fun q hq => by repeat (first | exact hq | apply List.mem_cons_of_mem))) hD8 ?_)
      intro d9 o9 h9 tk9 F9 N9 D9 l9
      have L9 := l9
      k_lt l9
      k_steps
      all_goals k_extra "m mine made"
end
theorem row93 : True := by
  k_with "off s91" => skip
  exact trivial

theorem row94 : True := by
  w_top off
  exact trivial
/-- a for loop over a list, whose ground may turn in every turn, and whose target may be a cell -/
def LoopT (prog : Program) (w : World) (A : Around) (env : Env) (x : Str) (px : Pos) (body : List Stmt) (Q : Flow → Shared → Prop) (E : Value → Shared → Prop) (it : Value) (s₂ : Shared) : Prop :=
  codeAny (model prog w) A (.forLoop (.Name x px) it body [] env) (fun r s' => match r with | .ok f => Q f s' | .error e => cameBackBy (model prog w) A env E e s') s₂
def TEnd (L : Addr) (s : Shared) (I : Addr) (it : Obj) (lp : Addr × Obj) (Jn : Heap → (Str → Option Value) → List (Addr × Obj) → Prop) (s₂ : Shared) : Prop :=
  ∃ g h' tk m' news', s₂ = { s with heap := h', toks := tk } ∧ Fr g L h' m' ∧ News g L h' ((I, it) :: news') ∧ (∀ q ∈ news', q.1 ≠ I) ∧ lp ∈ news' ∧ Jn g m' news'
def TPost (L : Addr) (s : Shared) (I : Addr) (it : Obj) (lp : Addr × Obj) (Jn : Heap → (Str → Option Value) → List (Addr × Obj) → Prop) (Q : Flow → Shared → Prop) (f : Flow) (s₂ : Shared) : Prop :=
  match f with
  | .ret v => Q (.ret v) s₂
  | .brk => Q .next s₂
  | _ => TEnd L s I it lp Jn s₂
theorem TEnd.intro {L : Addr} {s : Shared} {I : Addr} {it : Obj} {lp : Addr × Obj} {Jn : Heap → (Str → Option Value) → List (Addr × Obj) → Prop} {g h' : Heap} {tk : Nat} {m' : Str → Option Value} {news' : List (Addr × Obj)}
    (F : Fr g L h' m') (N : News g L h' ((I, it) :: news')) (ho : ∀ q ∈ news', q.1 ≠ I) (hm : lp ∈ news') (hj : Jn g m' news') : TEnd L s I it lp Jn { s with heap := h', toks := tk } := ⟨g, h', tk, m', news', rfl, F, N, ho, hm, hj⟩
section
variable {prog : Program} {w : World} {A : Around} {E : Value → Shared → Prop} {s : Shared} {env : Env} {h₀ : Heap} {x : Str} {px : Pos} {body : List Stmt} {Q : Flow → Shared → Prop}
theorem For_T {pos : Pos} {iter : PySem.Expr}
    (h : wpAny (model prog w) A (eval iter env) (fun xv s₁ => wpAny (model prog w) A (pyIter xv) (fun it s₂ => LoopT prog w A env x px body Q E it s₂) E s₁) E s)
    (hs : ∀ x, foldedSetIterable iter env x = pure x := by intro _; rfl) : wpAny (model prog w) A (exec (.For (.Name x px) iter body [] pos) env) Q E s := wpAny_For h hs
theorem iter_T {ax : Addr} {lo : Obj} {vs : List Value} {n : Nat} {m₀ : Str → Option Value} {news : List (Addr × Obj)} (J : List Value → Heap → (Str → Option Value) → List (Addr × Obj) → Prop)
    (hh : A.handled = none) (hE : PassesOwn (model prog w) A env E) (F : Fr h₀ env.locals s.heap m₀) (N : News h₀ env.locals s.heap news) (hm : (ax, lo) ∈ news) (hc : lo.cls = .type "list") (hd : lo.data = .seq vs.toArray n) (h0 : J vs h₀ m₀ news)
    (step : ∀ I v r g m' news' (it : Obj) h tk, (∀ q ∈ news, q.1 < I) → J (v :: r) g m' news' → (ax, lo) ∈ news' → it.cls = .type "list_iterator" → Fr g env.locals h m' → News g env.locals h ((I, it) :: news') → (∀ q ∈ news', q.1 ≠ I) →
      wpAny (model prog w) A (storeName env x v) (fun _ s₁ => wpAny (model prog w) A (execs body env) (TPost env.locals { s with heap := h, toks := tk } I it (ax, lo) (J r) Q) E s₁) E { s with heap := h, toks := tk })
    (done : ∀ g m' news' h tk, J [] g m' news' → Fr g env.locals h m' → News g env.locals h news' → Q .next { s with heap := h, toks := tk }) :
    wpAny (model prog w) A (pyIter (.ref ax)) (fun it s₂ => LoopT prog w A env x px body Q E it s₂) E s := by
  have hax := N _ hm
  have hl : s.heap.IsList ax vs.toArray := ⟨lo, hax.1, hc, n, hd⟩
  have hlt : ax < s.heap.objs.size := Heap.lt_size hax.1
  have hne : ax ≠ s.heap.objs.size := Nat.ne_of_lt hlt
  refine wpAny_pyIter_list hl ?_
  have W := Walks.list (prog := prog) (w := w) hh s.heap.objs.size ax hne vs.toArray
  have hnew := next_is_new F
  have hLI : env.locals ≠ s.heap.objs.size := Nat.ne_of_lt F.ns.lt
  have hlen : vs.toArray.size = vs.length := by simp
  rw [hlen] at W
  generalize hI : s.heap.objs.size = I at *
  have low : ∀ q ∈ news, q.1 < I := fun q hq => hI ▸ Heap.lt_size (N q hq).1
  refine codeAny_forLoop (fun k s' => ∃ g h' tk m' news' i, s' = { s with heap := h', toks := tk } ∧ (h'.IsListIter I ax i ∧ h'.IsList ax vs.toArray) ∧ Fr g env.locals h' m' ∧ News g env.locals h' news' ∧ (∀ q ∈ news', q.1 ≠ I) ∧ g.get? I = none ∧ (ax, lo) ∈ news' ∧ J (vs.drop i) g m' news' ∧ i ≤ vs.length ∧ k = vs.length + 1 - i) ?_ (vs.length + 1)
    ⟨h₀, _, _, m₀, news, 0, rfl, ⟨⟨_, hI ▸ Heap.get?_push_size _ rfl, rfl, rfl⟩, hl.at fun o e => Heap.get?_push_of_some _ e⟩, F.push _, fun p hp => ⟨Heap.get?_push_of_some _ (N p hp).1, (N p hp).2⟩, fun q hq => Nat.ne_of_lt (low q hq), hnew, hm, by rw [List.drop_zero]; exact h0, Nat.zero_le _, rfl⟩
  rintro k s' ⟨g, h', tk, m', news', i, rfl, hst, F', N', ho, hg, hmem, hJ, hi, rfl⟩
  have next : ∀ h₁ : Heap, (∀ b o, b ∉ [I] → h'.get? b = some o → h₁.get? b = some o) → Fr g env.locals h₁ m' ∧ News g env.locals h₁ news' := fun h₁ hk₁ =>
    ⟨⟨F'.ns.at' fun o e => hk₁ _ o (by simpa using hLI) e, fun b o e => hk₁ b o (fun hb => by rw [List.mem_singleton.mp hb, hg] at e; cases e) (F'.keep b o e), F'.above⟩, fun p hp => ⟨hk₁ _ _ (by simpa using ho p hp) (N' p hp).1, (N' p hp).2⟩⟩
  by_cases hin : i < vs.length
  · refine W.item i _ _ _ hin hst fun v h₁ tk₁ hP hst₁ hk₁ => ?_
    obtain ⟨F₁, N₁⟩ := next h₁ hk₁
    obtain ⟨it, hit, hic, hid⟩ := hst₁.1
    have hdrop : vs.drop i = v :: vs.drop (i + 1) := by
      have hv : vs[i]? = some v := by simpa using hP
      rw [List.drop_eq_getElem_cons hin]
      congr 1
      exact Option.some.inj ((List.getElem?_eq_getElem hin).symm.trans hv)
    rw [hdrop] at hJ
    have N₂ : News g env.locals h₁ ((I, it) :: news') := fun p hp => by
      rcases List.mem_cons.mp hp with rfl | hp
      · exact ⟨hit, Ne.symm hLI, hg⟩
      · exact N₁ p hp
    refine wpAny_assign_Name (wpAny_passesOwn hE (wpAny_mono (step I v _ g m' news' it h₁ tk₁ low hJ hmem hic F₁ N₂ ho) (fun _ s₂ h₂ => wpAny_passesOwn hE (wpAny_mono h₂ (fun f s₃ h₃ => ?_) fun _ _ e => e)) fun _ _ e => e))
    have fin : TEnd env.locals { s with heap := h₁, toks := tk₁ } I it (ax, lo) (J (vs.drop (i + 1))) s₃ → ∃ m, m < vs.length + 1 - i ∧ ∃ g h' tk m' news' i, s₃ = { s with heap := h', toks := tk } ∧ (h'.IsListIter I ax i ∧ h'.IsList ax vs.toArray) ∧ Fr g env.locals h' m' ∧ News g env.locals h' news' ∧ (∀ q ∈ news', q.1 ≠ I) ∧ g.get? I = none ∧ (ax, lo) ∈ news' ∧ J (vs.drop i) g m' news' ∧ i ≤ vs.length ∧ m = vs.length + 1 - i := by
      rintro ⟨g₂, h₃', tk₃, m₂, news₂, rfl, F₃, N₃, ho₃, hm₃, hJ₃⟩
      have e1 := (N₃ _ (.head _))
      refine ⟨vs.length + 1 - (i + 1), by omega, g₂, h₃', tk₃, m₂, news₂, i + 1, rfl, ⟨⟨it, e1.1, hic, hid⟩, ⟨lo, (N₃ _ (.tail _ hm₃)).1, hc, n, hd⟩⟩, F₃, fun q hq => N₃ q (.tail _ hq), ho₃, e1.2.2, hm₃, hJ₃, hin, rfl⟩
    cases f with
    | ret v => exact h₃
    | brk => exact h₃
    | next => exact fin h₃
    | cont => exact fin h₃
  · have e : i = vs.length := by omega
    subst e
    refine W.done _ _ _ hst fun h₁ tk₁ hk₁ => wpAny_execs_nil ?_
    obtain ⟨F₁, N₁⟩ := next h₁ hk₁
    rw [List.drop_length] at hJ
    exact done g m' news' h₁ tk₁ hJ F₁ N₁
end
theorem row96 : True := by
  k_with "m TPost" => ((dsimp only [TPost]))
  exact trivial

theorem row97 : True := by
  w_top off
  exact trivial
theorem kdpLook_mem {c : List (Str × Int)} {k : Str} {v : Int} (nd : (c.map (·.1)).Nodup) (h : (k, v) ∈ c) : PySem.Spec.lookup (PyData.str k) (kdpD c) = some (PyData.int v) := by
  rw [kdpD_lookup]
  induction c with
  | nil => cases h
  | cons q r ih =>
    obtain ⟨k', v'⟩ := q
    rw [List.map_cons, List.nodup_cons] at nd
    rw [List.find?_cons]
    by_cases e : k' = k
    · subst e
      rcases List.mem_cons.mp h with h | h
      · cases h; simp
      · exact absurd (List.mem_map_of_mem (f := (·.1)) h) nd.1
    · rcases List.mem_cons.mp h with h | h
      · cases h; exact absurd rfl e
      · simp only [e, decide_false]
        exact ih nd.2 h
theorem rows_refl {c : List (Str × Int)} (nd : (c.map (·.1)).Nodup) : KeqRows (kdpD c) (kdpD c) true := by
  have : ∀ r : List (Str × Int), (∀ q ∈ r, q ∈ c) → KeqRows (kdpD c) (kdpD r) true := by
    intro r
    induction r with
    | nil => intro _; exact .nil
    | cons q r ih =>
      intro h
      obtain ⟨k, v⟩ := q
      have e : (PyData.eqv (PyData.int v) (PyData.int v) && true) = true := by simp [PyData.eqv]
      exact e ▸ KeqRows.hit (kdpLook_mem nd (h _ (.head _))) (ih fun q hq => h q (.tail _ hq))
  exact this c fun q hq => hq
theorem DS.tab {w : World} {d L : Addr} {o : Obj} {c : List (Str × Int)} {h₀ h : Heap} {news : List (Addr × Obj)} (D : DS w d o c) (N : News h₀ L h news) (hm : (d, o) ∈ news) : TabAt (PySem.strKind PySem.Challenge.rw_on0180_01.row.prog w) PyData.str h d (kdpD c) := by
  obtain ⟨lo, _, kvs, hd, hf⟩ := D
  exact ⟨lo, kvs, Heap.dictOf_iff.mpr ⟨o, (N _ hm).1, hd⟩, hf⟩
theorem ds_ne {w : World} {A : Around} {E : Value → Shared → Prop} {s : Shared} {h₀ : Heap} {L a b : Addr} {oa ob : Obj} {news : List (Addr × Obj)} {c c' : List (Str × Int)} {Q : Value → Shared → Prop} (N : News h₀ L s.heap news) (ha : (a, oa) ∈ news) (hb : (b, ob) ∈ news) (Da : DS w a oa c) (Db : DS w b ob c') (e : c = c') (hu : A.units < cLine)
    (h : Q (.bool false) s) : wpAny (model PySem.Challenge.rw_on0180_01.row.prog w) A (compareOp .NotEq (.ref a) (.ref b)) Q E s := by
  subst e
  exact kne_tabs (fun a b => PyProof.V.same_str a b) (Da.tab N ha) (Db.tab N hb) rfl hu (rows_refl Da.2.1.2) h
theorem ds_eq {w : World} {A : Around} {E : Value → Shared → Prop} {s : Shared} {h₀ : Heap} {L a b : Addr} {oa ob : Obj} {news : List (Addr × Obj)} {c c' : List (Str × Int)} {Q : Value → Shared → Prop} (N : News h₀ L s.heap news) (ha : (a, oa) ∈ news) (hb : (b, ob) ∈ news) (Da : DS w a oa c) (Db : DS w b ob c') (e : c = c') (hu : A.units < cLine)
    (h : Q (.bool true) s) : wpAny (model PySem.Challenge.rw_on0180_01.row.prog w) A (compareOp .Eq (.ref a) (.ref b)) Q E s := by
  subst e
  exact keq_tabs (fun a b => PyProof.V.same_str a b) (Da.tab N ha) (Db.tab N hb) rfl hu (rows_refl Da.2.1.2) h
/-- the holders of a name in a way -/
abbrev hldr (x : Str) (l : List (Nat × Rec)) : List (Nat × Rec) := l.filter fun q => kdpHas q.2.own x
theorem hldr_or (x : Str) (l : List (Nat × Rec)) : (hldr x l = [] ∧ holdV x (toCh l) = .none ∧ bndV x (toCh l) = false) ∨
    ∃ q r, hldr x l = q :: r ∧ q ∈ l ∧ kdpHas q.2.own x = true ∧ holdV x (toCh l) = .ref q.2.fa ∧ bndV x (toCh l) = true ∧ valV x (toCh l) = kdpLook q.2.own x 0 := by
  induction l with
  | nil => exact .inl ⟨rfl, rfl, rfl⟩
  | cons p l ih =>
    cases e : kdpHas p.2.own x with
    | true =>
      refine .inr ⟨p, hldr x l, by simp [hldr, List.filter_cons, e], .head _, e, holdV_hit e, ?_, ?_⟩
      · simp [bndV, e]
      · show (if kdpHas p.2.own x then kdpLook p.2.own x 0 else valV x (toCh l)) = _
        rw [if_pos e]
    | false =>
      have b1 : bndV x (toCh (p :: l)) = bndV x (toCh l) := by simp [bndV, e]
      have b2 : hldr x (p :: l) = hldr x l := by simp [hldr, List.filter_cons, e]
      rcases ih with ⟨h1, h2, h3⟩ | ⟨q, r, h1, h2, h3, h4, h5, h6⟩
      · exact .inl ⟨b2.trans h1, (holdV_miss e).trans h2, b1.trans h3⟩
      · exact .inr ⟨q, r, b2.trans h1, .tail _ h2, h3, (holdV_miss e).trans h4, b1.trans h5, (valV_miss e).trans h6⟩
theorem top_last (p : Nat × Rec) (l : List (Nat × Rec)) : ∃ q, (p :: l)[l.length]? = some q ∧ topV (toCh (p :: l)) = .ref q.2.fa := by
  induction l generalizing p with
  | nil => exact ⟨p, rfl, rfl⟩
  | cons q l ih =>
    obtain ⟨z, h1, h2⟩ := ih q
    exact ⟨z, by simpa using h1, h2⟩
theorem ints_at {vs : List Value} {ns : List Int} (h : IntsAre vs ns) : ∀ {i : Nat} {k : Int}, ns[i]? = some k → ∃ t, vs[i]? = some (.int k t) := by
  induction h with
  | nil => intro i k h; simp at h
  | cons n t _ ih =>
    intro i k h
    cases i with
    | zero => simp at h; subst h; exact ⟨t, by simp⟩
    | succ i => simpa using ih (by simpa using h)
theorem ints_rev {vs : List Value} {ns : List Int} (h : IntsAre vs ns) : IntsAre vs.reverse ns.reverse := by
  induction h with
  | nil => exact .nil
  | cons n t _ ih => rw [List.reverse_cons, List.reverse_cons]; exact ints_snoc ih
theorem ints_dat {vs : List Value} {ns : List Int} (h : IntsAre vs ns) : DatAll [] vs (ns.map Dat.int) := by
  induction h with
  | nil => exact .nil
  | cons n t _ ih => exact .cons (.int n t) ih
open Classical in
theorem ints_ne_nil {prog : Program} {w : World} {A : Around} {E : Value → Shared → Prop} {s : Shared} {h₀ : Heap} {L l b : Addr} {news : List (Addr × Obj)} {vs : List Value} {ns : List Int} {n n' : Nat} {bb : Bool} {Q : Value → Shared → Prop}
    (N : News h₀ L s.heap news) (hm : (l, listOf vs.toArray n) ∈ news) (hb : (b, listOf #[] n') ∈ news) (hi : IntsAre vs ns) (hu : A.units + 64 < cLine) (e : bb = !ns.isEmpty) (h : Q (.bool bb) s) : wpAny (model prog w) A (compareOp .NotEq (.ref l) (.ref b)) Q E s := by
  refine kqd_ne N hm rfl rfl (ints_dat hi) (fun _ h => nomatch h) hb rfl (show _ = Data.seq ([] : List Value).toArray n' from rfl) (DatAll.nil (news := [])) (fun p (h : p ∈ []) => nomatch h) (fun d hd => ?_) (fun d hd => nomatch hd) hu ?_
  · obtain ⟨i, _, rfl⟩ := List.mem_map.mp hd
    rfl
  · have : decide (ns.map Dat.int = []) = ns.isEmpty := by cases ns <;> simp
    rw [this, ← e]; exact h
open Classical in
theorem ints_eq_nil {prog : Program} {w : World} {A : Around} {E : Value → Shared → Prop} {s : Shared} {h₀ : Heap} {L l b : Addr} {news : List (Addr × Obj)} {vs : List Value} {ns : List Int} {n n' : Nat} {bb : Bool} {Q : Value → Shared → Prop}
    (N : News h₀ L s.heap news) (hm : (l, listOf vs.toArray n) ∈ news) (hb : (b, listOf #[] n') ∈ news) (hi : IntsAre vs ns) (hu : A.units + 64 < cLine) (e : bb = ns.isEmpty) (h : Q (.bool bb) s) : wpAny (model prog w) A (compareOp .Eq (.ref l) (.ref b)) Q E s := by
  refine kqd_eq N hm rfl rfl (ints_dat hi) (fun _ h => nomatch h) hb rfl (show _ = Data.seq ([] : List Value).toArray n' from rfl) (DatAll.nil (news := [])) (fun p (h : p ∈ []) => nomatch h) (fun d hd => ?_) (fun d hd => nomatch hd) hu ?_
  · obtain ⟨i, _, rfl⟩ := List.mem_map.mp hd
    rfl
  · have : decide (ns.map Dat.int = []) = ns.isEmpty := by cases ns <;> simp
    rw [this, ← e]; exact h

theorem row98 : True := by
  w_top off
  exact trivial
/-- a record's seven objects, set apart -/
abbrev exR (r : Rec) (od po oo bdo bpo boo : Obj) (Rf : List (Addr × Obj)) : List (Addr × Obj) := (r.fa, instObj 134 r.da) :: (r.da, od) :: (r.pa, po) :: (r.oa, oo) :: (r.bd, bdo) :: (r.bp, bpo) :: (r.bo, boo) :: Rf
structure Opened (w : World) (src FL BL : Addr) (so t1 t2 fo bo : Obj) (R Rf : List (Addr × Obj)) (recs : List Rec) (i : Nat) (r : Rec) (od po oo bdo bpo boo : Obj) (bv : Value) : Prop where
  inv : Inv w src FL BL so t1 t2 fo bo (exR r od po oo bdo bpo boo Rf) recs
  sub : ∀ q ∈ exR r od po oo bdo bpo boo Rf, q ∈ R
  sup : ∀ q ∈ R, q ∈ exR r od po oo bdo bpo boo Rf
  fd : FD w od r.ov r.pa r.oa
  dp : DS w r.pa po r.par
  dw : DS w r.oa oo r.own
  bk : BD w bdo bv r.bp r.bo
  io : IsOut bv r.out
  bp : DS w r.bp bpo r.par
  bw : DS w r.bo boo r.own
  tab : TabOk "_law_deed.<locals>.<lambda>" Rf t1
  tab2 : TabOk "_law_stands.<locals>.<lambda>" Rf t2
  hand : handedIn r.ov = true
  lk : (r.out = none ∧ r.ov = .none) ∨ ∃ (j : Nat) (r' : Rec), r.out = some j ∧ recs[j]? = some r' ∧ r.ov = .ref r'.fa
  n0 : ∀ q ∈ Rf, q.1 ≠ src
  n1 : ∀ q ∈ Rf, q.1 ≠ (187 : Addr)
  n2 : ∀ q ∈ Rf, q.1 ≠ (194 : Addr)
  n3 : ∀ q ∈ Rf, q.1 ≠ FL
  n4 : ∀ q ∈ Rf, q.1 ≠ BL
  n5 : ∀ q ∈ Rf, q.1 ≠ r.oa
  n6 : ∀ q ∈ Rf, q.1 ≠ r.bo
  ea : @Ne Nat r.fa r.oa ∧ @Ne Nat r.da r.oa ∧ @Ne Nat r.pa r.oa ∧ @Ne Nat r.bd r.oa ∧ @Ne Nat r.bp r.oa ∧ @Ne Nat r.bo r.oa ∧ @Ne Nat src r.oa ∧ @Ne Nat 187 r.oa ∧ @Ne Nat 194 r.oa ∧ @Ne Nat FL r.oa ∧ @Ne Nat BL r.oa
  eb : @Ne Nat r.fa r.bo ∧ @Ne Nat r.da r.bo ∧ @Ne Nat r.pa r.bo ∧ @Ne Nat r.bd r.bo ∧ @Ne Nat r.bp r.bo ∧ @Ne Nat r.oa r.bo ∧ @Ne Nat src r.bo ∧ @Ne Nat 187 r.bo ∧ @Ne Nat 194 r.bo ∧ @Ne Nat FL r.bo ∧ @Ne Nat BL r.bo
  ep : @Ne Nat r.fa 187 ∧ @Ne Nat r.da 187 ∧ @Ne Nat r.pa 187 ∧ @Ne Nat r.oa 187 ∧ @Ne Nat r.bd 187 ∧ @Ne Nat r.bp 187 ∧ @Ne Nat r.bo 187
  ef : @Ne Nat r.fa FL ∧ @Ne Nat r.da FL ∧ @Ne Nat r.pa FL ∧ @Ne Nat r.oa FL ∧ @Ne Nat r.bd FL ∧ @Ne Nat r.bp FL ∧ @Ne Nat r.bo FL
  el : @Ne Nat r.fa BL ∧ @Ne Nat r.da BL ∧ @Ne Nat r.pa BL ∧ @Ne Nat r.oa BL ∧ @Ne Nat r.bd BL ∧ @Ne Nat r.bp BL ∧ @Ne Nat r.bo BL
theorem TabOk.off {qual : Str} {R Rf news : List (Addr × Obj)} {t : Obj} {h₀ h : Heap} {L : Addr} (x : TabOk qual R t) (N : News h₀ L h news) (hR : ∀ q ∈ R, q ∈ news) (k : ∀ q ∈ R, (∀ vs, q.2.data ≠ .fields vs) ∨ q ∈ Rf) : TabOk qual Rf t := by
  obtain ⟨ps, e, tr, hc⟩ := x
  refine ⟨ps, e, tr, fun pos c h => ?_⟩
  obtain ⟨c', oc, vs, tq, e1, e2, e3, e4⟩ := hc pos c h
  rcases k _ e2 with k | k
  · exact absurd e3 (k vs)
  · exact ⟨c', oc, vs, tq, e1, k, e3, e4⟩
theorem ds_fields {w : World} {d : Addr} {o : Obj} {c : List (Str × Int)} (D : DS w d o c) : ∀ vs, o.data ≠ .fields vs := by
  obtain ⟨_, _, kvs, hd, _⟩ := D
  intro vs e
  obtain ⟨es, ep, _, hh, _⟩ := hd
  rw [e] at hh
  cases hh
theorem Inv.opened {w : World} {src FL BL : Addr} {so t1 t2 fo bo : Obj} {R news : List (Addr × Obj)} {recs : List Rec} {i : Nat} {r : Rec} {h₀ h : Heap} {L : Addr} (I : Inv w src FL BL so t1 t2 fo bo R recs) (N : News h₀ L h news) (hR : ∀ q ∈ R, q ∈ news) (hi : recs[i]? = some r) :
    ∃ Rf od po oo bdo bpo boo bv, Opened w src FL BL so t1 t2 fo bo R Rf recs i r od po oo bdo bpo boo bv := by
  have x := I.rs.ok i r hi
  obtain ⟨f1, od, f2, f3⟩ := x.frame
  obtain ⟨po, p1, p2⟩ := x.par
  obtain ⟨oo, o1, o2⟩ := x.own
  obtain ⟨bdo, bv, b1, b2, b3⟩ := x.book
  obtain ⟨bpo, c1, c2⟩ := x.bpar
  obtain ⟨boo, d1, d2⟩ := x.bown
  have sp := I.rs.sep i i r r hi hi
  have s1 := sp.a
  have s2 := sp.b
  have s3 := sp.c
  simp only [Rec.stat, List.mem_cons, List.not_mem_nil, or_false, not_or] at s1 s2
  obtain ⟨a1, a2, a3, a4, a5⟩ := s1
  obtain ⟨g1, g2, g3, g4, g5⟩ := s2
  have uniq : ∀ q ∈ R, ∀ d o, (d, o) ∈ R → q.1 = d → q = (d, o) := fun q hq d o ho e => by
    have e1 := (N _ (hR _ hq)).1
    have e2 := (N _ (hR _ ho)).1
    rw [e] at e1
    rw [e1] at e2
    exact Prod.ext e (Option.some.inj e2)
  let Rf := R.filter fun q => decide (q.1 ≠ r.oa ∧ q.1 ≠ r.bo)
  have sf : ∀ q, q ∈ Rf ↔ q ∈ R ∧ q.1 ≠ r.oa ∧ q.1 ≠ r.bo := fun q => by simp [Rf]
  have sub : ∀ q ∈ exR r od po oo bdo bpo boo Rf, q ∈ R := fun q hq => by
    simp only [exR, List.mem_cons] at hq
    rcases hq with rfl | rfl | rfl | rfl | rfl | rfl | rfl | hq
    · exact f1
    · exact f2
    · exact p1
    · exact o1
    · exact b1
    · exact c1
    · exact d1
    · exact ((sf q).mp hq).1
  have sup : ∀ q ∈ R, q ∈ exR r od po oo bdo bpo boo Rf := fun q hq => by
    by_cases e1 : q.1 = r.oa
    · rw [uniq q hq _ _ o1 e1]; simp [exR]
    · by_cases e2 : q.1 = r.bo
      · rw [uniq q hq _ _ d1 e2]; simp [exR]
      · have : q ∈ Rf := (sf q).mpr ⟨hq, e1, e2⟩
        simp [exR, this]
  have tk : ∀ q ∈ R, (∀ vs, q.2.data ≠ .fields vs) ∨ q ∈ Rf := fun q hq => by
    by_cases e1 : q.1 = r.oa
    · rw [uniq q hq _ _ o1 e1]; exact .inl (ds_fields o2)
    · by_cases e2 : q.1 = r.bo
      · rw [uniq q hq _ _ d1 e2]; exact .inl (ds_fields d2)
      · exact .inr ((sf q).mpr ⟨hq, e1, e2⟩)
  have hl : handedIn r.ov = true := by
    rcases I.rs.lnk i r hi with ⟨_, e⟩ | ⟨_, _, _, _, _, e⟩ <;> rw [e] <;> rfl
  refine ⟨Rf, od, po, oo, bdo, bpo, boo, bv, ⟨⟨I.S, I.T1.mono sup, I.T2.mono sup, I.F, I.B, I.rs.mono sup, fun q hq => I.R0 q (sub q hq), fun q hq => I.R1 q (sub q hq), fun q hq => I.R2 q (sub q hq), fun q hq => I.R3 q (sub q hq), fun q hq => I.R4 q (sub q hq), I.ne⟩, sub, sup, f3, p2, o2, b2, b3, c2, d2,
    I.T1.off N hR tk, I.T2.off N hR tk, hl, ?_, fun q hq => I.R0 q ((sf q).mp hq).1, fun q hq => I.R1 q ((sf q).mp hq).1, fun q hq => I.R2 q ((sf q).mp hq).1, fun q hq => I.R3 q ((sf q).mp hq).1, fun q hq => I.R4 q ((sf q).mp hq).1, fun q hq => ((sf q).mp hq).2.1, fun q hq => ((sf q).mp hq).2.2,
    ⟨Ne.symm a1, Ne.symm a2, Ne.symm a3, Ne.symm a4, Ne.symm a5, Ne.symm s3, Ne.symm (I.R0 _ o1), Ne.symm (I.R1 _ o1), Ne.symm (I.R2 _ o1), Ne.symm (I.R3 _ o1), Ne.symm (I.R4 _ o1)⟩,
    ⟨Ne.symm g1, Ne.symm g2, Ne.symm g3, Ne.symm g4, Ne.symm g5, s3, Ne.symm (I.R0 _ d1), Ne.symm (I.R1 _ d1), Ne.symm (I.R2 _ d1), Ne.symm (I.R3 _ d1), Ne.symm (I.R4 _ d1)⟩,
    ⟨I.R1 _ f1, I.R1 _ f2, I.R1 _ p1, I.R1 _ o1, I.R1 _ b1, I.R1 _ c1, I.R1 _ d1⟩, ⟨I.R3 _ f1, I.R3 _ f2, I.R3 _ p1, I.R3 _ o1, I.R3 _ b1, I.R3 _ c1, I.R3 _ d1⟩, ⟨I.R4 _ f1, I.R4 _ f2, I.R4 _ p1, I.R4 _ o1, I.R4 _ b1, I.R4 _ c1, I.R4 _ d1⟩⟩⟩
  rcases I.rs.lnk i r hi with e | ⟨j, r', e1, _, e2, e3⟩
  · exact .inl e
  · exact .inr ⟨j, r', e1, e2, e3⟩
theorem map_set_same {α β : Type} {f : α → β} {l : List α} {i : Nat} {x y : α} (h : l[i]? = some x) (e : f y = f x) : (l.set i y).map f = l.map f := by
  apply List.ext_getElem?
  intro j
  rw [List.getElem?_map, List.getElem?_map, List.getElem?_set]
  by_cases hj : i = j
  · subst hj
    rw [if_pos rfl, h, if_pos (List.getElem?_eq_some_iff.mp h).1]
    simp [e]
  · rw [if_neg hj]
/-- the invariant after a name was bound -/
theorem bind_inv {w : World} {src FL BL : Addr} {so t1 t2 fo bo : Obj} {R Rf : List (Addr × Obj)} {recs : List Rec} {i : Nat} {r : Rec} {od po oo bdo bpo boo oo' boo' : Obj} {bv : Value} {c' : List (Str × Int)}
    (O : Opened w src FL BL so t1 t2 fo bo R Rf recs i r od po oo bdo bpo boo bv) (hi : recs[i]? = some r) (D1 : DS w r.oa oo' c') (D2 : DS w r.bo boo' c') : Inv w src FL BL so t1 t2 fo bo (exR r od po oo' bdo bpo boo' Rf) (recs.set i { r with own := c' }) := by
  have sub : ∀ q ∈ Rf, q ∈ exR r od po oo' bdo bpo boo' Rf := fun q hq => by simp [exR, hq]
  have I := O.inv
  have rr : ∀ q ∈ exR r od po oo' bdo bpo boo' Rf, ∃ q' ∈ exR r od po oo bdo bpo boo Rf, q'.1 = q.1 := fun q hq => by
    simp only [exR, List.mem_cons] at hq
    rcases hq with rfl | rfl | rfl | rfl | rfl | rfl | rfl | hq
    · exact ⟨(r.fa, instObj 134 r.da), by simp [exR], rfl⟩
    · exact ⟨(r.da, od), by simp [exR], rfl⟩
    · exact ⟨(r.pa, po), by simp [exR], rfl⟩
    · exact ⟨(r.oa, oo), by simp [exR], rfl⟩
    · exact ⟨(r.bd, bdo), by simp [exR], rfl⟩
    · exact ⟨(r.bp, bpo), by simp [exR], rfl⟩
    · exact ⟨(r.bo, boo), by simp [exR], rfl⟩
    · exact ⟨q, by simp [exR, hq], rfl⟩
  have st : ∀ d : Addr, (∀ q ∈ exR r od po oo bdo bpo boo Rf, q.1 ≠ d) → ∀ q ∈ exR r od po oo' bdo bpo boo' Rf, q.1 ≠ d := fun d k q hq => by
    obtain ⟨q', h1, h2⟩ := rr q hq
    exact h2 ▸ k q' h1
  obtain ⟨A, n, e1, e2⟩ := I.F
  obtain ⟨A2, n2, e3, e4⟩ := I.B
  refine ⟨I.S, O.tab.mono sub, O.tab2.mono sub, ⟨A, n, e1, ?_⟩, ⟨A2, n2, e3, ?_⟩, I.rs.bind hi (fun q hq h1 h2 => ?_) (by simp [exR]) D1 (by simp [exR]) D2, st _ I.R0, st _ I.R1, st _ I.R2, st _ I.R3, st _ I.R4, I.ne⟩
  · rw [map_set_same (f := fun r => Value.ref r.fa) (y := { r with own := c' }) hi rfl]; exact e2
  · rw [map_set_same (f := fun r => Value.ref r.bd) (y := { r with own := c' }) hi rfl]; exact e4
  · simp only [exR, List.mem_cons] at hq
    rcases hq with rfl | rfl | rfl | rfl | rfl | rfl | rfl | hq
    · simp [exR]
    · simp [exR]
    · simp [exR]
    · exact absurd rfl h1
    · simp [exR]
    · simp [exR]
    · exact absurd rfl h2
    · simp [exR, hq]
/-- the invariant after a lambda of deed was made -/
theorem lam_inv {w : World} {src FL BL c' : Addr} {so t1 t1' t2 fo bo oc : Obj} {R : List (Addr × Obj)} {recs : List Rec} (I : Inv w src FL BL so t1 t2 fo bo R recs) (T1 : TabOk "_law_deed.<locals>.<lambda>" ((c', oc) :: R) t1')
    (h0 : @Ne Nat src c') (h1 : @Ne Nat 187 c') (h2 : @Ne Nat 194 c') (h3 : @Ne Nat FL c') (h4 : @Ne Nat BL c') : Inv w src FL BL so t1' t2 fo bo ((c', oc) :: R) recs := by
  have sub : ∀ q ∈ R, q ∈ (c', oc) :: R := fun q hq => .tail _ hq
  have st : ∀ d : Addr, @Ne Nat d c' → (∀ q ∈ R, q.1 ≠ d) → ∀ q ∈ (c', oc) :: R, q.1 ≠ d := fun d k0 k q hq => by
    rcases List.mem_cons.mp hq with rfl | hq
    · exact Ne.symm k0
    · exact k q hq
  exact ⟨I.S, T1, I.T2.mono sub, I.F, I.B, I.rs.mono sub, st _ h0 I.R0, st _ h1 I.R1, st _ h2 I.R2, st _ h3 I.R3, st _ h4 I.R4, I.ne⟩
/-- the same for stands -/
theorem lam_inv2 {w : World} {src FL BL c' : Addr} {so t1 t2 t2' fo bo oc : Obj} {R : List (Addr × Obj)} {recs : List Rec} (I : Inv w src FL BL so t1 t2 fo bo R recs) (T2 : TabOk "_law_stands.<locals>.<lambda>" ((c', oc) :: R) t2')
    (h0 : @Ne Nat src c') (h1 : @Ne Nat 187 c') (h2 : @Ne Nat 194 c') (h3 : @Ne Nat FL c') (h4 : @Ne Nat BL c') : Inv w src FL BL so t1 t2' fo bo ((c', oc) :: R) recs := by
  have sub : ∀ q ∈ R, q ∈ (c', oc) :: R := fun q hq => .tail _ hq
  have st : ∀ d : Addr, @Ne Nat d c' → (∀ q ∈ R, q.1 ≠ d) → ∀ q ∈ (c', oc) :: R, q.1 ≠ d := fun d k0 k q hq => by
    rcases List.mem_cons.mp hq with rfl | hq
    · exact Ne.symm k0
    · exact k q hq
  exact ⟨I.S, I.T1.mono sub, T2, I.F, I.B, I.rs.mono sub, st _ h0 I.R0, st _ h1 I.R1, st _ h2 I.R2, st _ h3 I.R3, st _ h4 I.R4, I.ne⟩
/-- a way drawn -/
def WayQ (h₀ : Heap) (L : Addr) (m : Str → Option Value) (s : Shared) (g : Obj → List (Addr × Obj)) (n : Nat) (v : Value) (s' : Shared) : Prop :=
  ∃ r t so' h' tk', v = .int r t ∧ s' = { s with heap := h', toks := tk' } ∧ Fr h₀ L h' m ∧ News h₀ L h' (g so') ∧ Src so' ∧ 0 ≤ r ∧ r < 4 ∧ (r = 0 → n < 6)
theorem WayQ.intro {h₀ : Heap} {L : Addr} {m : Str → Option Value} {s : Shared} {g : Obj → List (Addr × Obj)} {n : Nat} {r : Int} {t : Tok} {so' : Obj} {h' : Heap} {tk' : Nat} (F : Fr h₀ L h' m) (N : News h₀ L h' (g so')) (S : Src so') (h0 : 0 ≤ r) (h1 : r < 4) (h2 : r = 0 → n < 6) :
    WayQ h₀ L m s g n (.int r t) { s with heap := h', toks := tk' } := ⟨r, t, so', h', tk', rfl, rfl, F, N, S, h0, h1, h2⟩
theorem way_join {M : Model} {A : Around} {s : Shared} {e : PySem.Expr} {env : Env} {Q E : Value → Shared → Prop} {h₀ : Heap} {L src : Addr} {m : Str → Option Value} {news : List (Addr × Obj)} {so : Obj} {g : Obj → List (Addr × Obj)} (n : Nat) (F : Fr h₀ L s.heap m) (N : News h₀ L s.heap news) (U : UpdF src so news g)
    (h1 : wpAny M A (eval e env) (WayQ h₀ L m s g n) E s) (h2 : ∀ r t so' h' tk', Fr h₀ L h' m → News h₀ L h' (g so') → Src so' → 0 ≤ r → r < 4 → (r = 0 → n < 6) → Q (.int r t) { s with heap := h', toks := tk' }) : wpAny M A (eval e env) Q E s :=
  wpAny_mono h1 (fun v s' ⟨r, t, so', h', tk', e1, e2, a, b, c, d, e, f⟩ => by subst e1 e2; exact h2 r t so' h' tk' a b c d e f) fun _ _ x => x
/-- an item of a list whose record is known -/
theorem item_rec {w : World} {A : Around} {E : Value → Shared → Prop} {s : Shared} {h₀ : Heap} {L l : Addr} {news : List (Addr × Obj)} {value slice : PySem.Expr} {A' : Array Value} {n : Nat} {k : Int} {u : Tok} {recs : List Rec} {r : Rec} {f : Rec → Addr} {Q : Value → Shared → Prop}
    (N : News h₀ L s.heap news) (hm : (l, listOf A' n) ∈ news) (hA : A' = (recs.map fun r => Value.ref (f r)).toArray) (h0 : 0 ≤ k) (h1 : k < 1000) (hr : recs[k.toNat]? = some r) (h : Q (.ref (f r)) s)
    (hs : subscripted slice false (.ref l) (.int k u) = operate [.ref l, .int k u] (getItem (.ref l) (.int k u)) := by with_unfolding_all rfl) :
    wpAny (model PySem.Challenge.rw_on0180_01.row.prog w) A (subscriptTail value slice (.ref l) (.int k u)) Q E s :=
  item_at (v := .ref (f r)) N hm h0 (by omega) (by rw [hA]; simp [hr]) h hs
theorem cells_ne {R : List (Addr × Obj)} {L : Addr} (h : ∀ q ∈ R, @LT.lt Nat _ q.1 L) : (∀ q ∈ R, q.1 ≠ L + 1) ∧ (∀ q ∈ R, q.1 ≠ L + 1 + 1) ∧ (∀ q ∈ R, q.1 ≠ L + 1 + 1 + 1) := by
  refine ⟨fun q hq e => ?_, fun q hq e => ?_, fun q hq e => ?_⟩ <;>
  · have := h q hq
    rw [e] at this
    revert this
    change ¬ @LT.lt Nat _ _ _
    omega
/-- what is no dict stays where two dicts of a record change -/
theorem exR_keep {w : World} {r : Rec} {od po oo bdo bpo boo oo' boo' : Obj} {Rf : List (Addr × Obj)} {c c' : List (Str × Int)} (D1 : DS w r.oa oo c) (D2 : DS w r.bo boo c') (q : Addr × Obj) (hq : q ∈ exR r od po oo bdo bpo boo Rf) (hd : ∀ es ep, q.2.data ≠ .dict es ep) : q ∈ exR r od po oo' bdo bpo boo' Rf := by
  have nd : ∀ (d : Addr) (o : Obj) (c : List (Str × Int)), DS w d o c → ∃ es ep, o.data = .dict es ep := fun d o c D => by
    obtain ⟨_, _, kvs, hd, _⟩ := D
    obtain ⟨es, ep, _, hh, _⟩ := hd
    exact ⟨es, ep, hh⟩
  simp only [exR, List.mem_cons] at hq ⊢
  rcases hq with rfl | rfl | rfl | rfl | rfl | rfl | rfl | hq
  · simp
  · simp
  · simp
  · obtain ⟨es, ep, e⟩ := nd _ _ _ D1
    exact absurd e (hd es ep)
  · simp
  · simp
  · obtain ⟨es, ep, e⟩ := nd _ _ _ D2
    exact absurd e (hd es ep)
  · simp [hq]

theorem row99 : True := by
  w_top off
  exact trivial
section
theorem row101 : True := by
  k_with "m eval Name" => ((fail_if_success (k_extra "off s100")); ((k_here; k_dflt (refine' nameX_F ?Nq56026 ?cq56026 ?mq56026 ?dq56026 ?_ ?aq56026 ?bq56026; (case aq56026 => rfl); (case bq56026 => rfl); (case Nq56026 => k_asm); (case cq56026 => rfl); (case mq56026 => k_mem); (case dq56026 => k_asm); k_whole))))
  k_with "m mine lam" => ((fail_if_success (k_extra "off s100")); ((refine' kla_code ?k1q461 ?k2q461 ?k3q461 ?k4q461 ?k5q461 ?kAq461 ?kFq461 ?kKq461 ?k6q461 ?k7q461 ?k8q461 ?k9q461 ?kBq461 ?_ ?c2q461 ?c3q461 ?c4q461 ?c5q461; (case kAq461 => exact rfl); (case kFq461 => exact rfl); (case kKq461 => assumption); (case k1q461 => k_asm); (case k2q461 => k_asm); (case k3q461 => k_asm); (case k4q461 => k_asm); (case k5q461 => k_asm); (case k6q461 => k_mem); (case k7q461 => exact codeRec_news (by k_asm) (by k_mem) (by assumption) (by assumption)); (case k8q461 => ktr_room); (case k9q461 => exact rfl); (case c5q461 => decide); (case kBq461 => exact locs rfl); (case c2q461 => exact rfl); (case c3q461 => exact rfl); (case c4q461 => exact rfl); k_whole; intro g' L' h' FG' F' N' B' X' T'; (try dsimp only); (try k_fold))))
  exact trivial
theorem lam_bparam_ok {w : World} {dp un : Nat} {gd : Option (List Code)} {cn : Str} {cs : Scope} {a : Addr} {ccd : Value} {cl : List (Str × Addr)} {outer : List Env} {A₀ : Around} {base h₀ : Heap} {L : Addr} {m mg mb : Str → Option Value}
  {p : Program} {loose : List Str} {mean : ExcName → Option Value} {news : List (Addr × Obj)} {g : Obj → List (Addr × Obj)} {s : Shared} {Q E : Value → Shared → Prop} {f c' ca cb cc : Addr} {nm qual : Str} {pm ctv : Value} {oc o1 o2 o3 : Obj} {vs : Array Value} {tq : Tok} {fa da oa pa : Addr} {ov : Value} {oo po : Obj} {c cp : List (Str × Int)} {x : Str} {t te : Tok} {e : Int}
  (B : Below A₀ base outer h₀) (F : Fr h₀ L s.heap m) (X : (hd.heap_39 w.params).In h₀) (N : News h₀ L s.heap news) (T : Top p loose mean mg mb h₀) (hk : cs.kind = .function) (hdp : dp + 150 < recursionLimit) (hun : un + 1500 < cLine)
  (hl : (f, kla_obj nm qual NoArgs (.Call (.Attribute (.Name "frame" ⟨129, 9, 129, 14⟩) "bind_param" ⟨129, 9, 129, 25⟩) [.Name "name" ⟨129, 26, 129, 30⟩, .Name "value" ⟨129, 32, 129, 37⟩] [] ⟨129, 9, 129, 38⟩) LScope3 [("value", cc), ("name", cb), ("frame", ca)] pm c' ctv) ∈ news) (hcm : (c', oc) ∈ news) (hcd : oc.data = .fields vs) (hcv : vs[1]? = some (.str qual tq)) (m1 : (ca, o1) ∈ news) (d1 : o1.data = .cell (some (.ref fa))) (m2 : (cb, o2) ∈ news) (d2 : o2.data = .cell (some (.str x t))) (m3 : (cc, o3) ∈ news) (d3 : o3.data = .cell (some (.int e te)))
  (hf : FA w news fa da oa pa ov) (U : UpdF oa oo news g) (D : DS w oa oo c) (h2 : (pa, po) ∈ news) (DP : DS w pa po cp) (n3 : @Ne Nat pa oa) (n1 : @Ne Nat fa oa) (n2 : @Ne Nat da oa) (n4 : @Ne Nat f oa) (n5 : @Ne Nat c' oa) (n6 : @Ne Nat ca oa) (n7 : @Ne Nat cb oa) (n8 : @Ne Nat cc oa) (hno : kdpHas c x = false) (hx : Nm x)
  (hret : ∀ oo' h' tk', Fr h₀ L h' m → News h₀ L h' (g oo') → DS w oa oo' (kdpPut c x (kdpLook cp x e)) → Q .none { s with heap := h', toks := tk' }) :
  wpAny (model PySem.Challenge.rw_on0180_01.row.prog w) (ktrTop dp un gd cn cs L a ccd cl outer) (call (.ref f) []) Q E s := by
  obtain ⟨rest, h1, h3, h4⟩ := upd_front U
  obtain ⟨f1, od, f2, t1, t2, t3, rfl⟩ := hf
  replace N := news_cons (N _ hl) (news_cons (N _ hcm) (news_cons (N _ m1) (news_cons (N _ m2) (news_cons (N _ m3) (news_cons (N _ f1) (news_cons (N _ f2) (news_cons (N _ h2) (news_of N (fun q hq => (h3 q).mp hq)))))))))
  obtain ⟨k9, n9, g9, c9, m9⟩ := cs
  have hk9 : k9 = .function := hk
  subst hk9
  revert X; k_fill; intro X
  refine wpAny_call ?_
  k_dflt (k_extra "m mine lam")
  k_steps
  rename (DS w oa _ _) => D9
  exact hret _ _ _ (by assumption) (news_of (by assumption) (fun q hq => by have hq := (h4 _ q).mp hq; repeat (first | exact hq | apply List.mem_cons_of_mem))) D9
theorem lam_bind_ok {w : World} {dp un : Nat} {gd : Option (List Code)} {cn : Str} {cs : Scope} {a : Addr} {ccd : Value} {cl : List (Str × Addr)} {outer : List Env} {A₀ : Around} {base h₀ : Heap} {L : Addr} {m mg mb : Str → Option Value}
  {p : Program} {loose : List Str} {mean : ExcName → Option Value} {news : List (Addr × Obj)} {g : Obj → List (Addr × Obj)} {s : Shared} {Q E : Value → Shared → Prop} {f c' ca cb cc : Addr} {nm qual : Str} {pm ctv : Value} {oc o1 o2 o3 : Obj} {vs : Array Value} {tq : Tok} {fa da oa pa : Addr} {ov : Value} {oo po : Obj} {c cp : List (Str × Int)} {x : Str} {t te : Tok} {e : Int}
  (B : Below A₀ base outer h₀) (F : Fr h₀ L s.heap m) (X : (hd.heap_39 w.params).In h₀) (N : News h₀ L s.heap news) (T : Top p loose mean mg mb h₀) (hk : cs.kind = .function) (hdp : dp + 150 < recursionLimit) (hun : un + 1500 < cLine)
  (hl : (f, kla_obj nm qual NoArgs (.Call (.Attribute (.Name "frame" ⟨130, 8, 130, 13⟩) "bind" ⟨130, 8, 130, 18⟩) [.Name "name" ⟨130, 19, 130, 23⟩, .Name "value" ⟨130, 25, 130, 30⟩] [] ⟨130, 8, 130, 31⟩) LScope3 [("value", cc), ("name", cb), ("frame", ca)] pm c' ctv) ∈ news) (hcm : (c', oc) ∈ news) (hcd : oc.data = .fields vs) (hcv : vs[1]? = some (.str qual tq)) (m1 : (ca, o1) ∈ news) (d1 : o1.data = .cell (some (.ref fa))) (m2 : (cb, o2) ∈ news) (d2 : o2.data = .cell (some (.str x t))) (m3 : (cc, o3) ∈ news) (d3 : o3.data = .cell (some (.int e te)))
  (hf : FA w news fa da oa pa ov) (U : UpdF oa oo news g) (D : DS w oa oo c) (n1 : @Ne Nat fa oa) (n2 : @Ne Nat da oa) (n4 : @Ne Nat f oa) (n5 : @Ne Nat c' oa) (n6 : @Ne Nat ca oa) (n7 : @Ne Nat cb oa) (n8 : @Ne Nat cc oa) (hno : kdpHas c x = false) (hx : Nm x)
  (hret : ∀ oo' h' tk', Fr h₀ L h' m → News h₀ L h' (g oo') → DS w oa oo' (kdpPut c x e) → Q .none { s with heap := h', toks := tk' }) :
  wpAny (model PySem.Challenge.rw_on0180_01.row.prog w) (ktrTop dp un gd cn cs L a ccd cl outer) (call (.ref f) []) Q E s := by
  obtain ⟨rest, h1, h3, h4⟩ := upd_front U
  obtain ⟨f1, od, f2, t1, t2, t3, rfl⟩ := hf
  replace N := news_cons (N _ hl) (news_cons (N _ hcm) (news_cons (N _ m1) (news_cons (N _ m2) (news_cons (N _ m3) (news_cons (N _ f1) (news_cons (N _ f2) (id (news_of N (fun q hq => (h3 q).mp hq)))))))))
  obtain ⟨k9, n9, g9, c9, m9⟩ := cs
  have hk9 : k9 = .function := hk
  subst hk9
  revert X; k_fill; intro X
  refine wpAny_call ?_
  k_dflt (k_extra "m mine lam")
  k_steps
  rename (DS w oa _ _) => D9
  exact hret _ _ _ (by assumption) (news_of (by assumption) (fun q hq => by have hq := (h4 _ q).mp hq; repeat (first | exact hq | apply List.mem_cons_of_mem))) D9
end
theorem row102 : True := by
  k_with "off s100" => skip
  exact trivial
theorem row103 : True := by
  k_with "m mine led" => (((rename News _ _ _ _ => kN); (repeat (refine news_cons (kN _ (by k_mem)) ?_)); exact news_of kN (by k_extra "m mine sub")))
  k_with "m mine ds2" => (first | assumption | exact ⟨by assumption, DC.put (by assumption) (by assumption), _, by assumption, by assumption⟩)
  exact trivial
theorem hds_nil {news R : List (Addr × Obj)} : ∀ d ∈ ([] : List Addr), (∃ o, (d, o) ∈ news) ∧ ∀ q ∈ R, q.1 ≠ d := fun d h => nomatch h
theorem hds_cons {news R : List (Addr × Obj)} {d : Addr} {ds : List Addr} {o : Obj} (h1 : (d, o) ∈ news) (h2 : ∀ q ∈ R, q.1 ≠ d) (h3 : ∀ d ∈ ds, (∃ o, (d, o) ∈ news) ∧ ∀ q ∈ R, q.1 ≠ d) : ∀ d' ∈ d :: ds, (∃ o, (d', o) ∈ news) ∧ ∀ q ∈ R, q.1 ≠ d' := fun d' h => by
  rcases List.mem_cons.mp h with rfl | h
  · exact ⟨⟨o, h1⟩, h2⟩
  · exact h3 d' h
theorem canonD {h₀ h : Heap} {L D1 D2 l k1 k2 k3 src FL BL : Addr} {x1 x2 x3 y1 y2 y3 so t1 t2 fo bo : Obj} {R X : List (Addr × Obj)} (N : News h₀ L h ((D1, x1) :: (D2, x2) :: (l, x3) :: (k3, y3) :: (k2, y2) :: (k1, y1) :: led src FL BL so t1 t2 fo bo R)) (sub : ∀ q ∈ X, q ∈ R) :
    News h₀ L h ((k3, y3) :: (k2, y2) :: (k1, y1) :: led src FL BL so t1 t2 fo bo X) := by
  refine news_of N fun q hq => ?_
  simp only [led, List.mem_cons] at hq ⊢
  rcases hq with h | h | h | h | h | h | h | h | h
  all_goals first | (have := sub q h; simp [this]; done) | simp [h]
theorem has_or {x : Str} (h : Nm x) (c : List (Str × Int)) : kdpHas c x = true ∨ kdpHas c x = false := by
  cases kdpHas c x
  · exact .inr rfl
  · exact .inl rfl
theorem at_rec {recs : List Rec} {k : Int} (h1 : k < (recs.length : Int)) (h0 : 0 ≤ k) : ∃ r, recs[k.toNat]? = some r := ⟨_, List.getElem?_eq_getElem (by omega)⟩
theorem TabOk.cons_mono {qual : Str} {R R' : List (Addr × Obj)} {t : Obj} {q : Addr × Obj} (h : TabOk qual (q :: R) t) (k : ∀ q ∈ R, q ∈ R') : TabOk qual (q :: R') t := h.mono fun p hp => by
  rcases List.mem_cons.mp hp with rfl | hp
  · exact .head _
  · exact .tail _ (k p hp)
theorem out_or {v : Value} {o : Option Nat} (h : IsOut v o) : v = .none ∨ ∃ j t, v = .int j t := by
  cases o with
  | none => exact .inl h
  | some j => obtain ⟨t, e⟩ := h; exact .inr ⟨_, t, e⟩
theorem ds_set {w : World} {A : Around} {E : Value → Shared → Prop} {s : Shared} {h₀ : Heap} {L d : Addr} {m : Str → Option Value} {news : List (Addr × Obj)} {g : Obj → List (Addr × Obj)} {o : Obj} {c : List (Str × Int)} {k : Str} {e : Int} {tk te : Tok} {Q : Unit → Shared → Prop}
    (F : Fr h₀ L s.heap m) (N : News h₀ L s.heap news) (U : UpdF d o news g) (D : DS w d o c) (hx : Nm k)
    (h : ∀ h' o', Fr h₀ L h' m → News h₀ L h' (g o') → DS w d o' (kdpPut c k e) → Q () { s with heap := h', toks := s.toks + 1 }) : wpAny (model PySem.Challenge.rw_on0180_01.row.prog w) A (setItem (.ref d) (.str k tk) (.int e te)) Q E s := by
  obtain ⟨lo, hc, kvs, hd, hf⟩ := D
  exact kdp_setItem F N U hd hf (Nat.le_trans hc.len (by decide)) (fun h' o' kvs' F' N' a b => h h' o' F' N' ⟨lo, hc.put hx, kvs', a, b⟩)
theorem way4 {r : Int} (h0 : 0 ≤ r) : r = 0 ∨ r = 1 ∨ (1 < r) := by omega

theorem row104 : True := by
  w_top off
  exact trivial
inductive WayIs : Nat → Prop
  | mk (n : Nat) : WayIs n
section
theorem row106 : True := by
  k_with "m subscriptTail Name Name ref int" => ((fail_if_success (k_extra "off s105")); ((k_here; (with_reducible show wpAny _ _ (subscriptTail _ _ (Value.ref _) (Value.int _ _)) _ _ _); k_dflt (first | refine item_rec (by k_asm) (by k_mem) hA (by omega) (by omega) hx ?_ (by with_unfolding_all rfl) | refine item_rec (by k_asm) (by k_mem) hA2 (by omega) (by omega) hx ?_ (by with_unfolding_all rfl)); (try dsimp only))))
  k_with "m subscriptTail" => ((fail_if_success (k_extra "off s105")); ((k_extra "m mine key"; (try dsimp only))))
  k_with "m eval Lambda" => ((fail_if_success (k_extra "off s105")); ((k_here; (with_reducible show wpAny _ _ (eval (PySem.Expr.Lambda _ _ _ _) _) _ _ _); k_dflt (refine lam_make [src, 187, 194, FL, BL, x.oa, x.bo] (by k_asm) (by k_asm) (by k_asm) (hC.keeps (Below.stays (by assumption))) rfl (by k_updF) tab (by k_extra "m mine sub") z1 (by repeat (first | exact hds_nil | refine hds_cons (by k_mem) (by assumption) ?_)) rfl rfl rfl ?_; k_whole); (try dsimp only); intro fl9 cl9 oc9 vs9 t9 pm9 ctv9 ot9 h9 tk9 F9 N9 dd9 dv9 TT9 lf9 an9; k_lt lf9; (simp only [AllNe, and_true] at an9); (obtain ⟨an1, an2, an3, an4, an5, an6, an7⟩ := an9))))
  k_with "m mine lamfail" => ((fail_if_success (k_extra "off s105")); (first | ((rename WayIs 0 => hp7); exact lam_bound_fail (by k_mem) (by k_mem) (by assumption) (by assumption) (by k_mem) (by assumption) (by k_mem) (by assumption) (by k_mem) (by assumption) (by k_extra "m mine fa") (by assumption) (by k_mem) (by k_extra "m mine ds") (by k_mem) (by k_extra "m mine ds") (by assumption) (by assumption)) | ((rename WayIs 1 => hp7); exact lam_bparam_fail (by k_mem) (by k_mem) (by assumption) (by assumption) (by k_mem) (by assumption) (by k_mem) (by assumption) (by k_mem) (by assumption) (by k_extra "m mine fa") (by k_mem) (by k_extra "m mine ds") (by k_mem) (by k_extra "m mine ds") (by assumption) (by assumption)) | ((rename WayIs 2 => hp7); exact lam_bind_fail (by k_mem) (by k_mem) (by assumption) (by assumption) (by k_mem) (by assumption) (by k_mem) (by assumption) (by k_mem) (by assumption) (by k_extra "m mine fa") (by k_mem) (by k_extra "m mine ds") (by assumption) (by assumption))))
  k_with "m call ref" => ((fail_if_success (k_extra "off s105")); ((k_here; (with_reducible show wpAny _ _ (call (Value.ref 185) [Value.ref _]) _ _ _); k_dflt (refine refused_spec (by k_asm) (by k_asm) (by k_asm) (by k_asm) (by k_asm) rfl (by k_extra "m mine room") (by k_extra "m mine room") (by assumption) (by assumption) (by assumption) (by k_mem) (by k_extra "m mine lamfail") ?_; k_whole); intro g9 h9 tk9 KT9 F9 N9; (obtain ⟨KT, KB, KX, KP, KD⟩ := KT9))))
  k_with "m call ref" => ((fail_if_success (k_extra "off s105")); ((k_here; (with_reducible show wpAny _ _ (call (Value.ref _) []) _ _ _); k_dflt (first | ((rename WayIs 1 => hp7); refine' lam_bparam_ok ?b1q96493 ?b2q96493 ?b3q96493 ?b4q96493 ?b5q96493 rfl ?b6q96493 ?b7q96493 ?b8q96493 ?b9q96493 ?b10q96493 ?b11q96493 ?b12q96493 ?b13q96493 ?b14q96493 ?b15q96493 ?b16q96493 ?b17q96493 ?b18q96493 ?b19q96493 ?b20q96493 ?b21q96493 ?b22q96493 ?b23q96493 ?b24q96493 ?b25q96493 ?b26q96493 ?b27q96493 ?b28q96493 ?b29q96493 ?b30q96493 ?b31q96493 ?b32q96493 ?_; (case b1q96493 => k_asm); (case b2q96493 => k_asm); (case b3q96493 => k_asm); (case b4q96493 => k_asm); (case b5q96493 => k_asm); (case b6q96493 => k_extra "m mine room"); (case b7q96493 => k_extra "m mine room"); (case b8q96493 => k_mem); (case b9q96493 => k_mem); (case b10q96493 => assumption); (case b11q96493 => assumption); (case b12q96493 => k_mem); (case b13q96493 => assumption); (case b14q96493 => k_mem); (case b15q96493 => assumption); (case b16q96493 => k_mem); (case b17q96493 => assumption); (case b18q96493 => k_extra "m mine fa"); (case b19q96493 => k_updF); (case b20q96493 => k_extra "m mine ds"); (case b21q96493 => k_mem); (case b22q96493 => k_extra "m mine ds"); (case b23q96493 => first | assumption | exact Ne.symm (by assumption) | omega); (case b24q96493 => first | assumption | exact Ne.symm (by assumption) | omega); (case b25q96493 => first | assumption | exact Ne.symm (by assumption) | omega); (case b26q96493 => first | assumption | exact Ne.symm (by assumption) | omega); (case b27q96493 => first | assumption | exact Ne.symm (by assumption) | omega); (case b28q96493 => first | assumption | exact Ne.symm (by assumption) | omega); (case b29q96493 => first | assumption | exact Ne.symm (by assumption) | omega); (case b30q96493 => first | assumption | exact Ne.symm (by assumption) | omega); (case b31q96493 => assumption); (case b32q96493 => assumption)) | ((rename WayIs 2 => hp7); refine' lam_bind_ok (cp := []) (po := listOf #[] 0) ?b1q96493 ?b2q96493 ?b3q96493 ?b4q96493 ?b5q96493 rfl ?b6q96493 ?b7q96493 ?b8q96493 ?b9q96493 ?b10q96493 ?b11q96493 ?b12q96493 ?b13q96493 ?b14q96493 ?b15q96493 ?b16q96493 ?b17q96493 ?b18q96493 ?b19q96493 ?b20q96493 ?b21q96493 ?b22q96493 ?b23q96493 ?b24q96493 ?b25q96493 ?b26q96493 ?b27q96493 ?b28q96493 ?b29q96493 ?_; (case b1q96493 => k_asm); (case b2q96493 => k_asm); (case b3q96493 => k_asm); (case b4q96493 => k_asm); (case b5q96493 => k_asm); (case b6q96493 => k_extra "m mine room"); (case b7q96493 => k_extra "m mine room"); (case b8q96493 => k_mem); (case b9q96493 => k_mem); (case b10q96493 => assumption); (case b11q96493 => assumption); (case b12q96493 => k_mem); (case b13q96493 => assumption); (case b14q96493 => k_mem); (case b15q96493 => assumption); (case b16q96493 => k_mem); (case b17q96493 => assumption); (case b18q96493 => k_extra "m mine fa"); (case b19q96493 => k_updF); (case b20q96493 => k_extra "m mine ds"); (case b21q96493 => first | assumption | exact Ne.symm (by assumption) | omega); (case b22q96493 => first | assumption | exact Ne.symm (by assumption) | omega); (case b23q96493 => first | assumption | exact Ne.symm (by assumption) | omega); (case b24q96493 => first | assumption | exact Ne.symm (by assumption) | omega); (case b25q96493 => first | assumption | exact Ne.symm (by assumption) | omega); (case b26q96493 => first | assumption | exact Ne.symm (by assumption) | omega); (case b27q96493 => first | assumption | exact Ne.symm (by assumption) | omega); (case b28q96493 => assumption); (case b29q96493 => assumption))); (try dsimp only); intro o9 h9 tk9 F9 N9 D9)))
  k_with "m callWith ref" => ((fail_if_success (k_extra "off s105")); ((k_here; (with_reducible show wpAny _ _ (callWith _ (Value.ref _) [] (backTo _ (starEach [] _)) []) _ _ _); k_dflt (refine callWith_F0 (FnAt.of (by k_asm) (by k_mem)) ?_; k_whole; try dsimp only [List.nil_append, List.cons_append]))))
  k_with "m setItem ref str" => ((fail_if_success (k_extra "off s105")); ((k_here; (with_reducible show wpAny _ _ (setItem (Value.ref _) (Value.str _ _) (Value.int _ _)) _ _ _); k_dflt (refine ds_set (by k_asm) (by k_asm) (by k_updF) (by k_extra "m mine ds") (by assumption) ?_; k_whole); (try dsimp only); intro h9 o9 F9 N9 D9)))
  k_with "m mine new" => ((fail_if_success (k_extra "off s105")); (((rename News _ _ _ _ => kN); (refine' made_ret_k kN inv ?hFLq7224 ?h1q7224 ?h2q7224 ?h3q7224 ?h4q7224 ?h5q7224 ?h6q7224 ?h7q7224 ?hBLq7224 ?h8q7224 ?h9q7224 ?h10q7224 ?h11q7224 ?h12q7224 ?h13q7224 ?h14q7224 ?hlkq7224 ?hsrcq7224 ?hSq7224 ?h187q7224 ?h194q7224 ?hRq7224 hloX ?hfixq7224 ?hnewq7224 ?hbpq7224 ?hsepq7224 (fun x' R' NN II SS => hret _ _ _ _ _ _ _ _ _ (by assumption) (by assumption) NN II (by simp) (by rw [List.length_append]; show recs.length + 1 ≤ 6; omega) (fun q hq _ => SS q (sup q hq)))); (case hFLq7224 => k_mem); (case h1q7224 => k_mem); (case h2q7224 => k_mem); (case h3q7224 => first | assumption | exact ⟨_, _, _, rfl⟩); (case h4q7224 => k_mem); (case h5q7224 => k_extra "m mine ds"); (case h6q7224 => k_mem); (case h7q7224 => k_extra "m mine ds"); (case hBLq7224 => k_mem); (case h8q7224 => k_mem); (case h9q7224 => k_dflt (unfold BD; assumption)); (case h10q7224 => k_mem); (case h11q7224 => k_extra "m mine ds"); (case h12q7224 => k_mem); (case h13q7224 => k_extra "m mine ds2"); (case h14q7224 => exact io); (case hlkq7224 => exact lk); (case hsrcq7224 => k_mem); (case hSq7224 => assumption); (case h187q7224 => k_mem); (case h194q7224 => k_mem); (case hRq7224 => ((iterate 7 (refine List.forall_mem_cons.mpr ⟨by k_mem, ?_⟩)); k_extra "m mine sub")); (case hfixq7224 => exact ⟨l01, l02, l03, l04, l05⟩); (case hnewq7224 => (refine ⟨?_, ?_, ?_, ?_, ?_, ?_⟩ <;> omega)); (case hbpq7224 => exact .inr ⟨by k_mem, _, _, hx, rfl⟩); (case hsepq7224 => (refine ⟨?_, ?_, ?_, ?_, ?_, ?_, ?_, ?_, ?_, ?_, ?_⟩ <;> omega)))))
  k_with "m ite" => ((fail_if_success (k_extra "off s105")); ((refine ite_neg (by first | ((with_reducible rw [decide_eq_true_iff]); omega) | ((with_reducible rw [beq_iff_eq]); omega)) ?_)))
  k_with "m eval IfExp" => ((fail_if_success (k_extra "off s105")); (((with_reducible show wpAny _ _ (eval (PySem.Expr.IfExp (PySem.Expr.Compare (PySem.Expr.Call _ _ _ _) _ _ _) _ _ _) _) _ _ _); (fail_if_success (rename Passed 2 => hp9)); refine Stay.out ?_)))
  k_with "m exec Assign" => ((fail_if_success (k_extra "off s105")); (((with_reducible show wpAny _ _ (exec (Stmt.Assign [PySem.Expr.Tuple [PySem.Expr.Name "frame" _, _] _ _] _ _) _) _ _ _); (fail_if_success (rename Passed 1 => hp9)); refine Stay.out ?_)))
  exact trivial
set_option maxHeartbeats 40000000 in
theorem deed_spec {w : World} {dp un : Nat} {gd : Option (List Code)} {cn : Str} {cs : Scope} {a : Addr} {ccd : Value} {cl : List (Str × Addr)} {outer : List Env} {A₀ : Around} {base h₀ : Heap} {L : Addr} {m mg mb : Str → Option Value}
  {p : Program} {loose : List Str} {mean : ExcName → Option Value} {s : Shared} {Q E : Value → Shared → Prop} {src FL BL : Addr} {so t1 t2 fo bo : Obj} {R : List (Addr × Obj)} {recs : List Rec}
  (B : Below A₀ base outer h₀) (F : Fr h₀ L s.heap m) (X : (hd.heap_39 w.params).In h₀) (N : News h₀ L s.heap (led src FL BL so t1 t2 fo bo R)) (T : Top p loose mean mg mb h₀) (hk : cs.kind = .function) (hdp : dp + 180 < recursionLimit) (hun : un + 1800 < cLine)
  (XB : (hd.heap_39 w.params).In base) (TB : Top p loose mean mg mb base) (D : KtsDicts (outer.filterMap (·.frame)) h₀) (hC : CodeHd base 191 187) (I : Inv w src FL BL so t1 t2 fo bo R recs)
  (h1l : 1 ≤ recs.length) (h6l : recs.length ≤ 6)
  (hret : ∀ h₀' so' t1' fo' bo' R' recs' h' tk', Turned w A₀ base outer p loose mean mg mb h₀ h₀' → Fr h₀' L h' m → News h₀' L h' (led src FL BL so' t1' t2 fo' bo' R') → Inv w src FL BL so' t1' t2 fo' bo' R' recs' → 1 ≤ recs'.length → recs'.length ≤ 6 → (∀ q ∈ R, (∀ es ep, q.2.data ≠ .dict es ep) → q ∈ R') → Q (.bool true) { s with heap := h', toks := tk' }) :
  wpAny (model PySem.Challenge.rw_on0180_01.row.prog w) (ktrTop dp un gd cn cs L a ccd cl outer) (call (.ref 192) [.ref src, .ref FL, .ref BL]) Q E s := by
  have I0 := I
  obtain ⟨hS, hT1, hT2, ⟨A, n, rfl, hA⟩, ⟨A2, n2, rfl, hA2⟩, rs, R0, R1, R2, R3, R4, ne⟩ := I
  obtain ⟨e1, e2, e3, e4, e5, e6, e7, e8, e9⟩ := ne
  have hsz : A.size = recs.length := by rw [hA]; simp
  have hsz2 : A2.size = recs.length := by rw [hA2]; simp
  have hz1 : A.size ≤ sizeLine := by rw [sizeLine_eq]; omega
  have hz2 : A2.size ≤ sizeLine := by rw [sizeLine_eq]; omega
  obtain ⟨k9, n9, g9, c9, m9⟩ := cs
  have hk9 : k9 = .function := hk
  subst hk9
  revert X; k_fill; intro X
  refine wpAny_call ?_
  k_dflt (k_extra "m mine cells")
  rename (∀ q ∈ led _ _ _ _ _ _ _ _ _, _) => l0
  have l01 : @LT.lt Nat _ src _ := l0 _ (.head _)
  have l02 : @LT.lt Nat _ 187 _ := l0 _ (.tail _ (.head _))
  have l03 : @LT.lt Nat _ 194 _ := l0 _ (.tail _ (.tail _ (.head _)))
  have l04 : @LT.lt Nat _ FL _ := l0 _ (.tail _ (.tail _ (.tail _ (.head _))))
  have l05 : @LT.lt Nat _ BL _ := l0 _ (.tail _ (.tail _ (.tail _ (.tail _ (.head _)))))
  have hlo := fun q hq => l0 q (.tail _ (.tail _ (.tail _ (.tail _ (.tail _ hq)))))
  clear l0
  obtain ⟨c1, c2, c3⟩ := cells_ne hlo
  rename (_ = Data.cell (bindC _ _ _ _)) => zz1
  replace zz1 : _ = Data.cell none := zz1
  rename (_ = Data.cell (bindC _ _ _ _)) => zz2
  replace zz2 : _ = Data.cell none := zz2
  rename (_ = Data.cell (bindC _ _ _ _)) => zz3
  replace zz3 : _ = Data.cell none := zz3
  k_steps
  refine Stay.mk ?_
  refine way_join (src := src) recs.length (by k_asm) (by k_asm) (by k_updF) ?_ ?_
  · have hp9 : Passed 2 := trivial
    k_steps
    all_goals (exact WayQ.intro (by k_asm) (by k_asm) (by assumption) (by omega) (by omega) (by omega))
  intro r8 t8 so8 h8 tk8 F8 N8 S8 w1 w2 w3
  try dsimp only at N8
  k_steps
  refine Stay.mk ?_
  have I1 : Inv w src FL BL so8 t1 t2 (listOf A n) (listOf A2 n2) R recs := { I0 with S := S8 }
  try clear N8
  rename News _ _ _ _ => N8
  rename (_ < ((recs.length : Nat) : Int)) => w4
  obtain ⟨x, hx⟩ := at_rec w4 (by assumption)
  obtain ⟨Rf, od, po, oo, bdo, bpo, boo, bv, O⟩ := I1.opened N8 (by k_extra "m mine sub") hx
  have N88 := canonD N8 O.sub
  dsimp only [led, exR] at N88
  clear N8
  have O0 := O
  obtain ⟨inv, sub, sup, fd, dp, dw, bk, io, bp, bw, tab, tab2, hand, lk, z0, z1, z2, z3, z4, z5, z6, ea, eb, ep, ef, el⟩ := O
  obtain ⟨ea1, ea2, ea3, ea4, ea5, ea6, ea7, ea8, ea9, ea10, ea11⟩ := ea
  obtain ⟨eb1, eb2, eb3, eb4, eb5, eb6, eb7, eb8, eb9, eb10, eb11⟩ := eb
  obtain ⟨ep1, ep2, ep3, ep4, ep5, ep6, ep7⟩ := ep
  obtain ⟨ef1, ef2, ef3, ef4, ef5, ef6, ef7⟩ := ef
  obtain ⟨el1, el2, el3, el4, el5, el6, el7⟩ := el
  have hloX := fun q hq => hlo q (sub q hq)
  have v1 : @LT.lt Nat _ x.fa _ := hloX _ (.head _)
  have v2 : @LT.lt Nat _ x.da _ := hloX _ (.tail _ (.head _))
  have v3 : @LT.lt Nat _ x.pa _ := hloX _ (.tail _ (.tail _ (.head _)))
  have v4 : @LT.lt Nat _ x.oa _ := hloX _ (.tail _ (.tail _ (.tail _ (.head _))))
  have v5 : @LT.lt Nat _ x.bd _ := hloX _ (.tail _ (.tail _ (.tail _ (.tail _ (.head _)))))
  have v6 : @LT.lt Nat _ x.bp _ := hloX _ (.tail _ (.tail _ (.tail _ (.tail _ (.tail _ (.head _))))))
  have v7 : @LT.lt Nat _ x.bo _ := hloX _ (.tail _ (.tail _ (.tail _ (.tail _ (.tail _ (.tail _ (.head _)))))))
  obtain ⟨y1, y2, y3⟩ := cells_ne (R := Rf) (fun q hq => hloX q (.tail _ (.tail _ (.tail _ (.tail _ (.tail _ (.tail _ (.tail _ hq))))))))
  obtain ⟨ta, tb, tc, rfl⟩ := fd
  have bwc := bw
  obtain ⟨lw, cw, kw, iw, fw⟩ := bwc
  have hlw := cw.len
  have bpc := bp
  obtain ⟨lp, cp, kp, ip, fp⟩ := bpc
  have hlp := cp.len
  have bkc := bk
  unfold BD at bkc
  have hp9 : Passed 1 := trivial
  rename (Nm _) => hx9
  clear R0 R1 R2 R3 R4 c1 c2 c3 I0 I1 hT1 hT2 rs N
  obtain hw | hw | hw := way4 w1
  · subst hw
    have hp7 := WayIs.mk 0
    obtain hb | hb := has_or hx9 x.own
    · k_steps
      all_goals (exact hret _ _ _ _ _ _ _ _ _ (by assumption) (by assumption) (by k_extra "m mine led") (lam_inv inv (TT9.cons_mono (by k_extra "m mine sub")) an1 an2 an3 an4 an5) h1l h6l (fun q hq _ => .tail _ (sup q hq)))
    · have h5l := w3 rfl
      obtain hv | ⟨jv, tv, hv⟩ := out_or io
      · subst hv
        k_steps
        k_extra "m mine new"
      · subst hv
        k_steps
        k_extra "m mine new"
  · subst hw
    have hp7 := WayIs.mk 1
    obtain hb | hb := has_or hx9 x.own
    · k_steps
      all_goals (exact hret _ _ _ _ _ _ _ _ _ (by assumption) (by assumption) (by k_extra "m mine led") (lam_inv inv (TT9.cons_mono (by k_extra "m mine sub")) an1 an2 an3 an4 an5) h1l h6l (fun q hq _ => .tail _ (sup q hq)))
    · k_steps
      all_goals (exact hret _ _ _ _ _ _ _ _ _ (by assumption) (by assumption) (by k_extra "m mine led") (lam_inv (bind_inv O0 hx (by assumption) (by k_extra "m mine ds2")) (TT9.cons_mono (by k_extra "m mine sub")) an1 an2 an3 an4 an5) (by simpa using h1l) (by simpa using h6l) (fun q hq hd => .tail _ (exR_keep dw bw q (sup q hq) hd)))
  · have hp7 := WayIs.mk 2
    obtain hb | hb := has_or hx9 x.own
    · k_steps
      all_goals (exact hret _ _ _ _ _ _ _ _ _ (by assumption) (by assumption) (by k_extra "m mine led") (lam_inv inv (TT9.cons_mono (by k_extra "m mine sub")) an1 an2 an3 an4 an5) h1l h6l (fun q hq _ => .tail _ (sup q hq)))
    · k_steps
      all_goals (exact hret _ _ _ _ _ _ _ _ _ (by assumption) (by assumption) (by k_extra "m mine led") (lam_inv (bind_inv O0 hx (by assumption) (by k_extra "m mine ds2")) (TT9.cons_mono (by k_extra "m mine sub")) an1 an2 an3 an4 an5) (by simpa using h1l) (by simpa using h6l) (fun q hq hd => .tail _ (exR_keep dw bw q (sup q hq) hd)))
end
theorem row107 : True := by
  k_with "off s105" => skip
  exact trivial

theorem row108 : True := by
  w_top off
  exact trivial
/-- the iterator of a range -/
def ItObj (o : Obj) : Prop := ∃ a b c : Int, o = ({ cls := .type "range_iterator", data := .fields #[rawInt a, rawInt b, rawInt c] } : Obj)
/-- a comprehension whose test always says no; its ground may turn in every turn -/
def NoEnd (L : Addr) (s : Shared) (I : Addr) (oI : Obj) (C : Addr) (oC : Obj) (D : Addr) (Jn : Heap → (Str → Option Value) → List (Addr × Obj) → Prop) (s₂ : Shared) : Prop :=
  ∃ g h' tk m' news', s₂ = { s with heap := h', toks := tk } ∧ Fr g L h' m' ∧ News g L h' ((I, oI) :: (C, oC) :: (D, LCg.lst []) :: news') ∧ LCg.Off3 I C D news' ∧ Jn g m' news'
theorem NoEnd.intro {L : Addr} {s : Shared} {I : Addr} {oI : Obj} {C : Addr} {oC : Obj} {D : Addr} {Jn : Heap → (Str → Option Value) → List (Addr × Obj) → Prop} {g h' : Heap} {tk : Nat} {m' : Str → Option Value} {news' : List (Addr × Obj)}
    (F : Fr g L h' m') (N : News g L h' ((I, oI) :: (C, oC) :: (D, LCg.lst []) :: news')) (o : LCg.Off3 I C D news') (j : Jn g m' news') : NoEnd L s I oI C oC D Jn { s with heap := h', toks := tk } := ⟨g, h', tk, m', news', rfl, F, N, o, j⟩
/-- how such a turn ends -/
def NoPost (L : Addr) (s : Shared) (I : Addr) (oI : Obj) (C : Addr) (oC : Obj) (D : Addr) (Jn : Heap → (Str → Option Value) → List (Addr × Obj) → Prop) (b : Bool) (s₂ : Shared) : Prop := if b = true then False else NoEnd L s I oI C oC D Jn s₂
section
variable {prog : Program} {w : World} {A : Around} {E : Value → Shared → Prop} {s : Shared} {env : Env} {L : Addr} {ct elt iter : PySem.Expr} {x : Str} {px pos : Pos} {scope : Scope} {cl : List (Str × Addr)}
def CompNo (prog : Program) (w : World) (A : Around) (L : Addr) (env : Env) (ct : PySem.Expr) (x : Str) (scope : Scope) (cl : List (Str × Addr)) (Q : Value → Shared → Prop) (xv : Value) (s₁ : Shared) : Prop :=
  ∃ (r : Addr) (t u v : Tok) (n : Nat) (h₀ : Heap) (m : Str → Option Value) (news : List (Addr × Obj)) (J : Nat → Heap → (Str → Option Value) → List (Addr × Obj) → Prop), xv = .ref r ∧ A.handled = none ∧ Fr h₀ L s₁.heap m ∧ News h₀ L s₁.heap news ∧ IsRange s₁.heap r 0 (n : Int) 1 t u v ∧ n ≤ 1000 ∧ J 0 h₀ m news ∧
    (∀ i I oI C oC D g m' news' m₂ h tk t (E' : Value → Shared → Prop), i < n → ItObj oI → J i g m' news' → LCg.NsObj oC m₂ → m₂ x = some (.int (i : Int) t) → Fr g L h m' → News g L h ((I, oI) :: (C, oC) :: (D, LCg.lst []) :: news') → LCg.Off3 I C D news' → ((@Ne Nat I C) ∧ (@Ne Nat I D) ∧ (@Ne Nat C D)) →
      wpAny (model prog w) A (isTrue ct (compEnvC scope cl C env) (eval ct (compEnvC scope cl C env))) (NoPost L { s₁ with heap := h, toks := tk } I oI C oC D (J (i + 1))) E' { s₁ with heap := h, toks := tk }) ∧
    ∀ g m' news' D h tk, J n g m' news' → Fr g L h m' → News g L h ((D, LCg.lst []) :: news') → LCg.Off1 D news' → Q (.ref D) { s₁ with heap := h, toks := tk }
theorem CompNo.intro {Q : Value → Shared → Prop} {s₁ : Shared} {r : Addr} {t u v : Tok} {n : Nat} {h₀ : Heap} {m : Str → Option Value} {news : List (Addr × Obj)} (J : Nat → Heap → (Str → Option Value) → List (Addr × Obj) → Prop) (hh : A.handled = none) (F : Fr h₀ L s₁.heap m) (N : News h₀ L s₁.heap news)
    (hr : IsRange s₁.heap r 0 (n : Int) 1 t u v) (hn : n ≤ 1000) (h0 : J 0 h₀ m news)
    (turn : ∀ i I oI C oC D g m' news' m₂ h tk t (E' : Value → Shared → Prop), i < n → ItObj oI → J i g m' news' → LCg.NsObj oC m₂ → m₂ x = some (.int (i : Int) t) → Fr g L h m' → News g L h ((I, oI) :: (C, oC) :: (D, LCg.lst []) :: news') → LCg.Off3 I C D news' → ((@Ne Nat I C) ∧ (@Ne Nat I D) ∧ (@Ne Nat C D)) →
      wpAny (model prog w) A (isTrue ct (compEnvC scope cl C env) (eval ct (compEnvC scope cl C env))) (NoPost L { s₁ with heap := h, toks := tk } I oI C oC D (J (i + 1))) E' { s₁ with heap := h, toks := tk })
    (done : ∀ g m' news' D h tk, J n g m' news' → Fr g L h m' → News g L h ((D, LCg.lst []) :: news') → LCg.Off1 D news' → Q (.ref D) { s₁ with heap := h, toks := tk }) : CompNo prog w A L env ct x scope cl Q (.ref r) s₁ :=
  ⟨r, t, u, v, n, h₀, m, news, J, rfl, hh, F, N, hr, hn, h0, turn, done⟩
theorem none_of {h₀ h : Heap} {L : Addr} {news : List (Addr × Obj)} (N : News h₀ L h news) {q : Addr × Obj} (hq : q ∈ news) : h₀.get? q.1 = none := (N q hq).2.2
theorem ListComp_no {Q : Value → Shared → Prop} {h₀ : Heap} {m : Str → Option Value} (F₀ : Fr h₀ L s.heap m)
    (hclos : closureFor scope env = pure cl) (hcell : ∀ y ∈ scope.names, y.2 ≠ .cell) (hkind : scope.kind = .function)
    (hnames : ∀ y ∈ scope.names, y.2 = .local → scope.names.lookup y.1 = some .local) (hx : scope.names.lookup x = some .local)
    (h : wpAny (model prog w) A (eval iter env) (CompNo prog w A L env ct x scope cl Q) E s)
    (hs : ∀ x, foldedSetIterable iter env x = pure x := by intro _; rfl) :
    wpAny (model prog w) A (eval (.ListComp elt [⟨.Name x px, iter, [ct], 0⟩] scope pos) env) Q E s := by
  rw [eval_ListComp]
  refine wpAny_comprehension_free (use := none) rfl hs hclos hkind hnames (wpAny_mono h (fun xv s₁ h₁ => ?_) fun _ _ e => e)
  obtain ⟨r, t, u, v, n, h₀, m, news, J, rfl, hh, F, N, hr, hn, h0, turn, done⟩ := h₁
  refine wpAny_pyIter_range hr (small_one (by omega) (by omega) (by omega) (by omega)) ?_
  have hsize : Builtin.Range.rangeSize 0 (n : Int) 1 = (n : Int) := by
    have := rangeSize_nat 0 n
    simpa using this
  rw [hsize]
  -- the iterator, the list, the names
  have W := LCg.range_walks (prog := prog) (w := w) (I := s₁.heap.objs.size) hh 0 n
  have hIL : L ≠ s₁.heap.objs.size := Nat.ne_of_lt F.ns.lt
  have hI₀ := next_is_new F
  have offI : ∀ p ∈ news, p.1 ≠ s₁.heap.objs.size := fun p hp => Nat.ne_of_lt (Heap.lt_size (N p hp).1)
  have F1 := F.push { cls := .type "range_iterator", data := .fields #[rawInt 0, rawInt (n : Int), rawInt 1] }
  have N1 : News h₀ L (s₁.heap.push { cls := .type "range_iterator", data := .fields #[rawInt 0, rawInt (n : Int), rawInt 1] }) news := N.grown fun _ _ e => Heap.get?_push_of_some _ e
  have hst : IsRangeIter (s₁.heap.push { cls := .type "range_iterator", data := .fields #[rawInt 0, rawInt (n : Int), rawInt 1] }) s₁.heap.objs.size (0 + ((0 : Nat) : Int) * 1) ((n : Int) - ((0 : Nat) : Int)) 1 := by
    show IsRangeIter _ _ _ _ _
    simpa using Heap.get?_push_size _ rfl
  have hIlt : s₁.heap.objs.size < (s₁.heap.push { cls := .type "range_iterator", data := .fields #[rawInt 0, rawInt (n : Int), rawInt 1] }).objs.size := by rw [Heap.size_push]; exact Nat.lt_succ_self _
  generalize hI : s₁.heap.objs.size = I at *
  generalize s₁.heap.push { cls := .type "range_iterator", data := .fields #[rawInt 0, rawInt (n : Int), rawInt 1] } = H1 at *
  refine wpAny_newObj_type (wpAny_newFunctionEnv hcell (by intro y hy; simp at hy) (fun h₁ hns₁ hsb₁ => ?_) hkind)
  dsimp only at hns₁ hsb₁ ⊢
  generalize hH2 : H1.push { cls := .type "list", dict := none, data := .seq ([] : List Value).toArray } = H2 at hns₁ hsb₁ ⊢
  have hC : H2.objs.size = H1.objs.size + 1 := by rw [← hH2, Heap.size_push]
  have hDC : H1.objs.size ≠ H2.objs.size := by rw [hC]; exact Nat.ne_of_lt (Nat.lt_succ_self _)
  have below : ∀ b, b < H1.objs.size → b ≠ H2.objs.size ∧ b ≠ H1.objs.size := fun b hb => ⟨by rw [hC]; exact Nat.ne_of_lt (Nat.lt_succ_of_lt hb), Nat.ne_of_lt hb⟩
  have old : ∀ b o, H1.get? b = some o → h₁.get? b = some o := fun b o e => hsb₁.extBut b o (below b (Heap.lt_size e)).1 (Heap.get?_push_of_some _ (hH2 ▸ Heap.get?_push_of_some _ e))
  have hacc : h₁.get? H1.objs.size = some (LCg.lst []) := hsb₁.extBut _ _ hDC (Heap.get?_push_of_some _ (hH2 ▸ Heap.get?_push_size _ rfl))
  have fresh₀ : ∀ a, H1.objs.size ≤ a → h₀.get? a = none := fun a ha => by
    cases e : h₀.get? a with
    | none => rfl
    | some o' => exact absurd (Heap.lt_size (F1.keep a o' e)) (Nat.not_lt.mpr ha)
  have hD₀ : h₀.get? H1.objs.size = none := fresh₀ _ (Nat.le_refl _)
  have hC₀ : h₀.get? H2.objs.size = none := fresh₀ _ (by rw [hC]; exact Nat.le_succ _)
  have hDL : H1.objs.size ≠ L := Ne.symm (below L F1.ns.lt).2
  have hCL : H2.objs.size ≠ L := Ne.symm (below L F1.ns.lt).1
  have hCI : I ≠ H2.objs.size := (below I hIlt).1
  have hDI : I ≠ H1.objs.size := (below I hIlt).2
  have off₀ : LCg.Off3 I H2.objs.size H1.objs.size news := LCg.Off3.of fun p hp => ⟨offI p hp, (below _ (Heap.lt_size (N1 p hp).1)).1, (below _ (Heap.lt_size (N1 p hp).1)).2⟩
  generalize H1.objs.size = D at *
  generalize H2.objs.size = C at *
  have loop : ∀ s₃ : Shared, s₃ = { s₁ with heap := h₁, toks := s₁.toks + ([] : List (Str × Value)).length } →
      codeAny (model prog w) A (.compLoop (.ListComp elt [⟨.Name x px, iter, [ct], 0⟩] scope pos) 0 (.ref I) (.ref D) (compEnvC scope cl C env))
        (compPost (model prog w) A E none Q (.ref D) C) s₃ := by
    rintro s₃ rfl
    refine codeAny_compLoop_tests
      (fun k s' => ∃ g h' tk i m' m₂ news', s' = { s₁ with heap := h', toks := tk } ∧ i ≤ n ∧ k = n + 1 - i ∧ IsRangeIter h' I (0 + (i : Int) * 1) ((n : Int) - (i : Int)) 1 ∧ Fr g L h' m' ∧ h'.Ns C m₂ ∧ News g L h' ((D, LCg.lst []) :: news') ∧
        LCg.Off3 I C D news' ∧ g.get? I = none ∧ g.get? C = none ∧ J i g m' news') ?_ (n + 1)
      ⟨h₀, h₁, _, 0, m, _, news, rfl, Nat.zero_le _, rfl, W.frame _ _ _ hst fun b _ o e => old b o e, F1.keeps old, hns₁, fun p hp => ?_, off₀, hI₀, hC₀, h0⟩
    · rintro k s' ⟨g, h', tk, i, m', m₂, news', rfl, hi, rfl, hst', F', hn', N', off', gI, gC, hJ⟩
      have off3 := off'.mem
      by_cases hlt : i < n
      · refine W.item i _ _ _ hlt hst' fun v h₂ tk₂ hPv hst₂ hk₂ => ?_
        obtain ⟨tv, hv⟩ := hPv
        rw [Int.zero_add] at hv
        subst hv
        refine wpAny_assign_Name (wpAny_storeName_local (lookup_relabel_local hx) (hn'.at' fun o e => hk₂ _ o (by simpa using Ne.symm hCI) e) (fun h₃ hn₃ hs₃ => ?_) (by simp [compEnvC, relabel, hkind]))
        refine wpAny_tests_one ?_
        have hst₃ : IsRangeIter h₃ I (0 + ((i + 1 : Nat) : Int) * 1) ((n : Int) - ((i + 1 : Nat) : Int)) 1 := W.frame _ _ _ hst₂ fun b hb o e => hs₃.extBut b o (fun q => hCI (by rw [← List.mem_singleton.mp hb]; exact q)) e
        obtain ⟨oI, heI, hoI, hit⟩ : ∃ oI, h₃.get? I = some oI ∧ (∀ h' : Heap, h'.get? I = some oI → IsRangeIter h' I (0 + ((i + 1 : Nat) : Int) * 1) ((n : Int) - ((i + 1 : Nat) : Int)) 1) ∧ ItObj oI := ⟨_, hst₃, fun h' e => e, _, _, _, rfl⟩
        obtain ⟨oC, heC, hoC⟩ := LCg.ns_obj hn₃
        have F₃ : Fr g L h₃ m' := (LCg.fr_but F' hk₂ hIL gI).change hs₃ hCL gC
        have N₂ : News g L h₂ ((D, LCg.lst []) :: news') := LCg.news_but N' hk₂ fun p hp => by
          rcases List.mem_cons.mp hp with rfl | hp
          · exact Ne.symm hDI
          · exact (off3 p hp).1
        refine wpAny_mono (turn i I oI C oC D g m' news' _ h₃ _ tv _ hlt hit hJ hoC (by simp) F₃ (fun p hp => ?_) off' ⟨hCI, hDI, Ne.symm hDC⟩) (fun ok s₄ h₄ => ?_) fun _ _ e => e
        · rcases List.mem_cons.mp hp with rfl | hp
          · exact ⟨heI, Ne.symm hIL, gI⟩
          · rcases List.mem_cons.mp hp with rfl | hp
            · exact ⟨heC, hCL, gC⟩
            · have z := N₂ p hp
              refine ⟨hs₃.extBut _ _ ?_ z.1, z.2⟩
              rcases List.mem_cons.mp hp with rfl | hp
              · exact hDC
              · exact (off3 p hp).2.1
        · cases ok with
          | true => exact absurd h₄ (by simp [NoPost])
          | false =>
            simp only [NoPost, Bool.false_eq_true, if_false] at h₄ ⊢
            obtain ⟨g₂, h₅, tk₄, m₅, news₄, rfl, F₄, N₄, off₄, hJ₄⟩ := h₄
            have zI := N₄ _ (.head _)
            have zC := N₄ (C, oC) (.tail _ (.head _))
            exact ⟨n + 1 - (i + 1), by omega, g₂, h₅, tk₄, i + 1, m₅, _, news₄, rfl, hlt, rfl, hoI _ zI.1, F₄, hoC.ns zC.1, fun p hp => N₄ p (.tail _ (.tail _ hp)), off₄, zI.2.2, zC.2.2, hJ₄⟩
      · obtain rfl : i = n := Nat.le_antisymm hi (Nat.not_lt.mp hlt)
        refine W.done _ _ _ hst' fun h₂ tk₂ hk₂ => ?_
        have F₂ := LCg.fr_but F' hk₂ hIL gI
        have N₂ : News g L h₂ ((D, LCg.lst []) :: news') := LCg.news_but N' hk₂ fun p hp => by
          rcases List.mem_cons.mp hp with rfl | hp
          · exact Ne.symm hDI
          · exact (off3 p hp).1
        refine ⟨_, hn'.at' fun o e => hk₂ _ o (by simpa using Ne.symm hCI) e, fun h'' hs'' => done g m' news' D h'' tk₂ hJ (F₂.change hs'' hCL gC) (fun p hp => ?_) off'.one⟩
        refine ⟨hs''.extBut _ _ ?_ (N₂ p hp).1, (N₂ p hp).2⟩
        rcases List.mem_cons.mp hp with rfl | hp
        · exact hDC
        · exact (off3 p hp).2.1
    · rcases List.mem_cons.mp hp with rfl | hp
      · exact ⟨hacc, hDL, hD₀⟩
      · exact ⟨old _ _ (N1 p hp).1, (N1 p hp).2⟩
  exact codeAny_compStart_list (loop _ rfl) (W.self 0 _ _ _ (W.frame _ _ _ hst fun b _ o e => old b o e) (loop _ rfl))
end

theorem row110 : True := by
  w_top off
  exact trivial
/-- a for loop over a range, whose ground may turn in every turn -/
def REnd (L : Addr) (s : Shared) (I : Addr) (it : Obj) (Jn : Heap → (Str → Option Value) → List (Addr × Obj) → Prop) (s₂ : Shared) : Prop :=
  ∃ g h' tk m' news', s₂ = { s with heap := h', toks := tk } ∧ Fr g L h' m' ∧ News g L h' ((I, it) :: news') ∧ (∀ q ∈ news', q.1 ≠ I) ∧ Jn g m' news'
def RPost (L : Addr) (s : Shared) (I : Addr) (it : Obj) (Jn : Heap → (Str → Option Value) → List (Addr × Obj) → Prop) (Q : Flow → Shared → Prop) (f : Flow) (s₂ : Shared) : Prop :=
  match f with
  | .ret v => Q (.ret v) s₂
  | .brk => Q .next s₂
  | _ => REnd L s I it Jn s₂
theorem REnd.intro {L : Addr} {s : Shared} {I : Addr} {it : Obj} {Jn : Heap → (Str → Option Value) → List (Addr × Obj) → Prop} {g h' : Heap} {tk : Nat} {m' : Str → Option Value} {news' : List (Addr × Obj)}
    (F : Fr g L h' m') (N : News g L h' ((I, it) :: news')) (ho : ∀ q ∈ news', q.1 ≠ I) (hj : Jn g m' news') : REnd L s I it Jn { s with heap := h', toks := tk } := ⟨g, h', tk, m', news', rfl, F, N, ho, hj⟩
section
variable {prog : Program} {w : World} {A : Around} {E : Value → Shared → Prop} {s : Shared} {env : Env} {h₀ : Heap} {x : Str} {px : Pos} {body : List Stmt} {Q : Flow → Shared → Prop}
theorem iter_R {r : Addr} {t u v : Tok} {n : Nat} {m₀ : Str → Option Value} {news : List (Addr × Obj)} (J : Nat → Heap → (Str → Option Value) → List (Addr × Obj) → Prop)
    (hh : A.handled = none) (hE : PassesOwn (model prog w) A env E) (F : Fr h₀ env.locals s.heap m₀) (N : News h₀ env.locals s.heap news) (hr : IsRange s.heap r 0 (n : Int) 1 t u v) (hn : n ≤ 1000) (h0 : J 0 h₀ m₀ news)
    (step : ∀ I i g m' news' (it : Obj) h tk t, (∀ q ∈ news, q.1 < I) → i < n → ItObj it → J i g m' news' → Fr g env.locals h m' → News g env.locals h ((I, it) :: news') → (∀ q ∈ news', q.1 ≠ I) →
      wpAny (model prog w) A (storeName env x (.int (i : Int) t)) (fun _ s₁ => wpAny (model prog w) A (execs body env) (RPost env.locals { s with heap := h, toks := tk } I it (J (i + 1)) Q) E s₁) E { s with heap := h, toks := tk })
    (done : ∀ g m' news' h tk, J n g m' news' → Fr g env.locals h m' → News g env.locals h news' → Q .next { s with heap := h, toks := tk }) :
    wpAny (model prog w) A (pyIter (.ref r)) (fun it s₂ => LoopT prog w A env x px body Q E it s₂) E s := by
  refine wpAny_pyIter_range hr (small_one (by omega) (by omega) (by omega) (by omega)) ?_
  have hsize : Builtin.Range.rangeSize 0 (n : Int) 1 = (n : Int) := by
    have := rangeSize_nat 0 n
    simpa using this
  rw [hsize]
  have W := LCg.range_walks (prog := prog) (w := w) (I := s.heap.objs.size) hh 0 n
  have hLI : env.locals ≠ s.heap.objs.size := Nat.ne_of_lt F.ns.lt
  have hnew := next_is_new F
  have low : ∀ q ∈ news, q.1 < s.heap.objs.size := fun q hq => Heap.lt_size (N q hq).1
  have F1 := F.push { cls := .type "range_iterator", data := .fields #[rawInt 0, rawInt (n : Int), rawInt 1] }
  have N1 : News h₀ env.locals (s.heap.push { cls := .type "range_iterator", data := .fields #[rawInt 0, rawInt (n : Int), rawInt 1] }) news := N.grown fun _ _ e => Heap.get?_push_of_some _ e
  have hst : IsRangeIter (s.heap.push { cls := .type "range_iterator", data := .fields #[rawInt 0, rawInt (n : Int), rawInt 1] }) s.heap.objs.size (0 + ((0 : Nat) : Int) * 1) ((n : Int) - ((0 : Nat) : Int)) 1 := by
    show IsRangeIter _ _ _ _ _
    simpa using Heap.get?_push_size _ rfl
  generalize hI : s.heap.objs.size = I at *
  generalize s.heap.push { cls := .type "range_iterator", data := .fields #[rawInt 0, rawInt (n : Int), rawInt 1] } = H1 at *
  refine codeAny_forLoop (fun k s' => ∃ (g : Heap) (h' : Heap) (tk : Nat) (m' : Str → Option Value) (news' : List (Addr × Obj)) (i : Nat), s' = { s with heap := h', toks := tk } ∧ IsRangeIter h' I (0 + (i : Int) * 1) ((n : Int) - (i : Int)) 1 ∧ Fr g env.locals h' m' ∧ News g env.locals h' news' ∧ (∀ q ∈ news', q.1 ≠ I) ∧ g.get? I = none ∧ J i g m' news' ∧ i ≤ n ∧ k = n + 1 - i) ?_ (n + 1)
    ⟨h₀, H1, _, m₀, news, 0, rfl, hst, F1, N1, fun q hq => Nat.ne_of_lt (low q hq), hnew, h0, Nat.zero_le _, rfl⟩
  rintro k s' ⟨g, h', tk, m', news', i, rfl, hst', F', N', ho, hg, hJ, hi, rfl⟩
  have next : ∀ h₁ : Heap, (∀ b o, b ∉ [I] → h'.get? b = some o → h₁.get? b = some o) → Fr g env.locals h₁ m' ∧ News g env.locals h₁ news' := fun h₁ hk₁ =>
    ⟨LCg.fr_but F' hk₁ hLI hg, LCg.news_but N' hk₁ ho⟩
  by_cases hin : i < n
  · refine W.item i _ _ _ hin hst' fun v h₁ tk₁ hP hst₁ hk₁ => ?_
    obtain ⟨F₁, N₁⟩ := next h₁ hk₁
    obtain ⟨tv, hv⟩ := hP
    rw [Int.zero_add] at hv
    subst hv
    obtain ⟨oI, heI, hoI, hit⟩ : ∃ oI, h₁.get? I = some oI ∧ (∀ h' : Heap, h'.get? I = some oI → IsRangeIter h' I (0 + ((i + 1 : Nat) : Int) * 1) ((n : Int) - ((i + 1 : Nat) : Int)) 1) ∧ ItObj oI := ⟨_, hst₁, fun h' e => e, _, _, _, rfl⟩
    have N₂ : News g env.locals h₁ ((I, oI) :: news') := fun p hp => by
      rcases List.mem_cons.mp hp with rfl | hp
      · exact ⟨heI, Ne.symm hLI, hg⟩
      · exact N₁ p hp
    refine wpAny_assign_Name (wpAny_passesOwn hE (wpAny_mono (step I i g m' news' oI h₁ tk₁ tv low hin hit hJ F₁ N₂ ho) (fun _ s₂ h₂ => wpAny_passesOwn hE (wpAny_mono h₂ (fun f s₃ h₃ => ?_) fun _ _ e => e)) fun _ _ e => e))
    have fin : REnd env.locals { s with heap := h₁, toks := tk₁ } I oI (J (i + 1)) s₃ → ∃ m, m < n + 1 - i ∧ ∃ (g : Heap) (h' : Heap) (tk : Nat) (m' : Str → Option Value) (news' : List (Addr × Obj)) (i : Nat), s₃ = { s with heap := h', toks := tk } ∧ IsRangeIter h' I (0 + (i : Int) * 1) ((n : Int) - (i : Int)) 1 ∧ Fr g env.locals h' m' ∧ News g env.locals h' news' ∧ (∀ q ∈ news', q.1 ≠ I) ∧ g.get? I = none ∧ J i g m' news' ∧ i ≤ n ∧ m = n + 1 - i := by
      rintro ⟨g₂, h₃', tk₃, m₂, news₂, rfl, F₃, N₃, ho₃, hJ₃⟩
      have e1 := (N₃ _ (.head _))
      exact ⟨n + 1 - (i + 1), by omega, g₂, h₃', tk₃, m₂, news₂, i + 1, rfl, hoI _ e1.1, F₃, fun q hq => N₃ q (.tail _ hq), ho₃, e1.2.2, hJ₃, hin, rfl⟩
    cases f with
    | ret v => exact h₃
    | brk => exact h₃
    | next => exact fin h₃
    | cont => exact fin h₃
  · obtain rfl : i = n := Nat.le_antisymm hi (Nat.not_lt.mp hin)
    refine W.done _ _ _ hst' fun h₁ tk₁ hk₁ => wpAny_execs_nil ?_
    obtain ⟨F₁, N₁⟩ := next h₁ hk₁
    exact done g m' news' h₁ tk₁ hJ F₁ N₁
end
theorem row112 : True := by
  k_with "m RPost" => ((dsimp only [RPost]))
  exact trivial

theorem row113 : True := by
  w_top off
  exact trivial
theorem ints_cons {v : Value} {vs : List Value} {k : Int} {ks : List Int} (h : IntsAre (v :: vs) (k :: ks)) : ∃ t, v = .int k t ∧ IntsAre vs ks := by
  cases h with
  | cons _ t h => exact ⟨t, rfl, h⟩
theorem listRest_swap {prog : Program} {w : World} {A : Around} {E : Value → Shared → Prop} {Q : Flow → Shared → Prop} {s : Shared} {env : Env} {h₀ : Heap} {x : Str} {body : List Stmt} {I : Addr} {lp a b : Addr × Obj} {news : List (Addr × Obj)} (vs : List Value) {m : Str → Option Value} (h : ListRest prog w A E h₀ env x body Q s I lp vs m (b :: a :: news)) : ListRest prog w A E h₀ env x body Q s I lp vs m (a :: b :: news) :=
  listRest_sub (fun q hq => by
    rcases List.mem_cons.mp hq with rfl | hq
    · exact .tail _ (.head _)
    · rcases List.mem_cons.mp hq with rfl | hq
      · exact .head _
      · exact .tail _ (.tail _ hq)) vs h
theorem top_end (l : List (Nat × Rec)) (h : l ≠ []) : ∃ z, l[l.length - 1]? = some z ∧ z ∈ l ∧ topV (toCh l) = .ref z.2.fa := by
  cases l with
  | nil => exact absurd rfl h
  | cons p l =>
    obtain ⟨z, h1, h2⟩ := top_last p l
    exact ⟨z, by simpa using h1, List.mem_of_getElem? h1, h2⟩
theorem item_last {w : World} {A : Around} {E : Value → Shared → Prop} {s : Shared} {h₀ : Heap} {L d : Addr} {news : List (Addr × Obj)} {value slice : PySem.Expr} {vs : List Value} {n : Nat} {u : Tok} {l : List (Nat × Rec)} {z : Nat × Rec} {Q : Value → Shared → Prop}
    (N : News h₀ L s.heap news) (hm : (d, listOf vs.toArray n) ∈ news) (hi : IntsAre vs (ixs l)) (hl : l.length ≤ 1000) (hz : l[l.length - 1]? = some z) (h : ∀ t, Q (.int (z.1 : Int) t) s)
    (hs : subscripted slice false (.ref d) (.int (-1) u) = operate [.ref d, .int (-1) u] (getItem (.ref d) (.int (-1) u)) := by with_unfolding_all rfl) :
    wpAny (model PySem.Challenge.rw_on0180_01.row.prog w) A (subscriptTail value slice (.ref d) (.int (-1) u)) Q E s := by
  have hlen := ints_len hi
  rw [List.length_map] at hlen
  have hlt := (List.getElem?_eq_some_iff.mp hz).1
  obtain ⟨t, ht⟩ := ints_at hi (i := l.length - 1) (k := (z.1 : Int)) (by rw [List.getElem?_map, hz]; rfl)
  refine tail_any (IsList.ofNews N hm).typeIs slot_list_getitem.lookup (wpAny_getItem_list_neg (IsList.ofNews N hm) (by omega) (by rw [List.size_toArray]; omega) (by omega) ?_ (h t)) hs
  rw [List.size_toArray, hlen]
  have e : ((-1 : Int) + (l.length : Int)).toNat = l.length - 1 := by omega
  rw [e]
  simpa using ht
inductive WayS : Nat → Prop
  | mk (n : Nat) : WayS n
theorem ne_same_b {prog : Program} {w : World} {A : Around} {E : Value → Shared → Prop} {s : Shared} {b : Bool} {Q : Value → Shared → Prop} (h : Q (.bool false) s) : wpAny (model prog w) A (compareOp .NotEq (.bool b) (.bool b)) Q E s :=
  ne_bool (by simpa using h)
theorem ne_same_i {prog : Program} {w : World} {A : Around} {E : Value → Shared → Prop} {s : Shared} {a : Int} {t u : Tok} {Q : Value → Shared → Prop} (h : Q (.bool false) s) : wpAny (model prog w) A (compareOp .NotEq (.int a t) (.int a u)) Q E s :=
  PyProof.Rows.ne_int (by simpa using h)
/-- the ledger of the turns over the names -/
abbrev ledS (ln : Addr) (lo : Obj) (d9 : Addr) (oc : Obj) (k3 : Addr) (on : Obj) (k2 : Addr) (o2 : Obj) (k1 : Addr) (o1 : Obj) (r : Rec) (od po bdo bpo : Obj) (src FL BL : Addr) (so t1 t2 fo bo : Obj) (R : List (Addr × Obj)) : List (Addr × Obj) :=
  (ln, lo) :: (d9, oc) :: (k3, on) :: (k2, o2) :: (k1, o1) :: (r.fa, instObj 134 r.da) :: (r.da, od) :: (r.pa, po) :: (r.bd, bdo) :: (r.bp, bpo) :: led src FL BL so t1 t2 fo bo R
theorem ledS_ne {I ln d9 k3 k2 k1 src FL BL : Addr} {lo oc on on' o2 o1 od po bdo bpo so t1 t2 t2' fo bo : Obj} {r : Rec} {R R' : List (Addr × Obj)} (h : ∀ q ∈ ledS ln lo d9 oc k3 on k2 o2 k1 o1 r od po bdo bpo src FL BL so t1 t2 fo bo R, q.1 ≠ I) (hR : ∀ q ∈ R', q.1 ≠ I) :
    ∀ q ∈ ledS ln lo d9 oc k3 on' k2 o2 k1 o1 r od po bdo bpo src FL BL so t1 t2' fo bo R', q.1 ≠ I := by
  intro q hq
  simp only [ledS, led, List.mem_cons] at hq
  rcases hq with rfl | rfl | rfl | rfl | rfl | rfl | rfl | rfl | rfl | rfl | rfl | rfl | rfl | rfl | rfl | hq
  · exact h (ln, lo) (by simp [ledS])
  · exact h (d9, oc) (by simp [ledS])
  · exact h (k3, on) (by simp [ledS])
  · exact h (k2, o2) (by simp [ledS])
  · exact h (k1, o1) (by simp [ledS])
  · exact h (r.fa, instObj 134 r.da) (by simp [ledS])
  · exact h (r.da, od) (by simp [ledS])
  · exact h (r.pa, po) (by simp [ledS])
  · exact h (r.bd, bdo) (by simp [ledS])
  · exact h (r.bp, bpo) (by simp [ledS])
  · exact h (src, so) (by simp [ledS, led])
  · exact h ((187 : Addr), t1) (by simp [ledS, led])
  · exact h ((194 : Addr), t2) (by simp [ledS, led])
  · exact h (FL, fo) (by simp [ledS, led])
  · exact h (BL, bo) (by simp [ledS, led])
  · exact hR q hq
/-- iter_T, the turns changing one name of the frame besides -/
theorem iter_S {prog : Program} {w : World} {A : Around} {E : Value → Shared → Prop} {s : Shared} {env : Env} {h₀ : Heap} {x : Str} {px : Pos} {body : List Stmt} {Q : Flow → Shared → Prop} {ax : Addr} {lo : Obj} {vs : List Value} {n : Nat} {m₀ : Str → Option Value} {news : List (Addr × Obj)} (y : Str) (J : List Value → Heap → List (Addr × Obj) → Prop)
    (hh : A.handled = none) (hE : PassesOwn (model prog w) A env E) (F : Fr h₀ env.locals s.heap m₀) (N : News h₀ env.locals s.heap news) (hm : (ax, lo) ∈ news) (hc : lo.cls = .type "list") (hd : lo.data = .seq vs.toArray n) (h0 : J vs h₀ news)
    (step : ∀ I v r g u news' (it : Obj) h tk, (∀ q ∈ news, q.1 < I) → J (v :: r) g news' → (ax, lo) ∈ news' → Fr g env.locals h (fun z => if z = y then u else m₀ z) → News g env.locals h ((I, it) :: news') → (∀ q ∈ news', q.1 ≠ I) →
      wpAny (model prog w) A (storeName env x v) (fun _ s₁ => wpAny (model prog w) A (execs body env) (TPost env.locals { s with heap := h, toks := tk } I it (ax, lo) (fun g m' news' => (∃ u, ∀ z, m' z = if z = y then u else m₀ z) ∧ J r g news') Q) E s₁) E { s with heap := h, toks := tk })
    (done : ∀ g u news' h tk, J [] g news' → Fr g env.locals h (fun z => if z = y then u else m₀ z) → News g env.locals h news' → Q .next { s with heap := h, toks := tk }) :
    wpAny (model prog w) A (pyIter (.ref ax)) (fun it s₂ => LoopT prog w A env x px body Q E it s₂) E s := by
  refine iter_T (fun vs g m' news' => (∃ u, ∀ z, m' z = if z = y then u else m₀ z) ∧ J vs g news') hh hE F N hm hc hd ⟨⟨m₀ y, fun z => by by_cases e : z = y <;> simp [e]⟩, h0⟩ ?_ ?_
  · rintro I v r g m' news' it h tk low ⟨⟨u, hu⟩, hJ⟩ hmem hic F' N' ho
    exact step I v r g u news' it h tk low hJ hmem (Fr.cast F' hu) N' ho
  · rintro g m' news' h tk ⟨⟨u, hu⟩, hJ⟩ F' N'
    exact done g u news' h tk hJ (Fr.cast F' hu) N'
/-- how a turn of the holders' comprehension ends -/
def HoldYes (h₀ : Heap) (L : Addr) (m : Str → Option Value) (s : Shared) (q : Nat × Rec) (x : Str) (all : List (Addr × Obj)) (y : Value) (s'' : Shared) : Prop :=
  kdpHas q.2.own x = true ∧ ∃ h' tk' t', y = .int (q.1 : Int) t' ∧ s'' = { s with heap := h', toks := tk' } ∧ Fr h₀ L h' m ∧ News h₀ L h' all
def HoldNo (h₀ : Heap) (L : Addr) (m : Str → Option Value) (s : Shared) (q : Nat × Rec) (x : Str) (all : List (Addr × Obj)) (s' : Shared) : Prop :=
  kdpHas q.2.own x = false ∧ ∃ h' tk', s' = { s with heap := h', toks := tk' } ∧ Fr h₀ L h' m ∧ News h₀ L h' all
theorem HoldYes.intro {h₀ : Heap} {L : Addr} {m : Str → Option Value} {s : Shared} {q : Nat × Rec} {x : Str} {all l : List (Addr × Obj)} {h' : Heap} {tk' : Nat} {t' : Tok} (hk : kdpHas q.2.own x = true) (F : Fr h₀ L h' m) (N : News h₀ L h' l) (k : ∀ p ∈ all, p ∈ l) :
    HoldYes h₀ L m s q x all (.int (q.1 : Int) t') { s with heap := h', toks := tk' } := ⟨hk, h', tk', t', rfl, rfl, F, news_of N k⟩
theorem HoldNo.intro {h₀ : Heap} {L : Addr} {m : Str → Option Value} {s : Shared} {q : Nat × Rec} {x : Str} {all l : List (Addr × Obj)} {h' : Heap} {tk' : Nat} (hk : kdpHas q.2.own x = false) (F : Fr h₀ L h' m) (N : News h₀ L h' l) (k : ∀ p ∈ all, p ∈ l) :
    HoldNo h₀ L m s q x all { s with heap := h', toks := tk' } := ⟨hk, h', tk', rfl, F, news_of N k⟩
theorem canonS {h₀ h : Heap} {L : Addr} {a b c d e : Addr × Obj} {X : List (Addr × Obj)} (N : News h₀ L h (a :: b :: c :: d :: e :: X)) : News h₀ L h (a :: X) := news_of N (fun q hq => by
  rcases List.mem_cons.mp hq with rfl | hq
  · exact .head _
  · exact .tail _ (.tail _ (.tail _ (.tail _ (.tail _ hq)))))
theorem head_at {v : Value} {vs : List Value} : (List.toArray (v :: vs))[(0 : Int).toNat]? = some v := by simp
/-- the comprehension of the holders -/
theorem hold_comp {prog : Program} {w : World} {A : Around} {h₀ : Heap} {L : Addr} {m : Str → Option Value} {env : Env} {ct elt : Expr} {z : Str} {scope : Scope} {cl : List (Str × Addr)} {s : Shared} {S : List (Addr × Obj) → Prop} {Fin : List Value → List (Addr × Obj) → Prop} {news : List (Addr × Obj)} {x : Str} {l : List (Nat × Rec)} {vs : List Value} {n : Nat}
    (hv : IntsAre vs (ixs l)) (hn : n = vs.length) (hS : S news)
    (turn : ∀ q t ys I oI C oC D m₂ h tk (E' : Value → Shared → Prop), q ∈ l → LCg.NsObj oC m₂ → m₂ z = some (.int (q.1 : Int) t) → Fr h₀ L h m → News h₀ L h ((I, oI) :: (C, oC) :: (D, LCg.lst ys) :: news) →
      wpAny (model prog w) A (isTrue ct (compEnvC scope cl C env) (eval ct (compEnvC scope cl C env))) (fun b s' => if b = true then wpAny (model prog w) A (eval elt (compEnvC scope cl C env)) (HoldYes h₀ L m { s with heap := h, toks := tk } q x ((I, oI) :: (C, oC) :: (D, LCg.lst ys) :: news)) E' s'
        else HoldNo h₀ L m { s with heap := h, toks := tk } q x ((I, oI) :: (C, oC) :: (D, LCg.lst ys) :: news) s') E' { s with heap := h, toks := tk })
    (fin : ∀ ys, IntsAre ys (ixs (hldr x l)) → Fin ys news) :
    LCt.CompRestT prog w A h₀ L m env ct elt z scope cl s S (fun i v => vs.toArray[i]? = some v) Fin n 0 [] news := by
  subst hn
  have hlen := ints_len hv
  rw [List.length_map] at hlen
  refine comp_loop (fun i ys nw => nw = news ∧ IntsAre ys (ixs (hldr x (l.take i)))) ⟨rfl, .nil⟩ ?_ ?_
  · rintro i v ys nw I oI C oC D m₂ h tk E' hi hP ⟨rfl, hys⟩ hC hx F N off ne
    obtain ⟨q, hq⟩ : ∃ q, l[i]? = some q := ⟨_, List.getElem?_eq_getElem (by omega)⟩
    obtain ⟨t, ht⟩ := ints_at hv (i := i) (k := (q.1 : Int)) (by rw [List.getElem?_map, hq]; rfl)
    have hvv : v = .int (q.1 : Int) t := by
      rw [List.getElem?_toArray] at hP
      rw [hP] at ht
      exact Option.some.inj ht
    subst hvv
    have htk : l.take (i + 1) = l.take i ++ [q] := by rw [List.take_add_one, hq]; rfl
    refine wpAny_mono (turn q t ys I oI C oC D m₂ h tk E' (List.mem_of_getElem? hq) hC hx F N) (fun b s₂ hb => ?_) fun _ _ e => e
    cases b with
    | true =>
      simp only [if_true] at hb ⊢
      refine wpAny_mono hb (fun y s₃ hr => ?_) fun _ _ e => e
      obtain ⟨hk, h', tk', t', rfl, rfl, F', N'⟩ := hr
      refine ⟨h', tk', nw, rfl, F', N', off, hS, rfl, ?_⟩
      have : hldr x (l.take (i + 1)) = hldr x (l.take i) ++ [q] := by rw [htk]; simp [hldr, List.filter_append, hk]
      rw [this, ixs, List.map_append]
      exact ints_snoc hys
    | false =>
      simp only [Bool.false_eq_true, if_false] at hb ⊢
      obtain ⟨hk, h', tk', rfl, F', N'⟩ := hb
      refine ⟨h', tk', nw, rfl, F', N', off, hS, rfl, ?_⟩
      have : hldr x (l.take (i + 1)) = hldr x (l.take i) := by rw [htk]; simp [hldr, List.filter_append, hk]
      rw [this]; exact hys
  · rintro ys nw ⟨rfl, hys⟩
    rw [List.take_of_length_le (by omega)] at hys
    exact fin ys hys

theorem row114 : True := by
  w_top off
  exact trivial
/-- more rows for the invariant -/
theorem Inv.ext {w : World} {src FL BL : Addr} {so t1 t2 fo bo : Obj} {R : List (Addr × Obj)} {recs : List Rec} {X : List (Addr × Obj)} (I : Inv w src FL BL so t1 t2 fo bo R recs)
    (hX : ∀ q ∈ X, q.1 ≠ src ∧ q.1 ≠ (187 : Addr) ∧ q.1 ≠ (194 : Addr) ∧ q.1 ≠ FL ∧ q.1 ≠ BL) : Inv w src FL BL so t1 t2 fo bo (X ++ R) recs := by
  have sub : ∀ q ∈ R, q ∈ X ++ R := fun q hq => List.mem_append_right _ hq
  exact ⟨I.S, I.T1.mono sub, I.T2.mono sub, I.F, I.B, I.rs.mono sub, fun q hq => (List.mem_append.mp hq).elim (fun h => (hX q h).1) (I.R0 q), fun q hq => (List.mem_append.mp hq).elim (fun h => (hX q h).2.1) (I.R1 q),
    fun q hq => (List.mem_append.mp hq).elim (fun h => (hX q h).2.2.1) (I.R2 q), fun q hq => (List.mem_append.mp hq).elim (fun h => (hX q h).2.2.2.1) (I.R3 q), fun q hq => (List.mem_append.mp hq).elim (fun h => (hX q h).2.2.2.2) (I.R4 q), I.ne⟩
theorem dict_noIt {o : Obj} {es : List DictEntry} {ep : Nat} {d : Data} (e : o.data = d) (h : ∀ a b c : Int, d ≠ .fields #[rawInt a, rawInt b, rawInt c]) : ¬ ItObj o := by
  rintro ⟨a, b, c, rfl⟩
  exact h a b c e.symm
theorem ds_noIt {w : World} {d : Addr} {o : Obj} {c : List (Str × Int)} (D : DS w d o c) : ¬ ItObj o := by
  rintro ⟨a, b, c, rfl⟩
  exact ds_fields D _ rfl
theorem bd_noIt {w : World} {o : Obj} {bv : Value} {bp bo : Addr} (D : BD w o bv bp bo) : ¬ ItObj o := by
  rintro ⟨a, b, c, rfl⟩
  obtain ⟨es, ep, _, hh, _⟩ := D
  cases hh
theorem fd_noIt {w : World} {o : Obj} {ov : Value} {pa oa : Addr} (D : FD w o ov pa oa) : ¬ ItObj o := by
  obtain ⟨t1, t2, t3, rfl⟩ := D
  rintro ⟨a, b, c, e⟩
  injection e with _ _ e
  cases e
theorem inst_noIt {da : Addr} : ¬ ItObj (instObj 134 da) := by
  rintro ⟨a, b, c, e⟩
  injection e with e
  cases e
theorem code_noIt {o : Obj} {vs : Array Value} {q : Str} {t : Tok} (e : o.data = .fields vs) (h : vs[1]? = some (.str q t)) : ¬ ItObj o := by
  rintro ⟨a, b, c, rfl⟩
  injection e with e
  subst e
  simp [rawInt] at h
theorem TabOk.on {qual : Str} {R R' : List (Addr × Obj)} {t : Obj} (x : TabOk qual R t) (k : ∀ q ∈ R, ¬ ItObj q.2 → (∃ vs, q.2.data = .fields vs) → q ∈ R') : TabOk qual R' t := by
  obtain ⟨ps, e, tr, hc⟩ := x
  refine ⟨ps, e, tr, fun pos c h => ?_⟩
  obtain ⟨c', oc, vs, tq, e1, e2, e3, e4⟩ := hc pos c h
  exact ⟨c', oc, vs, tq, e1, k _ e2 (code_noIt e3 e4) ⟨vs, e3⟩, e3, e4⟩
theorem RecOk.on {w : World} {R R' : List (Addr × Obj)} {r : Rec} (x : RecOk w R r) (k : ∀ q ∈ R, ¬ ItObj q.2 → q ∈ R') : RecOk w R' r := by
  obtain ⟨⟨f1, od, f2, f3⟩, ⟨po, p1, p2⟩, ⟨oo, o1, o2⟩, ⟨bdo, bv, b1, b2, b3⟩, ⟨bpo, c1, c2⟩, ⟨boo, d1, d2⟩⟩ := x
  exact ⟨⟨k _ f1 inst_noIt, od, k _ f2 (fd_noIt f3), f3⟩, ⟨po, k _ p1 (ds_noIt p2), p2⟩, ⟨oo, k _ o1 (ds_noIt o2), o2⟩, ⟨bdo, bv, k _ b1 (bd_noIt b2), b2, b3⟩, ⟨bpo, k _ c1 (ds_noIt c2), c2⟩, ⟨boo, k _ d1 (ds_noIt d2), d2⟩⟩
theorem Recs.on {w : World} {R R' : List (Addr × Obj)} {recs : List Rec} (x : Recs w R recs) (k : ∀ q ∈ R, ¬ ItObj q.2 → q ∈ R') : Recs w R' recs := ⟨fun i r h => (x.ok i r h).on k, x.lnk, x.sep, x.dst⟩
/-- the rows without one place -/
abbrev wo (I : Addr) (R : List (Addr × Obj)) : List (Addr × Obj) := R.filter fun q => decide (q.1 ≠ I)
theorem wo_mem {I : Addr} {R : List (Addr × Obj)} {q : Addr × Obj} : q ∈ wo I R ↔ q ∈ R ∧ q.1 ≠ I := by simp [wo]
/-- an iterator's row may go -/
theorem Inv.drop {w : World} {src FL BL I : Addr} {it so t1 t2 fo bo : Obj} {R news : List (Addr × Obj)} {recs : List Rec} {h₀ h : Heap} {L : Addr} (V : Inv w src FL BL so t1 t2 fo bo R recs) (N : News h₀ L h news) (hR : ∀ q ∈ R, q ∈ news) (hI : (I, it) ∈ news) (hit : ItObj it) :
    Inv w src FL BL so t1 t2 fo bo (wo I R) recs := by
  have keep : ∀ q ∈ R, ¬ ItObj q.2 → q ∈ wo I R := fun q hq hn => wo_mem.mpr ⟨hq, fun e => by
    have e1 := (N _ (hR _ hq)).1
    have e2 := (N _ hI).1
    rw [e] at e1
    rw [e1] at e2
    exact hn (Option.some.inj e2 ▸ hit)⟩
  have sub : ∀ q ∈ wo I R, q ∈ R := fun q hq => (wo_mem.mp hq).1
  exact ⟨V.S, V.T1.on (fun q hq hn _ => keep q hq hn), V.T2.on (fun q hq hn _ => keep q hq hn), V.F, V.B, V.rs.on keep, fun q hq => V.R0 q (sub q hq), fun q hq => V.R1 q (sub q hq), fun q hq => V.R2 q (sub q hq), fun q hq => V.R3 q (sub q hq), fun q hq => V.R4 q (sub q hq), V.ne⟩

theorem row115 : True := by
  w_top off
  exact trivial
theorem fmodP (a b : Int) (h : 0 < b) : 0 ≤ a.fmod b ∧ a.fmod b < b := (fdiv_fmod_facts a b).2.2.1 h
/-- a for over a range that changes one int of the frame -/
theorem iter_P {prog : Program} {w : World} {A : Around} {E : Value → Shared → Prop} {s : Shared} {env : Env} {h₀ : Heap} {x : Str} {px : Pos} {body : List Stmt} {Q : Flow → Shared → Prop} {r : Addr} {t u v : Tok} {n : Nat} {m₀ : Str → Option Value} {news : List (Addr × Obj)} {v₀ : Value} (y : Str) (J : Value → Prop)
    (hh : A.handled = none) (hE : PassesOwn (model prog w) A env E) (F : Fr h₀ env.locals s.heap m₀) (N : News h₀ env.locals s.heap news) {b : Int} (hr : IsRange s.heap r 0 b 1 t u v) (hb : b = (n : Int)) (hn : n ≤ 1000) (hy : m₀ y = some v₀) (h0 : J v₀)
    (step : ∀ I i u v (it : Obj) h tk t, (∀ q ∈ news, q.1 < I) → i < n → J v → Fr h₀ env.locals h (fun z => if z = x then u else if z = y then some v else m₀ z) → News h₀ env.locals h ((I, it) :: news) →
      wpAny (model prog w) A (storeName env x (.int (i : Int) t)) (fun _ s₁ => wpAny (model prog w) A (execs body env) (RPost env.locals { s with heap := h, toks := tk } I it (fun g m' news' => g = h₀ ∧ news' = news ∧ ∃ u v, (∀ z, m' z = if z = x then u else if z = y then some v else m₀ z) ∧ J v) Q) E s₁) E { s with heap := h, toks := tk })
    (done : ∀ u v h tk, J v → Fr h₀ env.locals h (fun z => if z = x then u else if z = y then some v else m₀ z) → News h₀ env.locals h news → Q .next { s with heap := h, toks := tk }) :
    wpAny (model prog w) A (pyIter (.ref r)) (fun it s₂ => LoopT prog w A env x px body Q E it s₂) E s := by
  subst hb
  refine iter_R (fun _ g m' news' => g = h₀ ∧ news' = news ∧ ∃ u v, (∀ z, m' z = if z = x then u else if z = y then some v else m₀ z) ∧ J v) hh hE F N hr hn ⟨rfl, rfl, m₀ x, v₀, fun z => ?_, h0⟩ ?_ ?_
  · by_cases e : z = x
    · simp [e]
    · by_cases e2 : z = y
      · rw [if_neg e, if_pos e2, e2, hy]
      · rw [if_neg e, if_neg e2]
  · rintro I i g m' news' it h tk t low hi - ⟨hg, hn', u, v, hu, hJ⟩ F' N' ho
    subst hg hn'
    exact step I i u v it h tk t low hi hJ (Fr.cast F' hu) N'
  · rintro g m' news' h tk ⟨hg, hn', u, v, hu, hJ⟩ F' N'
    subst hg hn'
    exact done u v h tk hJ (Fr.cast F' hu) N'
/-- a for over a range whose ground may turn, the frame changed by its own name alone -/
theorem iter_L {prog : Program} {w : World} {A : Around} {E : Value → Shared → Prop} {s : Shared} {env : Env} {h₀ : Heap} {x : Str} {px : Pos} {body : List Stmt} {Q : Flow → Shared → Prop} {r : Addr} {t u v : Tok} {n : Nat} {m₀ : Str → Option Value} {news : List (Addr × Obj)} (J : Nat → Heap → List (Addr × Obj) → Prop)
    (hh : A.handled = none) (hE : PassesOwn (model prog w) A env E) (F : Fr h₀ env.locals s.heap m₀) (N : News h₀ env.locals s.heap news) {b : Int} (hr : IsRange s.heap r 0 b 1 t u v) (hb : b = (n : Int)) (hn : n ≤ 1000) (h0 : J 0 h₀ news)
    (step : ∀ I i g u news' (it : Obj) h tk t, (∀ q ∈ news, q.1 < I) → i < n → ItObj it → J i g news' → Fr g env.locals h (fun z => if z = x then u else m₀ z) → News g env.locals h ((I, it) :: news') → (∀ q ∈ news', q.1 ≠ I) →
      wpAny (model prog w) A (storeName env x (.int (i : Int) t)) (fun _ s₁ => wpAny (model prog w) A (execs body env) (RPost env.locals { s with heap := h, toks := tk } I it (fun g m' news' => (∃ u, ∀ z, m' z = if z = x then u else m₀ z) ∧ J (i + 1) g news') Q) E s₁) E { s with heap := h, toks := tk })
    (done : ∀ g u news' h tk, J n g news' → Fr g env.locals h (fun z => if z = x then u else m₀ z) → News g env.locals h news' → Q .next { s with heap := h, toks := tk }) :
    wpAny (model prog w) A (pyIter (.ref r)) (fun it s₂ => LoopT prog w A env x px body Q E it s₂) E s := by
  subst hb
  refine iter_R (fun i g m' news' => (∃ u, ∀ z, m' z = if z = x then u else m₀ z) ∧ J i g news') hh hE F N hr hn ⟨⟨m₀ x, fun z => by by_cases e : z = x <;> simp [e]⟩, h0⟩ ?_ ?_
  · rintro I i g m' news' it h tk t low hi hit ⟨⟨u, hu⟩, hJ⟩ F' N' ho
    exact step I i g u news' it h tk t low hi hit hJ (Fr.cast F' hu) N' ho
  · rintro g m' news' h tk ⟨⟨u, hu⟩, hJ⟩ F' N'
    exact done g u news' h tk hJ (Fr.cast F' hu) N'
theorem mix_agree {x y : Str} (h : x ≠ y) {v v' : Value} {u u' : Option Value} {m₀ : Str → Option Value} : ∀ z, (if z = y then some v else if z = x then u else if z = x then u' else if z = y then some v' else m₀ z) = if z = x then u else if z = y then some v else m₀ z := fun z => by
  by_cases e1 : z = x
  · subst e1; simp [h, Ne.symm h]
  · by_cases e2 : z = y
    · subst e2; simp [e1]
    · simp [e1, e2]
/-- two ways through a statement that set one int of the frame -/
def IntEnd (g : Heap) (L : Addr) (m : Str → Option Value) (news : List (Addr × Obj)) (y : Str) (J : Int → Prop) (gs : Array GenState) (dr : Drawn) (os : OsState) (f : Flow) (s' : Shared) : Prop :=
  f = .next ∧ ∃ h tk m' i t, s' = ⟨h, gs, dr, tk, os⟩ ∧ Fr g L h m' ∧ (∀ z, m' z = if z = y then some (.int i t) else m z) ∧ News g L h news ∧ J i
theorem IntEnd.set {g h : Heap} {L : Addr} {m : Str → Option Value} {news : List (Addr × Obj)} {y : Str} {J : Int → Prop} {gs : Array GenState} {dr : Drawn} {os : OsState} {tk : Nat} {i : Int} {t : Tok}
    (F : Fr g L h (fun z => if z = y then some (.int i t) else m z)) (N : News g L h news) (j : J i) : IntEnd g L m news y J gs dr os .next ⟨h, gs, dr, tk, os⟩ := ⟨rfl, h, tk, _, i, t, rfl, F, fun _ => rfl, N, j⟩
theorem IntEnd.same {g h : Heap} {L : Addr} {m : Str → Option Value} {news : List (Addr × Obj)} {y : Str} {J : Int → Prop} {gs : Array GenState} {dr : Drawn} {os : OsState} {tk : Nat} {i : Int} {t : Tok}
    (F : Fr g L h m) (hm : m y = some (.int i t)) (N : News g L h news) (j : J i) : IntEnd g L m news y J gs dr os .next ⟨h, gs, dr, tk, os⟩ :=
  ⟨rfl, h, tk, m, i, t, rfl, F, fun z => by by_cases e : z = y <;> simp [e, hm], N, j⟩
theorem join_int {M : Model} {A : Around} {st : Stmt} {env : Env} {Q : Flow → Shared → Prop} {E : Value → Shared → Prop} {g hp : Heap} {L : Addr} {m : Str → Option Value} {news : List (Addr × Obj)} {gs : Array GenState} {dr : Drawn} {os : OsState} {tk : Nat} (y : Str) (J : Int → Prop) (F : Fr g L hp m) (N : News g L hp news)
    (h1 : wpAny M A (exec st env) (IntEnd g L m news y J gs dr os) E ⟨hp, gs, dr, tk, os⟩)
    (h2 : ∀ h tk i t, J i → Fr g L h (fun z => if z = y then some (.int i t) else m z) → News g L h news → Q .next ⟨h, gs, dr, tk, os⟩) : wpAny M A (exec st env) Q E ⟨hp, gs, dr, tk, os⟩ := by
  refine wpAny_mono h1 (fun f s' hm => ?_) fun _ _ e => e
  obtain ⟨rfl, h, tk, m', i, t, rfl, F', hm', N', j⟩ := hm
  exact h2 h tk i t j (Fr.cast F' hm') N'
section
theorem row117 : True := by
  k_with "m exec For Name Call cons nil" => ((fail_if_success (k_extra "off s116")); (((with_reducible show wpAny _ _ (exec (Stmt.For (PySem.Expr.Name "k" _) _ _ _ _) _) _ _ _); k_dflt (refine For_T ?_))))
  k_with "m pyIter ref" => ((fail_if_success (k_extra "off s116")); (((with_reducible show wpAny _ _ (pyIter (Value.ref _)) (fun it s₂ => LoopT _ _ _ _ _ _ _ _ _ it s₂) _ _); refine Stay.out ?_)))
  k_with "m pool step" => ((fail_if_success (k_extra "off s116")); ((intro I i8 u8 v8 it8 h8 tk8 t8 low8 hi8 hJ8 F8 N8; (obtain ⟨mx, tm, e8, hm1, hm2⟩ := hJ8); subst e8; (have hi9 : i8 < ns.length := by omega); k_steps; refine REnd.intro (by k_asm) (by k_asm) (fun q hq => Nat.ne_of_lt (low8 q hq)) ⟨rfl, rfl, _, _, mix_agree (x := "k") (y := "mixed") (by decide), _, _, rfl, (fmodP _ _ (by decide)).1, (fmodP _ _ (by decide)).2⟩)))
  k_with "m pool done" => ((fail_if_success (k_extra "off s116")); ((intro u8 v8 h8 tk8 hJ8 F8 N8; (obtain ⟨mx, tm, e8, hm1, hm2⟩ := hJ8); subst e8; k_steps; all_goals (refine hret _ _ _ _ (by assumption) (by assumption) ⟨_, _, _, _, _, rfl, by omega, hm1, hm2⟩ (by first | assumption | exact allLt_mem (by k_extra "m mine all"))))))
  k_with "m exec If" => ((fail_if_success (k_extra "off s116")); (((fail_if_success (rename Passed 1 => hp9)); refine Stay.out ?_)))
  exact trivial
theorem pool_spec {w : World} {dp un : Nat} {gd : Option (List Code)} {cn : Str} {cs : Scope} {a : Addr} {ccd : Value} {cl : List (Str × Addr)} {outer : List Env} {A₀ : Around} {base h₀ : Heap} {L : Addr} {m mg mb : Str → Option Value}
  {p : Program} {loose : List Str} {mean : ExcName → Option Value} {news : List (Addr × Obj)} {s : Shared} {Q E : Value → Shared → Prop} {sp : Addr} {vs : List Value} {ns : List Int}
  (B : Below A₀ base outer h₀) (F : Fr h₀ L s.heap m) (X : (hd.heap_39 w.params).In h₀) (N : News h₀ L s.heap news) (T : Top p loose mean mg mb h₀) (hk : cs.kind = .function) (hdp : dp + 110 < recursionLimit) (hun : un + 1100 < cLine)
  (hl : h₀.IsList sp vs.toArray) (hi : IntsAre vs ns) (hn : ns.length ≤ 63)
  (hret : ∀ d o h' tk', Fr h₀ L h' m → News h₀ L h' ((d, o) :: news) → Src o → (∀ q ∈ news, q.1 < d) → Q (.ref d) { s with heap := h', toks := tk' }) :
  wpAny (model PySem.Challenge.rw_on0180_01.row.prog w) (ktrTop dp un gd cn cs L a ccd cl outer) (call (.ref 145) [.ref sp]) Q E s := by
  have hlen := hi.length
  k_extra "m mine in"
  refine wpAny_call ?_
  k_dflt ktr_enter
  rename (Fr h₀ L _ m) => FG
  have hl' := (show Heap.IsList _ sp vs.toArray from let ⟨o, e, r⟩ := hl; ⟨o, FG.keep _ _ e, r⟩)
  k_steps
  refine Stay.mk ?_
  refine join_int "cell" (fun _ => True) (by assumption) (by assumption) ?_ ?_
  · have hp9 : Passed 1 := trivial
    k_steps
    all_goals first | exact IntEnd.set (by assumption) (by assumption) trivial | exact IntEnd.same (by assumption) rfl (by assumption) trivial
  intro h8 tk8 i8 t8 _ F8 N8
  k_steps
  refine Stay.mk ?_
  refine join_int "big" (fun i => 0 ≤ i) (by assumption) (by assumption) ?_ ?_
  · have hp9 : Passed 1 := trivial
    k_steps
    all_goals first | exact IntEnd.set (by assumption) (by assumption) (by omega) | exact IntEnd.same (by assumption) rfl (by assumption) (by omega)
  intro h7 tk7 i7 t7 hb7 F7 N7
  have hp9 : Passed 1 := trivial
  k_steps
  refine Stay.mk ?_
  refine iter_P "mixed" (fun v => ∃ (mx : Int) (t : Tok), v = .int mx t ∧ 0 ≤ mx ∧ mx < 2147483647) rfl (by passes_own) (by assumption) (by assumption) (by assumption) (n := min ns.length 40) (by (try simp only [List.length_nil] at *); split <;> omega) (by omega) rfl ⟨_, _, rfl, (fmodP _ _ (by decide)).1, Int.lt_trans (fmodP _ _ (by decide)).2 (by decide)⟩ ?_ ?_
  · k_extra "m pool step"
  · k_extra "m pool done"
end
theorem row118 : True := by
  k_with "off s116" => skip
  exact trivial

theorem row119 : True := by
  w_top off
  exact trivial
section
theorem row121 : True := by
  k_with "m subscriptTail" => ((fail_if_success (k_extra "off s120")); (((with_reducible show wpAny _ _ (subscriptTail _ _ (Value.ref _) (Value.str _ _)) _ _ _); k_dflt (refine kba_turn (value' := PySem.Expr.Name (PySem.Str.ofString "_") ⟨0, 0, 0, 0⟩) (fun _ => rfl) ?_); k_extra "m mine key"; (try dsimp only))))
  k_with "m subscriptTail" => ((fail_if_success (k_extra "off s120")); (((k_here; (with_reducible show wpAny _ _ (subscriptTail _ _ (Value.ref _) (Value.int _ _)) _ _ _); k_dflt (first | (refine' item_rec (recs := recs) (f := fun r => r.fa) ?y1q29317 ?y2q29317 hA ?y3q29317 ?y4q29317 ?y5q29317 ?_ ?y6q29317; (case y1q29317 => k_asm); (case y2q29317 => k_mem); (case y3q29317 => omega); (case y4q29317 => omega); (case y5q29317 => with_reducible assumption); (case y6q29317 => with_unfolding_all rfl)) | (refine' item_rec (recs := recs) (f := fun r => r.bd) ?y1q29317 ?y2q29317 hA2 ?y3q29317 ?y4q29317 ?y5q29317 ?_ ?y6q29317; (case y1q29317 => k_asm); (case y2q29317 => k_mem); (case y3q29317 => omega); (case y4q29317 => omega); (case y5q29317 => with_reducible assumption); (case y6q29317 => with_unfolding_all rfl))); (try dsimp only)))))
  k_with "m subscriptTail Name Name ref int" => ((fail_if_success (k_extra "off s120")); (((k_here; (with_reducible show wpAny _ _ (subscriptTail _ _ (Value.ref _) (Value.int _ _)) _ _ _); k_dflt (first | (refine' item_rec (recs := recs) (f := fun r => r.fa) ?y1q32298 ?y2q32298 hA ?y3q32298 ?y4q32298 ?y5q32298 ?_ ?y6q32298; (case y1q32298 => k_asm); (case y2q32298 => k_mem); (case y3q32298 => omega); (case y4q32298 => omega); (case y5q32298 => with_reducible assumption); (case y6q32298 => with_unfolding_all rfl)) | (refine' item_rec (recs := recs) (f := fun r => r.bd) ?y1q32298 ?y2q32298 hA2 ?y3q32298 ?y4q32298 ?y5q32298 ?_ ?y6q32298; (case y1q32298 => k_asm); (case y2q32298 => k_mem); (case y3q32298 => omega); (case y4q32298 => omega); (case y5q32298 => with_reducible assumption); (case y6q32298 => with_unfolding_all rfl))); (try dsimp only)))))
  k_with "m subscriptTail Name UnaryOp ref int" => ((fail_if_success (k_extra "off s120")); ((k_here; (with_reducible show wpAny _ _ (subscriptTail _ _ (Value.ref _) (Value.int _ _)) _ _ _); k_dflt (refine' item_last ?y1q72943 ?y2q72943 ?y3q72943 ?y4q72943 ?y5q72943 ?_ ?y6q72943; (case y1q72943 => k_asm); (case y2q72943 => k_mem); (case y3q72943 => with_reducible assumption); (case y4q72943 => omega); (case y5q72943 => with_reducible assumption); (case y6q72943 => with_unfolding_all rfl); k_whole); intro t9)))
  k_with "m call ref" => ((fail_if_success (k_extra "off s120")); ((k_here; (with_reducible show wpAny _ _ (call (Value.ref 124) [Value.ref _]) _ _ _); k_dflt (refine' outermost_spec ?Bq34783 ?Fq34783 ?Xq34783 ?Nq34783 ?Tq34783 rfl ?hdq34783 ?huq34783 ?hCq34783 ?_; (case Bq34783 => k_asm); (case Fq34783 => k_asm); (case Xq34783 => k_asm); (case Nq34783 => k_asm); (case Tq34783 => k_asm); (case hCq34783 => k_extra "m mine chain"); (case hdq34783 => (k_extra "m mine room")); (case huq34783 => (k_extra "m mine room")); k_whole); (try dsimp only); intro h9 tk9 F9 N9; rw [htop])))
  k_with "m call ref" => ((fail_if_success (k_extra "off s120")); ((k_here; (with_reducible show wpAny _ _ (call (Value.ref 173) [Value.ref _, Value.int _ _]) _ _ _); k_dflt (refine chain_spec (by k_asm) (by k_asm) (by k_asm) (by k_asm) (by k_asm) rfl (by (k_extra "m mine room")) (by (k_extra "m mine room")) (by k_mem) hA2 rs (by k_extra "m mine sub") hp (by omega) (by omega) ?_; k_whole); intro dC vsC nC h9 tk9 F9 N9 IC l9; (have LC := l9); k_lt l9)))
  k_with "m subscriptTail Name Slice ref ref" => ((fail_if_success (k_extra "off s120")); ((k_here; (with_reducible show wpAny _ _ (subscriptTail _ (PySem.Expr.Slice none none (some _) _) (Value.ref _) (Value.ref _)) _ _ _); k_dflt (refine' krv_lit ?Fq93645 ?Nq93645 ?lq93645 ?kq93645 ?eq93645 ?_ ?sq93645 ?tq93645 ?zq93645; (case Fq93645 => k_asm); (case Nq93645 => k_asm); (case lq93645 => exact IsList.ofNews (by k_asm) (by k_mem)); (case kq93645 => exact IsPart.int _ _); (case eq93645 => exact rfl); (case sq93645 => with_unfolding_all rfl); (case tq93645 => kmk_pure); (case zq93645 => assumption)); intro D' h' F' N' l1; (have L9 := l1); (try k_lt l1))))
  k_with "m exec For" => ((fail_if_success (k_extra "off s120")); ((k_here; (with_reducible show wpAny _ _ (exec (Stmt.For (PySem.Expr.Name "number" _) _ _ _ _) _) _ _ _); (rename Fr _ _ _ _ => lF'); (with_unfolding_all refine' For_invVF lF' ?k1q88561 ?k2q88561 ?_; (case k1q88561 => exact rfl); (case k2q88561 => exact rfl); k_whole))))
  k_with "m compareOp NotEq ref ref" => ((fail_if_success (k_extra "off s120")); ((k_here; (with_reducible show wpAny _ _ (compareOp _ (Value.ref _) (Value.ref _)) _ _ _); k_dflt (first | ((rename WayS 5 => hp7); refine' ds_ne ?y1q21835 ?y2q21835 ?y3q21835 ?y4q21835 ?y5q21835 rfl ?y6q21835 ?_; (case y1q21835 => k_asm); (case y2q21835 => k_mem); (case y3q21835 => k_mem); (case y4q21835 => k_extra "m mine ds"); (case y5q21835 => k_extra "m mine ds"); (case y6q21835 => k_extra "m mine room"); k_whole) | (refine' ints_ne_nil ?y1q21835 ?y2q21835 ?y3q21835 ?y4q21835 ?y5q21835 rfl ?_; (case y1q21835 => k_asm); (case y2q21835 => k_mem); (case y3q21835 => k_mem); (case y4q21835 => with_reducible assumption); (case y5q21835 => k_extra "m mine room"); (try dsimp only [List.isEmpty_nil, List.isEmpty_cons, Bool.not_true, Bool.not_false]); k_whole)))))
  k_with "m compareOp Eq ref ref" => ((fail_if_success (k_extra "off s120")); ((k_here; (with_reducible show wpAny _ _ (compareOp _ (Value.ref _) (Value.ref _)) _ _ _); k_dflt (refine' ints_eq_nil ?y1q54242 ?y2q54242 ?y3q54242 ?y4q54242 ?y5q54242 rfl ?_; (case y1q54242 => k_asm); (case y2q54242 => k_mem); (case y3q54242 => k_mem); (case y4q54242 => with_reducible assumption); (case y5q54242 => k_extra "m mine room"); (try dsimp only [List.isEmpty_nil, List.isEmpty_cons, Bool.not_true, Bool.not_false]); k_whole))))
  k_with "m compareOp NotEq int int" => ((fail_if_success (k_extra "off s120")); ((with_reducible refine ne_same_i ?_)))
  k_with "m compareOp NotEq bool bool" => ((fail_if_success (k_extra "off s120")); ((with_reducible refine ne_same_b ?_)))
  k_with "m subscriptTail Name Constant ref int" => ((fail_if_success (k_extra "off s120")); ((k_here; (with_reducible show wpAny _ _ (subscriptTail _ _ (Value.ref _) (Value.int _ _)) _ _ _); k_dflt (refine' item_at ?y1q95162 ?y2q95162 ?y3q95162 ?y4q95162 head_at ?_ ?y5q95162; (case y1q95162 => k_asm); (case y2q95162 => k_mem); (case y3q95162 => decide); (case y4q95162 => decide); (case y5q95162 => with_unfolding_all rfl); k_whole))))
  k_with "m call ref" => ((fail_if_success (k_extra "off s120")); ((k_here; (with_reducible show wpAny _ _ (call (Value.ref 96) [Value.ref _, Value.str _ _]) _ _ _); k_dflt (refine' holder_spec ?Bq97660 ?Fq97660 ?Xq97660 ?Nq97660 ?Tq97660 rfl ?hdq97660 ?huq97660 ?hCq97660 ?_; (case Bq97660 => k_asm); (case Fq97660 => k_asm); (case Xq97660 => k_asm); (case Nq97660 => k_asm); (case Tq97660 => k_asm); (case hCq97660 => k_extra "m mine chain"); (case hdq97660 => (k_extra "m mine room")); (case huq97660 => (k_extra "m mine room")); k_whole); (try dsimp only); intro h9 tk9 F9 N9; rw [he])))
  k_with "m call ref" => ((fail_if_success (k_extra "off s120")); ((k_here; (with_reducible show wpAny _ _ (call (Value.ref 103) [Value.ref _, Value.str _ _]) _ _ _); k_dflt (refine' isbound_spec ?Bq1947 ?Fq1947 ?Xq1947 ?Nq1947 ?Tq1947 rfl ?hdq1947 ?huq1947 ?hCq1947 ?_; (case Bq1947 => k_asm); (case Fq1947 => k_asm); (case Xq1947 => k_asm); (case Nq1947 => k_asm); (case Tq1947 => k_asm); (case hCq1947 => k_extra "m mine chain"); (case hdq1947 => (k_extra "m mine room")); (case huq1947 => (k_extra "m mine room")); k_whole); (try dsimp only); intro h9 tk9 F9 N9; rw [hb])))
  k_with "m call ref" => ((fail_if_success (k_extra "off s120")); ((k_here; (with_reducible show wpAny _ _ (call (Value.ref 110) [Value.ref _, Value.str _ _]) _ _ _); k_dflt (refine' value_spec ?Bq86139 ?Fq86139 ?Xq86139 ?Nq86139 ?Tq86139 rfl ?hdq86139 ?huq86139 ?hCq86139 hb ?_; (case Bq86139 => k_asm); (case Fq86139 => k_asm); (case Xq86139 => k_asm); (case Nq86139 => k_asm); (case Tq86139 => k_asm); (case hCq86139 => k_extra "m mine chain"); (case hdq86139 => (k_extra "m mine room")); (case huq86139 => (k_extra "m mine room")); k_whole); (try dsimp only); intro t9 h9 tk9 F9 N9; rw [hval])))
  k_with "m eval Lambda" => ((fail_if_success (k_extra "off s120")); ((k_here; (with_reducible show wpAny _ _ (eval (PySem.Expr.Lambda _ _ _ _) _) _ _ _); k_dflt (refine' lam_make [src, 187, 194, FL, BL, I, L₁ + 1 + 1 + 1] ?c1q36635 ?c2q36635 ?c3q36635 ?c4q36635 rfl ?c5q36635 tab2 ?c6q36635 z2 ?c7q36635 ?c8q36635 ?c9q36635 ?c10q36635 ?_; (case c1q36635 => k_asm); (case c2q36635 => k_asm); (case c3q36635 => k_asm); (case c4q36635 => exact (hC.keeps (Below.stays (by assumption)))); (case c5q36635 => k_updF); (case c6q36635 => k_extra "m mine sub"); (case c7q36635 => repeat (first | exact hds_nil | refine hds_cons (by k_mem) (by assumption) ?_)); (case c8q36635 => rfl); (case c9q36635 => rfl); (case c10q36635 => rfl); k_whole); (try dsimp only); intro fl9 cl9 oc9 vs8 t9 pm9 ctv9 ot9 h9 tk9 F9 N9 dd9 dv9 TT9 lf9 an9; k_lt lf9; (simp only [AllNe, and_true] at an9); (obtain ⟨an1, an2, an3, an4, an5, an6, an7⟩ := an9))))
  k_with "m call ref" => ((fail_if_success (k_extra "off s120")); ((k_here; (with_reducible show wpAny _ _ (call (Value.ref 185) [Value.ref _]) _ _ _); k_dflt (refine' refused_spec ?y1q1138 ?y2q1138 ?y3q1138 ?y4q1138 ?y5q1138 rfl ?y6q1138 ?y7q1138 ?y8q1138 ?y9q1138 ?y10q1138 ?y11q1138 ?y12q1138 ?_; (case y1q1138 => k_asm); (case y2q1138 => k_asm); (case y3q1138 => k_asm); (case y4q1138 => k_asm); (case y5q1138 => k_asm); (case y6q1138 => (k_extra "m mine room")); (case y7q1138 => (k_extra "m mine room")); (case y8q1138 => assumption); (case y9q1138 => assumption); (case y10q1138 => assumption); (case y11q1138 => k_mem); (case y12q1138 => exact lam_value_fail (by k_mem) (by k_mem) dd9 dv9 (by k_mem) (by assumption) (by k_mem) (by assumption) (by k_extra "m mine chain") hb hx); k_whole); intro g9 h9 tk9 KT9 F9 N9; (obtain ⟨KT, KB, KX, KP, KD⟩ := KT9))))
  k_with "m compareOp IsNot ref ref" => ((fail_if_success (k_extra "off s120")); ((k_here; k_dflt (refine wpAny_isNot_ref_self ?_))))
  k_with "m callWith ref" => ((fail_if_success (k_extra "off s120")); ((k_here; (with_reducible show wpAny _ _ (callWith _ (Value.ref _) [] (backTo _ (starEach [] _)) []) _ _ _); k_dflt (refine callWith_F0 (FnAt.of (by k_asm) (by k_mem)) ?_; k_whole; try dsimp only [List.nil_append, List.cons_append]))))
  k_with "m CompSrcT" => ((fail_if_success (k_extra "off s120")); ((refine Stay.out ?_)))
  k_with "m exec For" => ((fail_if_success (k_extra "off s120")); ((k_here; (with_reducible show wpAny _ _ (exec (Stmt.For (PySem.Expr.Name "name" _) _ _ _ _) _) _ _ _); refine For_T ?_)))
  k_with "m pyIter ref" => ((fail_if_success (k_extra "off s120")); (((with_reducible show wpAny _ _ (pyIter (Value.ref _)) (fun it s₂ => LoopAtV _ _ _ _ _ _ _ _ _ it s₂) _ _); k_dflt (refine' iter_listUnr ?hhq49996 ?Fq49996 ?Nq49996 ?hmq49996 ?hcq49996 ?hdq49996 (Stay.out ?rest); (case hhq49996 => exact rfl); (case Fq49996 => k_asm); (case Nq49996 => k_asm); (case hmq49996 => k_mem); (case hcq49996 => exact rfl); (case hdq49996 => exact rfl)))))
  k_with "m pyIter ref" => ((fail_if_success (k_extra "off s120")); (((with_reducible show wpAny _ _ (pyIter (Value.ref _)) (fun it s₂ => LoopT _ _ _ _ _ _ _ _ _ it s₂) _ _); refine Stay.out ?_)))
  exact trivial
set_option maxHeartbeats 40000000 in
theorem stands_spec {w : World} {dp un : Nat} {gd : Option (List Code)} {cn : Str} {cs : Scope} {a : Addr} {ccd : Value} {cl : List (Str × Addr)} {outer : List Env} {A₀ : Around} {base h₀ : Heap} {L : Addr} {m mg mb : Str → Option Value}
  {p : Program} {loose : List Str} {mean : ExcName → Option Value} {s : Shared} {Q E : Value → Shared → Prop} {src FL BL : Addr} {so t1 t2 fo bo : Obj} {R : List (Addr × Obj)} {recs : List Rec} {i : Nat} {t : Tok} {r : Rec}
  (B : Below A₀ base outer h₀) (F : Fr h₀ L s.heap m) (X : (hd.heap_39 w.params).In h₀) (N : News h₀ L s.heap (led src FL BL so t1 t2 fo bo R)) (T : Top p loose mean mg mb h₀) (hk : cs.kind = .function) (hdp : dp + 180 < recursionLimit) (hun : un + 1800 < cLine)
  (XB : (hd.heap_39 w.params).In base) (TB : Top p loose mean mg mb base) (D : KtsDicts (outer.filterMap (·.frame)) h₀) (hC : CodeHd base 196 194) (I : Inv w src FL BL so t1 t2 fo bo R recs)
  (hi : recs[i]? = some r) (h6l : recs.length ≤ 6)
  (hret : ∀ h₀' t2' R' h' tk', Turned w A₀ base outer p loose mean mg mb h₀ h₀' → Fr h₀' L h' m → News h₀' L h' (led src FL BL so t1 t2' fo bo R') → Inv w src FL BL so t1 t2' fo bo R' recs → (∀ q ∈ R, q ∈ R') → Q (.bool true) { s with heap := h', toks := tk' }) :
  wpAny (model PySem.Challenge.rw_on0180_01.row.prog w) (ktrTop dp un gd cn cs L a ccd cl outer) (call (.ref 197) [.ref FL, .ref BL, .int (i : Int) t]) Q E s := by
  have I0 := I
  obtain ⟨hS, hT1, hT2, ⟨A, n, rfl, hA⟩, ⟨A2, n2, rfl, hA2⟩, rs, R0, R1, R2, R3, R4, ne⟩ := I
  obtain ⟨e1, e2, e3, e4, e5, e6, e7, e8, e9⟩ := ne
  have hsz : A.size = recs.length := by rw [hA]; simp
  have hsz2 : A2.size = recs.length := by rw [hA2]; simp
  have hz1 : A.size ≤ sizeLine := by rw [sizeLine_eq]; omega
  have hz2 : A2.size ≤ sizeLine := by rw [sizeLine_eq]; omega
  have hil := (List.getElem?_eq_some_iff.mp hi).1
  obtain ⟨l, hp, hl⟩ := rs.path i r hi
  have hi9 : recs[((i : Nat) : Int).toNat]? = some r := hi
  have x0 := rs.ok i r hi
  obtain ⟨f1, od, f2, ta, tb, tc, rfl⟩ := x0.frame
  obtain ⟨po, p1, p2⟩ := x0.par
  obtain ⟨bdo, bv, b1, b2, b3⟩ := x0.book
  obtain ⟨bpo, q1, q2⟩ := x0.bpar
  have hCh := rs.chain_at hi hp
  obtain ⟨z, hz, hzm, htop⟩ := top_end l (by cases hp; simp)
  have hz9 : recs[((z.1 : Nat) : Int).toNat]? = some z.2 := hp.mem z hzm
  have hzl := (List.getElem?_eq_some_iff.mp (hp.mem z hzm)).1
  have hl9 : (toCh l).length ≤ 100 := by rw [List.length_map]; omega
  have hand : handedIn r.ov = true := by
    rcases rs.lnk i r hi with ⟨_, e⟩ | ⟨_, _, _, _, _, e⟩ <;> rw [e] <;> rfl
  have N0 := N
  replace N := news_cons (N0 _ (.tail _ (.tail _ (.tail _ (.tail _ (.tail _ f1)))))) (news_cons (N0 _ (.tail _ (.tail _ (.tail _ (.tail _ (.tail _ f2)))))) (news_cons (N0 _ (.tail _ (.tail _ (.tail _ (.tail _ (.tail _ p1)))))) (news_cons (N0 _ (.tail _ (.tail _ (.tail _ (.tail _ (.tail _ b1)))))) (news_cons (N0 _ (.tail _ (.tail _ (.tail _ (.tail _ (.tail _ q1)))))) N0))))
  clear N0
  obtain ⟨k9, n9, g9, c9, m9⟩ := cs
  have hk9 : k9 = .function := hk
  subst hk9
  revert X; k_fill; intro X
  refine wpAny_call ?_
  k_dflt (k_extra "m mine cells0")
  intro g₁ L₁ hh₁ tk₁ cells₁ FG₁ F₁ N₁ Y₁ B₁ X₁ T₁ D₁ l0
  k_cells Y₁
  (try simp only [List.cons_append, List.nil_append] at N₁)
  (try dsimp only)
  have l01 : @LT.lt Nat _ src _ := l0 (src, so) (by simp [led])
  have l02 : @LT.lt Nat _ 187 _ := l0 ((187 : Addr), t1) (by simp [led])
  have l03 : @LT.lt Nat _ 194 _ := l0 ((194 : Addr), t2) (by simp [led])
  have l04 : @LT.lt Nat _ FL _ := l0 (FL, listOf A n) (by simp [led])
  have l05 : @LT.lt Nat _ BL _ := l0 (BL, listOf A2 n2) (by simp [led])
  have hlo : ∀ q ∈ R, @LT.lt Nat _ q.1 _ := fun q hq => l0 q (by simp [led, hq])
  clear l0
  rename_i on₀ o2₀ o3₀ dz1 dz2 dz3
  replace dz1 : on₀.data = .cell none := dz1
  replace dz2 : o2₀.data = .cell none := dz2
  replace dz3 : o3₀.data = .cell (some (.ref BL)) := dz3
  obtain ⟨c1, c2, c3⟩ := cells_ne hlo
  have nr1 : @Ne Nat r.fa 194 := R2 _ f1
  have nr2 : @Ne Nat r.da 194 := R2 _ f2
  have nr3 : @Ne Nat r.pa 194 := R2 _ p1
  have nr4 : @Ne Nat r.bd 194 := R2 _ b1
  have nr5 : @Ne Nat r.bp 194 := R2 _ q1
  have hp7 := WayS.mk 5
  have v1 : @LT.lt Nat _ r.fa _ := hlo _ f1
  have v2 : @LT.lt Nat _ r.da _ := hlo _ f2
  have v3 : @LT.lt Nat _ r.pa _ := hlo _ p1
  have v4 : @LT.lt Nat _ r.bd _ := hlo _ b1
  have v5 : @LT.lt Nat _ r.bp _ := hlo _ q1
  k_steps
  case rest =>
    intro I li
    rename_i tu h6 l12 h5 h4 o1 dd1 h3 _ _ _ _ dw h2 oo lo hs fs hii fii l11 h1 DD ws h0 F9 N9 wI wC l1
    have li1 := ltN (li _ (.head _))
    have li2 := ltN (li _ (.tail _ (.head _)))
    have aw : ∀ q ∈ R, @LT.lt Nat _ q.1 dw := fun q hq => Nat.lt_trans (hlo q hq) (by omega)
    have hne : dw ≠ I := Nat.ne_of_lt li2
    refine listRest_swap _
      (listRest_of (fun (vs : List Value) (o : Obj) => ∃ (dn rs : List (Nat × Rec)), IntsAre vs (ixs rs) ∧ rs.reverse ++ dn = l ∧ DS w dw o (allV (toCh dn))) (.head _) hne (fun q hq => Nat.ne_of_lt (li q (by rcases List.mem_cons.mp hq with h | h; exact h ▸ .head _; exact .tail _ (.tail _ h))))
        ?_ ?_ _ oo _ ⟨[], l.reverse, by rw [ixs, List.map_reverse]; exact wI, by simp, ⟨lo, DC.nil, _, hs, fs⟩⟩ (fun _ _ => rfl))
    · rintro v vr o it h tk ⟨dn, rv, hv, hl2, DW⟩ hc F8 N8
      cases rv with
      | nil => cases hv
      | cons q rv =>
      obtain ⟨j, r'⟩ := q
      obtain ⟨tv, rfl, hv2⟩ := ints_cons hv
      have hj := hp.mem (j, r') (by rw [← hl2]; simp)
      have hj9 : recs[((j : Nat) : Int).toNat]? = some r' := hj
      have hjl := (List.getElem?_eq_some_iff.mp hj).1
      obtain ⟨ob, bv', g1, g2, g3⟩ := (rs.ok j r' hj).book
      obtain ⟨ow, g4, g5⟩ := (rs.ok j r' hj).bown
      unfold BD at g2
      have w1 := aw _ g1
      have w2 := aw _ g4
      have N9 := news_cons (N8 _ (by repeat (first | exact g1 | apply List.mem_cons_of_mem))) (news_cons (N8 _ (by repeat (first | exact g4 | apply List.mem_cons_of_mem))) N8)
      have n3 : dw ≠ r'.bo := Nat.ne_of_gt w2
      have g5c := g5
      have DWc := DW
      obtain ⟨lo3, hc3, kvs3, hd3, hff3⟩ := g5c
      obtain ⟨lo4, hc4, kvs4, hd4, hff4⟩ := DWc
      k_steps
      refine' ForEnd.intro ?F ?N ?S ?J
      case F => assumption
      case J => exact ⟨(j, r') :: dn, rv, hv2, by rw [← hl2]; simp, by assumption⟩
      case N => assumption
      case S => k_extra "m mine sub"
    · rintro o u h tk ⟨dn, rv, hv, hl2, DW⟩ F8 N8
      cases rv with
      | cons q rv => cases hv
      | nil =>
      have e : l = dn := hl2.symm
      subst e
      have DWc := DW
      obtain ⟨lo4, hc4, kvs4, hd4, hff4⟩ := DWc
      k_steps
      refine Stay.mk ?_
      rename_i ln hn Fn Nn lln kF kN Tc kX
      have N1 : News _ _ _ (ledS ln (listOf #[.str "a" _, .str "b" _, .str "c" _] 0) dC (listOf vsC.toArray nC) (L₁ + 1 + 1 + 1) on₀ (L₁ + 1 + 1) o1 (L₁ + 1) o3₀ r _ po bdo bpo src FL BL so t1 t2 (listOf A n) (listOf A2 n2) R) := canonS kN
      have hln : @LT.lt Nat _ (L₁ + 1 + 1 + 1) ln := by omega
      have hdC9 : @LT.lt Nat _ (L₁ + 1 + 1 + 1) dC := by omega
      clear Fn Nn lln kN l12 l11 l1 li F8 N8 DW lo4 hc4 hd4 hff4 hs fs hii fii aw
      (try clear F9 N9)
      (try clear D9 L9 l9)
      (try clear lo9 hc9 hd9' hf9)
      (try clear LC)
      rename WayS 5 => hpz
      clear hpz
      refine iter_S "holders" (fun vs g nw => ∃ on' cv t2' R', Turned w _ base _ p loose mean mg mb g₁ g ∧ on'.data = .cell cv ∧ nw = ledS ln (listOf #[.str "a" _, .str "b" _, .str "c" _] 0) dC (listOf vsC.toArray nC) (L₁ + 1 + 1 + 1) on' (L₁ + 1 + 1) o1 (L₁ + 1) o3₀ r _ po bdo bpo src FL BL so t1 t2' (listOf A n) (listOf A2 n2) R' ∧ Inv w src FL BL so t1 t2' (listOf A n) (listOf A2 n2) R' recs ∧ (∀ q ∈ R, q ∈ R') ∧ (∀ q ∈ R', q.1 ≠ L₁ + 1 + 1 + 1) ∧ ∀ v ∈ vs, ∃ x t, v = .str x t ∧ Nm x)
        (vs := [.str "a" _, .str "b" _, .str "c" _]) rfl (by passes_own) kF N1 (.head _) rfl rfl ⟨on₀, _, t2, R, ⟨KtsTurn.refl, B₁, X₁, T₁, D₁⟩, dz1, rfl, I0, fun _ h => h, c3, by simp [Nm]⟩ ?_ ?_
      · intro I v rr g u nw it h2 tk2 low hJ hmem F8 N8 ho
        obtain ⟨on', cv, t2', R', KT, dz4, hnw, I', sub', nk3, hvs⟩ := hJ
        subst hnw
        obtain ⟨KT0, KB0, KX0, KP0, KD0⟩ := KT
        obtain ⟨xn, tx, rfl, hx⟩ := hvs v (.head _)
        have hkI : @LT.lt Nat _ (L₁ + 1 + 1 + 1) I := low (L₁ + 1 + 1 + 1, on₀) (by simp [ledS])
        have z0 := I'.R0
        have z1 := I'.R1
        have z2 := I'.R2
        have z3 := I'.R3
        have z4 := I'.R4
        have z5 : ∀ q ∈ R', q.1 ≠ I := fun q hq => ho q (by simp [ledS, led, hq])
        have tab2 := I'.T2
        have rs' := I'.rs
        have hCh' := rs'.chain_at hi hp
        have hzs : (List.toArray vsC).size ≤ sizeLine := by
          have e1 := ints_len IC
          rw [List.length_map] at e1
          rw [List.size_toArray, sizeLine_eq]; omega
        have pull : ∀ q ∈ l, ∃ ob bv ow, (q.2.bd, ob) ∈ R' ∧ BD w ob bv q.2.bp q.2.bo ∧ (q.2.bo, ow) ∈ R' ∧ DS w q.2.bo ow q.2.own ∧ recs[((q.1 : Nat) : Int).toNat]? = some q.2 ∧ q.1 < recs.length := fun q hq => by
          have hj := hp.mem q hq
          obtain ⟨ob, bv', g1, g2, g3⟩ := (rs'.ok _ _ hj).book
          obtain ⟨ow, g4, g5⟩ := (rs'.ok _ _ hj).bown
          exact ⟨ob, bv', ow, g1, g2, g4, g5, hj, (List.getElem?_eq_some_iff.mp hj).1⟩
        dsimp only [ledS, led] at N8
        clear hCh c1 c2 c3 R0 R1 R2 R3 R4 N1 kF hT1 hT2 I0 rs F
        k_steps
        refine Stay.mk ?_
        refine LCt.CompSrcT.ledger (by rfl) (by k_asm) (by k_asm) (by k_mem) hzs ?_
        intro g8
        refine hold_comp (x := xn) (l := l) IC (by simp) (.inr ⟨_, by k_mem, rfl, _, rfl⟩) ?_ ?_
        · intro q t8 ys8 I8 oI8 C8 oC8 D8 m8 h8 tk8 E8 hq8 hC8 hm8 F9 N9
          obtain ⟨ob, bv', ow, g1, g2, g4, g5, hj9, hjl⟩ := pull q hq8
          unfold BD at g2
          have N8 := news_cons (N9 _ (by repeat (first | exact g1 | apply List.mem_cons_of_mem))) (news_cons (N9 _ (by repeat (first | exact g4 | apply List.mem_cons_of_mem))) N9)
          obtain ⟨lo3, hc3, kvs3, hd3, hff3⟩ := g5
          have hl3 := hc3.len
          obtain hk | hk := has_or hx q.2.own
          · k_steps
            exact HoldYes.intro hk (by k_asm) (by assumption) (by k_extra "m mine sub")
          · k_steps
            exact HoldNo.intro hk (by k_asm) (by assumption) (by k_extra "m mine sub")
        · intro ys hys
          intro D8 h8 tk8 F9 N9 off
          have nD : @Ne Nat 194 D8 := off1_mem off ((194 : Addr), t2') (by k_mem)
          have nI : @Ne Nat I D8 := off1_mem off (I, it) (by k_mem)
          have N7 : News _ _ _ ((D8, listOf (List.toArray ys) ys.length) :: _) := N9
          clear N9 off
          have q2c := q2
          obtain ⟨lo5, hc5, kvs5, hd5, hff5⟩ := q2c
          have hl5 := hc5.len
          have b2c := b2
          unfold BD at b2c
          dsimp only
          rcases hldr_or xn l with ⟨hh, he, hb⟩ | ⟨q, rq, hh, hqm, hqk, he, hb, hval⟩
          · rw [hh] at hys
            replace hys : IntsAre ys [] := hys
            cases hys
            have hn0 : IntsAre ([] : List Value) ([] : List Int) := .nil
            k_steps
            refine' TEnd.intro (news' := ledS ln _ dC (listOf vsC.toArray nC) (L₁ + 1 + 1 + 1) _ (L₁ + 1 + 1) o1 (L₁ + 1) o3₀ r _ po bdo bpo src FL BL so t1 _ (listOf A n) (listOf A2 n2) ((cl9, oc9) :: R')) ?eF ?eN ?eo (.head _) ?ej
            case eN => k_extra "m mine led"
            case eF => k_asm
            case eo => exact ledS_ne (fun q hq => ho q hq) (List.forall_mem_cons.mpr ⟨Ne.symm an6, z5⟩)
            case ej => exact ⟨⟨_, fun z => by by_cases e : z = "holders" <;> simp +zetaDelta [e] <;> rfl⟩, _, _, _, _, Turned.trans KT0 ⟨KT, KB, KX, KP, KD⟩, by assumption, rfl, lam_inv2 I' TT9 an1 an2 an3 an4 an5, fun q hq => .tail _ (sub' q hq), List.forall_mem_cons.mpr ⟨Ne.symm an7, nk3⟩, fun v hv => hvs v (.tail _ hv)⟩
          · rw [hh] at hys
            replace hys : IntsAre ys ((q.1 : Int) :: ixs rq) := hys
            cases hys with
            | cons _ tq hys' =>
            rename_i ys'
            have hn1 : IntsAre (.int (q.1 : Int) tq :: ys') ((q.1 : Int) :: ixs rq) := .cons _ tq hys'
            obtain ⟨ob, bv', ow, g1, g2, g4, g5, hj9, hjl⟩ := pull q hqm
            unfold BD at g2
            have N8 := news_cons (N7 _ (by repeat (first | exact g1 | apply List.mem_cons_of_mem))) (news_cons (N7 _ (by repeat (first | exact g4 | apply List.mem_cons_of_mem))) N7)
            obtain ⟨lo3, hc3, kvs3, hd3, hff3⟩ := g5
            have hl3 := hc3.len
            k_steps
            refine' TEnd.intro (news' := ledS ln _ dC (listOf vsC.toArray nC) (L₁ + 1 + 1 + 1) _ (L₁ + 1 + 1) o1 (L₁ + 1) o3₀ r _ po bdo bpo src FL BL so t1 t2' (listOf A n) (listOf A2 n2) R') ?fF ?fN ?fo (.head _) ?fj
            case fN => k_extra "m mine led"
            case fF => k_asm
            case fo => exact ledS_ne (fun q hq => ho q hq) z5
            case fj => exact ⟨⟨_, fun z => by by_cases e : z = "holders" <;> simp +zetaDelta [e] <;> rfl⟩, _, _, _, _, ⟨KT0, KB0, KX0, KP0, KD0⟩, by assumption, rfl, I', sub', nk3, fun v hv => hvs v (.tail _ hv)⟩
      · intro g u nw h2 tk2 hJ F8 N8
        obtain ⟨on', cv, t2', R', KT, dz4, hnw, I', sub', nk3, hvs⟩ := hJ
        subst hnw
        obtain ⟨KT0, KB0, KX0, KP0, KD0⟩ := KT
        k_steps
        exact hret _ t2' R' _ _ (by assumption) (by assumption) (by k_extra "m mine led") I' sub'
end
theorem row122 : True := by
  k_with "off s120" => skip
  exact trivial

theorem row123 : True := by
  w_top off
  exact trivial
/-- the ledger of the law: its two cells, then the places of the law -/
abbrev ledL (k2 : Addr) (o2 : Obj) (k1 : Addr) (o1 : Obj) (src FL BL : Addr) (so t1 t2 fo bo : Obj) (R : List (Addr × Obj)) : List (Addr × Obj) := (k2, o2) :: (k1, o1) :: led src FL BL so t1 t2 fo bo R
theorem led_in {src FL BL : Addr} {so t1 t2 fo bo : Obj} {R : List (Addr × Obj)} {q : Addr × Obj} (h : q ∈ R) : q ∈ led src FL BL so t1 t2 fo bo R := .tail _ (.tail _ (.tail _ (.tail _ (.tail _ h))))
theorem led_sub {src FL BL : Addr} {so t1 t2 fo bo : Obj} {R R' : List (Addr × Obj)} (k : ∀ q ∈ R', q ∈ R) : ∀ q ∈ led src FL BL so t1 t2 fo bo R', q ∈ led src FL BL so t1 t2 fo bo R := fun q hq => by
  simp only [led, List.mem_cons] at hq ⊢
  rcases hq with h | h | h | h | h | h
  · simp [h]
  · simp [h]
  · simp [h]
  · simp [h]
  · simp [h]
  · exact .inr (.inr (.inr (.inr (.inr (k q h)))))
/-- a place apart from the ledger's -/
structure Apart (I k2 k1 src FL BL : Addr) : Prop where
  a : k2 ≠ I
  b : k1 ≠ I
  c : src ≠ I
  d : (187 : Addr) ≠ I
  e : (194 : Addr) ≠ I
  f : FL ≠ I
  g : BL ≠ I
theorem ledL_apart {I k2 k1 src FL BL : Addr} {o2 o1 so t1 t2 fo bo : Obj} {R : List (Addr × Obj)} (h : ∀ q ∈ ledL k2 o2 k1 o1 src FL BL so t1 t2 fo bo R, q.1 ≠ I) : Apart I k2 k1 src FL BL ∧ ∀ q ∈ R, q.1 ≠ I :=
  ⟨⟨h (k2, o2) (by simp [ledL]), h (k1, o1) (by simp [ledL]), h (src, so) (by simp [ledL, led]), h ((187 : Addr), t1) (by simp [ledL, led]), h ((194 : Addr), t2) (by simp [ledL, led]), h (FL, fo) (by simp [ledL, led]), h (BL, bo) (by simp [ledL, led])⟩, fun q hq => h q (.tail _ (.tail _ (led_in hq)))⟩
theorem ledL_ne {I k2 k1 src FL BL : Addr} {o2 o1 so t1 t2 fo bo : Obj} {R : List (Addr × Obj)} (p : Apart I k2 k1 src FL BL) (h : ∀ q ∈ R, q.1 ≠ I) : ∀ q ∈ ledL k2 o2 k1 o1 src FL BL so t1 t2 fo bo R, q.1 ≠ I := fun q hq => by
  simp only [ledL, led, List.mem_cons] at hq
  rcases hq with rfl | rfl | rfl | rfl | rfl | rfl | rfl | hq
  · exact p.a
  · exact p.b
  · exact p.c
  · exact p.d
  · exact p.e
  · exact p.f
  · exact p.g
  · exact h q hq
theorem Apart.ext {I k2 k1 src FL BL : Addr} (p : Apart I k2 k1 src FL BL) : I ≠ src ∧ I ≠ (187 : Addr) ∧ I ≠ (194 : Addr) ∧ I ≠ FL ∧ I ≠ BL := ⟨Ne.symm p.c, Ne.symm p.d, Ne.symm p.e, Ne.symm p.f, Ne.symm p.g⟩
/-- the ledger of the law again, behind a call -/
theorem back_law {h₀ h' : Heap} {L I k2 k1 src FL BL : Addr} {it o2 o1 so t1 t2 fo bo : Obj} {R' : List (Addr × Obj)} (N : News h₀ L h' (led src FL BL so t1 t2 fo bo R')) (i : (I, it) ∈ R') (m2 : (k2, o2) ∈ R') (m1 : (k1, o1) ∈ R') :
    News h₀ L h' ((I, it) :: ledL k2 o2 k1 o1 src FL BL so t1 t2 fo bo (wo I R')) :=
  news_cons (N _ (led_in i)) (news_cons (N _ (led_in m2)) (news_cons (N _ (led_in m1)) (news_of N (led_sub fun q hq => (wo_mem.mp hq).1))))
theorem made_law {w : World} {dp un : Nat} {gd : Option (List Code)} {cn : Str} {cs : Scope} {a : Addr} {ccd : Value} {cl : List (Str × Addr)} {outer : List Env} {A₀ : Around} {base h₀ : Heap} {L : Addr} {m mg mb : Str → Option Value}
  {p : Program} {loose : List Str} {mean : ExcName → Option Value} {s : Shared} {Q E : Value → Shared → Prop} {src FL BL k2 k1 I : Addr} {so t1 t2 fo bo o2 o1 it : Obj} {R : List (Addr × Obj)} {recs : List Rec}
  (B : Below A₀ base outer h₀) (F : Fr h₀ L s.heap m) (X : (hd.heap_39 w.params).In h₀) (N : News h₀ L s.heap ((I, it) :: ledL k2 o2 k1 o1 src FL BL so t1 t2 fo bo R)) (T : Top p loose mean mg mb h₀) (hk : cs.kind = .function) (hdp : dp + 150 < recursionLimit) (hun : un + 1500 < cLine) (W : Inv w src FL BL so t1 t2 fo bo R recs) (hit : ItObj it) (hI : ∀ q ∈ ledL k2 o2 k1 o1 src FL BL so t1 t2 fo bo R, q.1 ≠ I) (m2 : (k2, o2) ∈ R) (m1 : (k1, o1) ∈ R) (hlen : recs.length ≤ 5)
  (hret : ∀ so' fo' bo' R' x h' tk', Fr h₀ L h' m → News h₀ L h' ((I, it) :: ledL k2 o2 k1 o1 src FL BL so' t1 t2 fo' bo' R') → Inv w src FL BL so' t1 t2 fo' bo' R' (recs ++ [x]) → (k2, o2) ∈ R' → (k1, o1) ∈ R' → (∀ q ∈ ledL k2 o2 k1 o1 src FL BL so' t1 t2 fo' bo' R', q.1 ≠ I) → Q .none { s with heap := h', toks := tk' }) :
  wpAny (model PySem.Challenge.rw_on0180_01.row.prog w) (ktrTop dp un gd cn cs L a ccd cl outer) (call (.ref 178) [.ref src, .ref FL, .ref BL]) Q E s := by
  obtain ⟨ap, hR⟩ := ledL_apart hI
  refine made_spec (R := (I, it) :: R) B F X (news_of N fun q hq => ?_) T hk hdp hun (Inv.ext (X := [(I, it)]) W fun q hq => ?_) hlen (fun so' fo' bo' R' x h' tk' F' N' W' sub => ?_)
  · simp only [led, List.mem_cons] at hq ⊢
    rcases hq with h | h | h | h | h | h | h <;> simp [h]
  · rw [List.mem_singleton.mp hq]; exact ap.ext
  · have iI := sub _ (.head _)
    have i2 := sub _ (.tail _ m2)
    have i1 := sub _ (.tail _ m1)
    exact hret so' fo' bo' (wo I R') x h' tk' F' (back_law N' iI i2 i1) (W'.drop N' (fun q hq => led_in hq) (led_in iI) hit) (wo_mem.mpr ⟨i2, ap.a⟩) (wo_mem.mpr ⟨i1, ap.b⟩) (ledL_ne ap fun q hq => (wo_mem.mp hq).2)
theorem deed_law {w : World} {dp un : Nat} {gd : Option (List Code)} {cn : Str} {cs : Scope} {a : Addr} {ccd : Value} {cl : List (Str × Addr)} {outer : List Env} {A₀ : Around} {base h₀ : Heap} {L : Addr} {m mg mb : Str → Option Value}
  {p : Program} {loose : List Str} {mean : ExcName → Option Value} {s : Shared} {Q E : Value → Shared → Prop} {src FL BL k2 k1 I : Addr} {so t1 t2 fo bo o2 o1 it : Obj} {R : List (Addr × Obj)} {recs : List Rec}
  (B : Below A₀ base outer h₀) (F : Fr h₀ L s.heap m) (X : (hd.heap_39 w.params).In h₀) (N : News h₀ L s.heap ((I, it) :: ledL k2 o2 k1 o1 src FL BL so t1 t2 fo bo R)) (T : Top p loose mean mg mb h₀) (hk : cs.kind = .function) (hdp : dp + 180 < recursionLimit) (hun : un + 1800 < cLine)
  (XB : (hd.heap_39 w.params).In base) (TB : Top p loose mean mg mb base) (D : KtsDicts (outer.filterMap (·.frame)) h₀) (hC : CodeHd base 191 187) (W : Inv w src FL BL so t1 t2 fo bo R recs) (hit : ItObj it) (hI : ∀ q ∈ ledL k2 o2 k1 o1 src FL BL so t1 t2 fo bo R, q.1 ≠ I) (m2 : (k2, o2) ∈ R) (m1 : (k1, o1) ∈ R)
  (c2 : ∀ es ep, o2.data ≠ .dict es ep) (c1 : ∀ es ep, o1.data ≠ .dict es ep) (h1l : 1 ≤ recs.length) (h6l : recs.length ≤ 6)
  (hret : ∀ h₀' so' t1' fo' bo' R' recs' h' tk', Turned w A₀ base outer p loose mean mg mb h₀ h₀' → Fr h₀' L h' m → News h₀' L h' ((I, it) :: ledL k2 o2 k1 o1 src FL BL so' t1' t2 fo' bo' R') → Inv w src FL BL so' t1' t2 fo' bo' R' recs' → 1 ≤ recs'.length → recs'.length ≤ 6 → (k2, o2) ∈ R' → (k1, o1) ∈ R' → (∀ q ∈ ledL k2 o2 k1 o1 src FL BL so' t1' t2 fo' bo' R', q.1 ≠ I) → Q (.bool true) { s with heap := h', toks := tk' }) :
  wpAny (model PySem.Challenge.rw_on0180_01.row.prog w) (ktrTop dp un gd cn cs L a ccd cl outer) (call (.ref 192) [.ref src, .ref FL, .ref BL]) Q E s := by
  obtain ⟨ap, hR⟩ := ledL_apart hI
  have ci : ∀ es ep, it.data ≠ .dict es ep := fun es ep e => by
    obtain ⟨a, b, c, rfl⟩ := hit
    cases e
  refine deed_spec (R := (I, it) :: R) B F X (news_of N fun q hq => ?_) T hk hdp hun XB TB D hC (Inv.ext (X := [(I, it)]) W fun q hq => ?_) h1l h6l (fun h₀' so' t1' fo' bo' R' recs' h' tk' KT F' N' W' a1 a2 sub => ?_)
  · simp only [led, List.mem_cons] at hq ⊢
    rcases hq with h | h | h | h | h | h | h <;> simp [h]
  · rw [List.mem_singleton.mp hq]; exact ap.ext
  · have iI := sub _ (.head _) ci
    have i2 := sub _ (.tail _ m2) c2
    have i1 := sub _ (.tail _ m1) c1
    exact hret h₀' so' t1' fo' bo' (wo I R') recs' h' tk' KT F' (back_law N' iI i2 i1) (W'.drop N' (fun q hq => led_in hq) (led_in iI) hit) a1 a2 (wo_mem.mpr ⟨i2, ap.a⟩) (wo_mem.mpr ⟨i1, ap.b⟩) (ledL_ne ap fun q hq => (wo_mem.mp hq).2)
abbrev wo4 (I C D J : Addr) (R : List (Addr × Obj)) : List (Addr × Obj) := wo I (wo C (wo D (wo J R)))
theorem wo4_mem {I C D J : Addr} {R : List (Addr × Obj)} {q : Addr × Obj} : q ∈ wo4 I C D J R ↔ q ∈ R ∧ q.1 ≠ I ∧ q.1 ≠ C ∧ q.1 ≠ D ∧ q.1 ≠ J := by
  rw [wo_mem, wo_mem, wo_mem, wo_mem]
  constructor
  · rintro ⟨⟨⟨⟨a, b⟩, c⟩, d⟩, e⟩; exact ⟨a, e, d, c, b⟩
  · rintro ⟨a, e, d, c, b⟩; exact ⟨⟨⟨⟨a, b⟩, c⟩, d⟩, e⟩
theorem stands_law {w : World} {dp un : Nat} {gd : Option (List Code)} {cn : Str} {cs : Scope} {a : Addr} {ccd : Value} {cl : List (Str × Addr)} {outer : List Env} {A₀ : Around} {base h₀ : Heap} {L : Addr} {m mg mb : Str → Option Value}
  {p : Program} {loose : List Str} {mean : ExcName → Option Value} {s : Shared} {Q E : Value → Shared → Prop} {src FL BL k2 k1 I : Addr} {so t1 t2 fo bo o2 o1 it : Obj} {R : List (Addr × Obj)} {recs : List Rec} {i : Nat} {t : Tok} {I2 C D' : Addr} {oI2 oC : Obj} {m₂ : Str → Option Value}
  (B : Below A₀ base outer h₀) (F : Fr h₀ L s.heap m) (X : (hd.heap_39 w.params).In h₀) (N : News h₀ L s.heap ((I2, oI2) :: (C, oC) :: (D', LCg.lst []) :: (I, it) :: ledL k2 o2 k1 o1 src FL BL so t1 t2 fo bo R)) (T : Top p loose mean mg mb h₀) (hk : cs.kind = .function) (hdp : dp + 180 < recursionLimit) (hun : un + 1800 < cLine)
  (XB : (hd.heap_39 w.params).In base) (TB : Top p loose mean mg mb base) (D : KtsDicts (outer.filterMap (·.frame)) h₀) (hC : CodeHd base 196 194) (W : Inv w src FL BL so t1 t2 fo bo R recs) (hit : ItObj it) (hit2 : ItObj oI2) (hoC : LCg.NsObj oC m₂) (hI : ∀ q ∈ ledL k2 o2 k1 o1 src FL BL so t1 t2 fo bo R, q.1 ≠ I)
  (off : LCg.Off3 I2 C D' ((I, it) :: ledL k2 o2 k1 o1 src FL BL so t1 t2 fo bo R)) (m2 : (k2, o2) ∈ R) (m1 : (k1, o1) ∈ R) (hi : i < recs.length) (h6l : recs.length ≤ 6)
  (hret : ∀ h₀' t2' R' h' tk', Turned w A₀ base outer p loose mean mg mb h₀ h₀' → Fr h₀' L h' m → News h₀' L h' ((I2, oI2) :: (C, oC) :: (D', LCg.lst []) :: (I, it) :: ledL k2 o2 k1 o1 src FL BL so t1 t2' fo bo R') → Inv w src FL BL so t1 t2' fo bo R' recs → (k2, o2) ∈ R' → (k1, o1) ∈ R' → (∀ q ∈ ledL k2 o2 k1 o1 src FL BL so t1 t2' fo bo R', q.1 ≠ I) → LCg.Off3 I2 C D' ((I, it) :: ledL k2 o2 k1 o1 src FL BL so t1 t2' fo bo R') → Q (.bool true) { s with heap := h', toks := tk' }) :
  wpAny (model PySem.Challenge.rw_on0180_01.row.prog w) (ktrTop dp un gd cn cs L a ccd cl outer) (call (.ref 197) [.ref FL, .ref BL, .int (i : Int) t]) Q E s := by
  obtain ⟨ap, hR⟩ := ledL_apart hI
  have om := LCg.Off3.mem off
  obtain ⟨ap1, hR1⟩ := ledL_apart (I := I2) fun q hq => (om q (.tail _ hq)).1
  obtain ⟨ap2, hR2⟩ := ledL_apart (I := C) fun q hq => (om q (.tail _ hq)).2.1
  obtain ⟨ap3, hR3⟩ := ledL_apart (I := D') fun q hq => (om q (.tail _ hq)).2.2
  refine stands_spec (R := (I2, oI2) :: (C, oC) :: (D', LCg.lst []) :: (I, it) :: R) B F X (news_of N fun q hq => ?_) T hk hdp hun XB TB D hC (Inv.ext (X := [(I2, oI2), (C, oC), (D', LCg.lst []), (I, it)]) W fun q hq => ?_) (List.getElem?_eq_getElem hi) h6l (fun h₀' t2' R' h' tk' KT F' N' W' sub => ?_)
  · simp only [led, List.mem_cons] at hq ⊢
    rcases hq with h | h | h | h | h | h | h | h | h | h <;> simp [h]
  · simp only [List.mem_cons, List.not_mem_nil, or_false] at hq
    rcases hq with rfl | rfl | rfl | rfl
    · exact ap1.ext
    · exact ap2.ext
    · exact ap3.ext
    · exact ap.ext
  · have j1 := sub _ (.head _)
    have j2 := sub _ (.tail _ (.head _))
    have j3 := sub _ (.tail _ (.tail _ (.head _)))
    have j4 := sub _ (.tail _ (.tail _ (.tail _ (.head _))))
    have old : ∀ q ∈ R, q ∈ wo4 I2 C D' I R' := fun q hq => wo4_mem.mpr ⟨sub q (.tail _ (.tail _ (.tail _ (.tail _ hq)))), hR1 q hq, hR2 q hq, hR3 q hq, hR q hq⟩
    have uniq : ∀ q ∈ R', ∀ a o, (a, o) ∈ R' → q.1 = a → q.2 = o := fun q hq a o ho e => by
      have e1 := (N' _ (led_in hq)).1
      have e2 := (N' _ (led_in ho)).1
      rw [e, show h'.get? a = _ from e2] at e1
      exact (Option.some.inj e1).symm
    have tab : TabOk "_law_stands.<locals>.<lambda>" (wo4 I2 C D' I R') t2' := W'.T2.on fun q hq hn hf => by
      refine wo4_mem.mpr ⟨hq, fun e => hn ?_, fun e => ?_, fun e => ?_, fun e => hn ?_⟩
      · rw [uniq q hq _ _ j1 e]; exact hit2
      · obtain ⟨vs, hv⟩ := hf
        obtain ⟨es, ep, hd, _⟩ := hoC
        rw [uniq q hq _ _ j2 e, hd] at hv
        cases hv
      · obtain ⟨vs, hv⟩ := hf
        rw [uniq q hq _ _ j3 e] at hv
        cases hv
      · rw [uniq q hq _ _ j4 e]; exact hit
    have sb : ∀ q ∈ wo4 I2 C D' I R', q ∈ R' := fun q hq => (wo4_mem.mp hq).1
    have W2 : Inv w src FL BL so t1 t2' fo bo (wo4 I2 C D' I R') recs := ⟨W.S, W.T1.mono old, tab, W.F, W.B, W.rs.mono old, fun q hq => W'.R0 q (sb q hq), fun q hq => W'.R1 q (sb q hq), fun q hq => W'.R2 q (sb q hq), fun q hq => W'.R3 q (sb q hq), fun q hq => W'.R4 q (sb q hq), W.ne⟩
    have hI' := ledL_ne (R := wo4 I2 C D' I R') (o2 := o2) (o1 := o1) (so := so) (t1 := t1) (t2 := t2') (fo := fo) (bo := bo) ap fun q hq => (wo4_mem.mp hq).2.2.2.2
    refine hret h₀' t2' (wo4 I2 C D' I R') h' tk' KT F' ?_ W2 (old _ m2) (old _ m1) hI' (LCg.Off3.of fun q hq => ?_)
    · exact news_cons (N' _ (led_in j1)) (news_cons (N' _ (led_in j2)) (news_cons (N' _ (led_in j3)) (news_cons (N' _ (led_in j4)) (news_cons (N' _ (led_in (sb _ (old _ m2)))) (news_cons (N' _ (led_in (sb _ (old _ m1)))) (news_of N' (led_sub sb)))))))
    · rcases List.mem_cons.mp hq with rfl | hq
      · exact om _ (.head _)
      · exact ⟨ledL_ne ap1 (fun q hq => (wo4_mem.mp hq).2.1) q hq, ledL_ne ap2 (fun q hq => (wo4_mem.mp hq).2.2.1) q hq, ledL_ne ap3 (fun q hq => (wo4_mem.mp hq).2.2.2.1) q hq⟩
/-- what a turn of the law has behind its deed -/
def MidQ (w : World) (A₀ : Around) (base : Heap) (outer : List Env) (p : Program) (loose : List Str) (mean : ExcName → Option Value) (mg mb : Str → Option Value) (g₀ : Heap) (L : Addr) (m : Str → Option Value) (s : Shared) (I : Addr) (it : Obj) (k2 : Addr) (o2 : Obj) (k1 : Addr) (o1 : Obj) (src FL BL : Addr) (f : Flow) (s' : Shared) : Prop :=
  f = .next ∧ ∃ g so t1 t2 fo bo R recs h tk, Turned w A₀ base outer p loose mean mg mb g₀ g ∧ s' = { s with heap := h, toks := tk } ∧ Fr g L h m ∧ News g L h ((I, it) :: ledL k2 o2 k1 o1 src FL BL so t1 t2 fo bo R) ∧ Inv w src FL BL so t1 t2 fo bo R recs ∧ 1 ≤ recs.length ∧ recs.length ≤ 6 ∧ (k2, o2) ∈ R ∧ (k1, o1) ∈ R ∧ ∀ q ∈ ledL k2 o2 k1 o1 src FL BL so t1 t2 fo bo R, q.1 ≠ I
theorem mid_join {M : Model} {A : Around} {s : Shared} {st : Stmt} {env : Env} {Q : Flow → Shared → Prop} {E : Value → Shared → Prop} {w : World} {A₀ : Around} {base : Heap} {outer : List Env} {p : Program} {loose : List Str} {mean : ExcName → Option Value} {mg mb : Str → Option Value} {g₀ : Heap} {L : Addr} {m : Str → Option Value} {I : Addr} {it : Obj} {k2 : Addr} {o2 : Obj} {k1 : Addr} {o1 : Obj} {src FL BL : Addr}
    {so₀ t1₀ t2₀ fo₀ bo₀ : Obj} {R₀ : List (Addr × Obj)} (F : Fr g₀ L s.heap m) (B : Below A₀ base outer g₀) (T : Top p loose mean mg mb g₀) (N : News g₀ L s.heap ((I, it) :: ledL k2 o2 k1 o1 src FL BL so₀ t1₀ t2₀ fo₀ bo₀ R₀))
    (h1 : wpAny M A (exec st env) (MidQ w A₀ base outer p loose mean mg mb g₀ L m s I it k2 o2 k1 o1 src FL BL) E s)
    (h2 : ∀ g so t1 t2 fo bo R recs h tk, Turned w A₀ base outer p loose mean mg mb g₀ g → Fr g L h m → News g L h ((I, it) :: ledL k2 o2 k1 o1 src FL BL so t1 t2 fo bo R) → Inv w src FL BL so t1 t2 fo bo R recs → 1 ≤ recs.length → recs.length ≤ 6 → (k2, o2) ∈ R → (k1, o1) ∈ R → (∀ q ∈ ledL k2 o2 k1 o1 src FL BL so t1 t2 fo bo R, q.1 ≠ I) → Q .next { s with heap := h, toks := tk }) :
    wpAny M A (exec st env) Q E s := by
  refine wpAny_mono h1 (fun f s' hm => ?_) fun _ _ e => e
  obtain ⟨rfl, g, so, t1, t2, fo, bo, R, recs, h, tk, a1, rfl, a2, a3, a4, a5, a6, a7, a8, a9⟩ := hm
  exact h2 g so t1 t2 fo bo R recs h tk a1 a2 a3 a4 a5 a6 a7 a8 a9
theorem one_agree {x : Str} {u u' : Option Value} {m₀ : Str → Option Value} : ∀ z, (if z = x then u else if z = x then u' else m₀ z) = if z = x then u else m₀ z := fun z => by
  by_cases e : z = x <;> simp [e]
theorem law_led {h₀ h : Heap} {L D FL BL src k2 k1 : Addr} {x bo fo so o2 o1 t1 t2 : Obj} (N : News h₀ L h [(D, x), (BL, bo), (FL, fo), (src, so), (k2, o2), (k1, o1), ((194 : Addr), t2), ((187 : Addr), t1)]) : News h₀ L h (ledL k2 o2 k1 o1 src FL BL so t1 t2 fo bo [(k2, o2), (k1, o1)]) := news_of N fun q hq => by
  simp only [ledL, led, List.mem_cons, List.not_mem_nil, or_false] at hq ⊢
  rcases hq with h | h | h | h | h | h | h | h | h <;> simp [h]
theorem inv_start {w : World} {FL BL src k2 k1 : Addr} {so o2 o1 : Obj} {n n' : Nat} (S : Src so) (h1 : @Ne Nat k2 src ∧ @Ne Nat k2 187 ∧ @Ne Nat k2 194 ∧ @Ne Nat k2 FL ∧ @Ne Nat k2 BL) (h2 : @Ne Nat k1 src ∧ @Ne Nat k1 187 ∧ @Ne Nat k1 194 ∧ @Ne Nat k1 FL ∧ @Ne Nat k1 BL)
    (ne : @Ne Nat src 187 ∧ @Ne Nat src 194 ∧ @Ne Nat src FL ∧ @Ne Nat src BL ∧ @Ne Nat FL 187 ∧ @Ne Nat FL 194 ∧ @Ne Nat BL 187 ∧ @Ne Nat BL 194 ∧ @Ne Nat FL BL) : Inv w src FL BL so (tabObj #[]) (tabObj #[]) (listOf #[] n) (listOf #[] n') [(k2, o2), (k1, o1)] [] := by
  obtain ⟨a1, a2, a3, a4, a5⟩ := h1
  obtain ⟨b1, b2, b3, b4, b5⟩ := h2
  have two : ∀ d : Addr, k2 ≠ d → k1 ≠ d → ∀ q ∈ [(k2, o2), (k1, o1)], q.1 ≠ d := fun d x y q hq => by
    simp only [List.mem_cons, List.not_mem_nil, or_false] at hq
    rcases hq with rfl | rfl
    · exact x
    · exact y
  exact ⟨S, TabOk.nil, TabOk.nil, ⟨_, _, rfl, rfl⟩, ⟨_, _, rfl, rfl⟩, Recs.nil, two _ a1 b1, two _ a2 b2, two _ a3 b3, two _ a4 b4, two _ a5 b5, ne⟩
theorem Inv.src {w : World} {src FL BL : Addr} {so so' t1 t2 fo bo : Obj} {R : List (Addr × Obj)} {recs : List Rec} (I : Inv w src FL BL so t1 t2 fo bo R recs) (S : Src so') : Inv w src FL BL so' t1 t2 fo bo R recs := { I with S := S }
/-- CompNo.intro, the frame as it is -/
theorem CompNo.same {prog : Program} {w : World} {A : Around} {env : Env} {L : Addr} {ct : PySem.Expr} {x : Str} {scope : Scope} {cl : List (Str × Addr)} {Q : Value → Shared → Prop} {s₁ : Shared} {r : Addr} {b : Int} {t u v : Tok} {n : Nat} {h₀ : Heap} {m : Str → Option Value} {news : List (Addr × Obj)} (J : Nat → Heap → List (Addr × Obj) → Prop) (hh : A.handled = none) (F : Fr h₀ L s₁.heap m) (N : News h₀ L s₁.heap news)
    (hr : IsRange s₁.heap r 0 b 1 t u v) (hb : b = (n : Int)) (hn : n ≤ 1000) (h0 : J 0 h₀ news)
    (turn : ∀ i I oI C oC D g news' m₂ h tk t (E' : Value → Shared → Prop), i < n → ItObj oI → J i g news' → LCg.NsObj oC m₂ → m₂ x = some (.int (i : Int) t) → Fr g L h m → News g L h ((I, oI) :: (C, oC) :: (D, LCg.lst []) :: news') → LCg.Off3 I C D news' → ((@Ne Nat I C) ∧ (@Ne Nat I D) ∧ (@Ne Nat C D)) →
      wpAny (model prog w) A (isTrue ct (compEnvC scope cl C env) (eval ct (compEnvC scope cl C env))) (NoPost L { s₁ with heap := h, toks := tk } I oI C oC D (fun g m' news' => m' = m ∧ J (i + 1) g news')) E' { s₁ with heap := h, toks := tk })
    (done : ∀ g news' D h tk, J n g news' → Fr g L h m → News g L h ((D, LCg.lst []) :: news') → LCg.Off1 D news' → Q (.ref D) { s₁ with heap := h, toks := tk }) : CompNo prog w A L env ct x scope cl Q (.ref r) s₁ := by
  subst hb
  refine CompNo.intro (fun i g m' news' => m' = m ∧ J i g news') hh F N hr hn ⟨rfl, h0⟩ ?_ ?_
  · rintro i I oI C oC D g m' news' m₂ h tk t E' hi hit ⟨hm, hJ⟩ hC hx F' N' off ne
    subst hm
    exact turn i I oI C oC D g news' m₂ h tk t E' hi hit hJ hC hx F' N' off ne
  · rintro g m' news' D h tk ⟨hm, hJ⟩ F' N' off
    subst hm
    exact done g news' D h tk hJ F' N' off

theorem row124 : True := by
  w_top off
  exact trivial
section
theorem row126 : True := by
  k_with "m call ref" => ((fail_if_success (k_extra "off s125")); ((k_here; (with_reducible show wpAny _ _ (call (Value.ref 145) [Value.ref _]) _ _ _); k_dflt (refine' pool_spec ?y1q54304 ?y2q54304 ?y3q54304 ?y4q54304 ?y5q54304 rfl ?y6q54304 ?y7q54304 ?y8q54304 ?y9q54304 ?y10q54304 ?_; (case y1q54304 => k_asm); (case y2q54304 => k_asm); (case y3q54304 => k_asm); (case y4q54304 => k_asm); (case y5q54304 => k_asm); (case y6q54304 => first | omega | decide); (case y7q54304 => first | omega | decide); (case y8q54304 => assumption); (case y9q54304 => assumption); (case y10q54304 => omega); k_whole); intro d9 so9 h9 tk9 F9 N9 S9 l9; k_lt l9)))
  k_with "m exec For Name Call cons nil" => ((fail_if_success (k_extra "off s125")); ((k_here; (with_reducible show wpAny _ _ (exec (Stmt.For (PySem.Expr.Name "turn" _) _ _ _ _) _) _ _ _); k_dflt (refine For_T ?_))))
  k_with "m pyIter ref" => ((fail_if_success (k_extra "off s125")); (((with_reducible show wpAny _ _ (pyIter (Value.ref _)) (fun it s₂ => LoopT _ _ _ _ _ _ _ _ _ it s₂) _ _); refine Stay.out ?_)))
  k_with "m call ref" => ((fail_if_success (k_extra "off s125")); (((with_reducible show wpAny _ _ (call (Value.ref 178) _) _ _ _); refine Stay.out ?_)))
  k_with "m call ref" => ((fail_if_success (k_extra "off s125")); (((with_reducible show wpAny _ _ (call (Value.ref 192) _) _ _ _); refine Stay.out ?_)))
  k_with "m call ref" => ((fail_if_success (k_extra "off s125")); (((with_reducible show wpAny _ _ (call (Value.ref 197) _) _ _ _); refine Stay.out ?_)))
  k_with "m call ref" => ((fail_if_success (k_extra "off s125")); ((k_here; (with_reducible show wpAny _ _ (call (Value.ref 197) [Value.ref _, Value.ref _, Value.int _ _]) _ _ _); k_dflt (refine' stands_law ?y1q75777 ?y2q75777 ?y3q75777 ?y4q75777 ?y5q75777 rfl ?y6q75777 ?y7q75777 ?w0q75777 ?w1q75777 ?w2q75777 ?w3q75777 ?w4q75777 ?w5q75777 ?w6q75777 ?w7q75777 ?w8q75777 ?w9q75777 ?w10q75777 ?w11q75777 ?w12q75777 ?w13q75777 ?_; (case y1q75777 => k_asm); (case y2q75777 => k_asm); (case y3q75777 => k_asm); (case y4q75777 => k_asm); (case y5q75777 => k_asm); (case y6q75777 => first | omega | decide); (case y7q75777 => first | omega | decide); (case w0q75777 => assumption); (case w1q75777 => assumption); (case w2q75777 => assumption); (case w3q75777 => assumption); (case w4q75777 => assumption); (case w5q75777 => assumption); (case w6q75777 => assumption); (case w7q75777 => assumption); (case w8q75777 => assumption); (case w9q75777 => assumption); (case w10q75777 => assumption); (case w11q75777 => assumption); (case w12q75777 => assumption); (case w13q75777 => assumption); k_whole); intro g9 t29 R9 h9 tk9 KT9 F9 N9 W9 m29 m19 hI9 off9)))
  k_with "m call ref" => ((fail_if_success (k_extra "off s125")); ((k_here; (with_reducible show wpAny _ _ (call (Value.ref 192) [Value.ref _, Value.ref _, Value.ref _]) _ _ _); k_dflt (refine' deed_law ?y1q20736 ?y2q20736 ?y3q20736 ?y4q20736 ?y5q20736 rfl ?y6q20736 ?y7q20736 ?w0q20736 ?w1q20736 ?w2q20736 ?w3q20736 ?w4q20736 ?w5q20736 ?w6q20736 ?w7q20736 ?w8q20736 ?w9q20736 ?w10q20736 ?w11q20736 ?w12q20736 ?_; (case y1q20736 => k_asm); (case y2q20736 => k_asm); (case y3q20736 => k_asm); (case y4q20736 => k_asm); (case y5q20736 => k_asm); (case y6q20736 => first | omega | decide); (case y7q20736 => first | omega | decide); (case w0q20736 => assumption); (case w1q20736 => assumption); (case w2q20736 => assumption); (case w3q20736 => exact codeHd); (case w4q20736 => first | assumption | exact Inv.src (by assumption) (by assumption)); (case w5q20736 => assumption); (case w6q20736 => first | assumption | exact ledL_ne apI hRI); (case w7q20736 => assumption); (case w8q20736 => assumption); (case w9q20736 => assumption); (case w10q20736 => assumption); (case w11q20736 => omega); (case w12q20736 => omega); k_whole); intro g9 so9 t19 fo9 bo9 R9 recs9 h9 tk9 KT9 F9 N9 W9 a19 a29 m29 m19 hI9; (obtain ⟨KT, KB, KX, KP, KD⟩ := KT9))))
  k_with "m eval ListComp" => ((fail_if_success (k_extra "off s125")); ((k_here; (with_reducible show wpAny _ _ (eval (PySem.Expr.ListComp _ _ _ _) _) _ _ _); k_dflt (refine ListComp_no (F₀ := by k_asm) (by with_unfolding_all rfl) (by decide) (by rfl) (by decide) (by rfl) ?_))))
  k_with "m CompNo" => ((fail_if_success (k_extra "off s125")); ((refine Stay.out ?_)))
  k_with "m exec If" => ((fail_if_success (k_extra "off s125")); ((((with_reducible show wpAny _ _ (exec (Stmt.If (PySem.Expr.Compare (PySem.Expr.ListComp _ _ _ _) _ _ _) _ _ _) _) _ _ _); (fail_if_success (rename WayS 8 => hp8)); refine Stay.out ?_))))
  k_with "m exec If" => ((fail_if_success (k_extra "off s125")); ((((with_reducible show wpAny _ _ (exec (Stmt.If (PySem.Expr.BoolOp _ _ _) _ _ _) _) _ _ _); (fail_if_success (rename WayS 9 => hp8)); refine Stay.out ?_))))
  k_with "m call ref" => ((fail_if_success (k_extra "off s125")); ((k_here; (with_reducible show wpAny _ _ (call (Value.ref 178) [Value.ref _, Value.ref _, Value.ref _]) _ _ _); k_dflt (refine' made_law ?y1q77570 ?y2q77570 ?y3q77570 ?y4q77570 ?y5q77570 rfl ?y6q77570 ?y7q77570 ?w0q77570 ?w1q77570 ?w2q77570 ?w3q77570 ?w4q77570 ?w5q77570 ?_; (case y1q77570 => k_asm); (case y2q77570 => k_asm); (case y3q77570 => k_asm); (case y4q77570 => k_asm); (case y5q77570 => k_asm); (case y6q77570 => first | omega | decide); (case y7q77570 => first | omega | decide); (case w0q77570 => first | assumption | exact Inv.src (by assumption) (by assumption)); (case w1q77570 => assumption); (case w2q77570 => first | assumption | exact ledL_ne apI hRI); (case w3q77570 => assumption); (case w4q77570 => assumption); (case w5q77570 => omega); k_whole); intro so9 fo9 bo9 R9 x9 h9 tk9 F9 N9 W9 m29 m19 hI9)))
  k_with "m call ref" => ((fail_if_success (k_extra "off s125")); ((k_here; (with_reducible show wpAny _ _ (call (Value.ref 75) [Value.ref _, Value.str _ _, Value.int _ _]) _ _ _); k_dflt (refine' bound_spec ?Bq11576 ?Fq11576 ?Xq11576 ?Nq11576 ?Tq11576 ?hkq11576 ?hdq11576 ?huq11576 ?fq11576 ?oq11576 ?h1q11576 ?Dq11576 ?h2q11576 ?DPq11576 ?noq11576 ?xq11576 ?_; (case Bq11576 => k_asm); (case Fq11576 => k_asm); (case Xq11576 => k_asm); (case Nq11576 => k_asm); (case Tq11576 => k_asm); (case hkq11576 => first | exact rfl | assumption); (case fq11576 => k_extra "m mine fa"); (case oq11576 => exact rfl); (case h1q11576 => k_mem); (case Dq11576 => k_extra "m mine ds"); (case h2q11576 => k_mem); (case DPq11576 => k_extra "m mine ds"); (case noq11576 => first | exact no_b | exact no_a); (case xq11576 => first | exact nm_a | exact nm_b); (case hdq11576 => (k_extra "m mine room")); (case huq11576 => (k_extra "m mine room")); k_whole); (try dsimp only); intro fa9 da9 pa9 oa9 od9 po9 oo9 h9 tk9 F9 N9 FD9 DP9 DO9 l91 l92 l93 l94; k_dflt ((have L9 := l91); k_lt l91; k_lt2 l92; k_lt2 l93; k_lt2 l94; (have DPc9 := DP9); (have DOc9 := DO9); (obtain ⟨lp9, cp9, kp9, ip9, fp9⟩ := DPc9); (obtain ⟨lq9, cq9, kq9, iq9, fq9⟩ := DOc9); (obtain ⟨ta9, tb9, tc9, e9⟩ := FD9); subst e9))))
  k_with "m call ref" => ((fail_if_success (k_extra "off s125")); ((k_here; (with_reducible show wpAny _ _ (call (Value.ref 89) [Value.ref _, Value.str _ _, Value.int _ _]) _ _ _); k_dflt (refine' bparam_spec ?Bq51766 ?Fq51766 ?Xq51766 ?Nq51766 ?Tq51766 ?hkq51766 ?hdq51766 ?huq51766 ?fq51766 ?h2q51766 ?DPq51766 ?Uq51766 ?Dq51766 ?n1q51766 ?n2q51766 ?n3q51766 ?noq51766 ?xq51766 ?_; (case Bq51766 => k_asm); (case Fq51766 => k_asm); (case Xq51766 => k_asm); (case Nq51766 => k_asm); (case Tq51766 => k_asm); (case hkq51766 => first | exact rfl | assumption); (case fq51766 => k_extra "m mine fa"); (case h2q51766 => k_mem); (case DPq51766 => k_extra "m mine ds"); (case Uq51766 => k_updF); (case Dq51766 => k_extra "m mine ds"); (case n1q51766 => k_ne); (case n2q51766 => k_ne); (case n3q51766 => k_ne); (case noq51766 => first | exact no_b | exact no_a); (case xq51766 => first | exact nm_a | exact nm_b); (case hdq51766 => (k_extra "m mine room")); (case huq51766 => (k_extra "m mine room")); k_whole); (try dsimp only); intro o9 h9 tk9 F9 N9 D9)))
  k_with "m eval Name" => ((fail_if_success (k_extra "off s125")); ((k_here; (with_reducible show wpAny _ _ (eval (PySem.Expr.Name "alone" _) _) _ _ _); k_dflt (refine' nameX_L ?Fq93112 ?vq93112 ?_ ?aq93112 ?bq93112; (case Fq93112 => with_reducible assumption); (case aq93112 => rfl); (case bq93112 => rfl); (case vq93112 => rfl); k_whole))))
  k_with "m eval Name" => ((fail_if_success (k_extra "off s125")); ((k_here; (with_reducible show wpAny _ _ (eval (PySem.Expr.Name "more" _) _) _ _ _); k_dflt (refine' nameX_L ?Fq76161 ?vq76161 ?_ ?aq76161 ?bq76161; (case Fq76161 => with_reducible assumption); (case aq76161 => rfl); (case bq76161 => rfl); (case vq76161 => rfl); k_whole))))
  k_with "m call ref" => ((fail_if_success (k_extra "off s125")); ((k_here; (with_reducible show wpAny _ _ (call (Value.ref 134) [_, Value.ref _]) _ _ _); k_dflt (refine' mk_spec ?Bq98583 ?Fq98583 ?Xq98583 ?Nq98583 ?Tq98583 ?hkq98583 ?hdq98583 ?huq98583 ?hmq98583 ?Dq98583 ?_; (case Bq98583 => k_asm); (case Fq98583 => k_asm); (case Xq98583 => k_asm); (case Nq98583 => k_asm); (case Tq98583 => k_asm); (case hkq98583 => first | exact rfl | assumption); (case hmq98583 => k_mem); (case Dq98583 => k_extra "m mine ds"); (case hdq98583 => (k_extra "m mine room")); (case huq98583 => (k_extra "m mine room")); k_whole); k_dflt (intro fa9 da9 pa9 oa9 od9 po9 oo9 h9 tk9 F9 N9 FD9 DP9 DO9 l91 l92 l93 l94; (have L9 := l91); k_lt l91; k_lt2 l92; k_lt2 l93; k_lt2 l94; (have DPc9 := DP9); (have DOc9 := DO9); (obtain ⟨lp9, cp9, kp9, ip9, fp9⟩ := DPc9); (obtain ⟨lq9, cq9, kq9, iq9, fq9⟩ := DOc9); (obtain ⟨ta9, tb9, tc9, e9⟩ := FD9); subst e9))))
  k_with "m call ref" => ((fail_if_success (k_extra "off s125")); ((k_here; (with_reducible show wpAny _ _ (call (Value.ref 131) [Value.ref _]) _ _ _); k_dflt (refine' all_spec ?Bq68697 ?Fq68697 ?Xq68697 ?Nq68697 ?Tq68697 ?hkq68697 ?hdq68697 ?huq68697 ?hCq68697 ?hlq68697 ?_; (case Bq68697 => k_asm); (case Fq68697 => k_asm); (case Xq68697 => k_asm); (case Nq68697 => k_asm); (case Tq68697 => k_asm); (case hkq68697 => first | exact rfl | assumption); (case hCq68697 => k_extra "m mine chain"); (case hlq68697 => exact Nat.le_of_ble_eq_true rfl); (case hdq68697 => (k_extra "m mine room")); (case huq68697 => (k_extra "m mine room")); k_whole); (try dsimp only); intro d9 o9 h9 tk9 F9 N9 D9 l9; (have L9 := l9); k_lt l9; k_dflt ((have Dc9 := D9); (obtain ⟨lo9, hc9, kv9, hd9, hf9⟩ := Dc9)))))
  k_with "m callWith ref" => ((fail_if_success (k_extra "off s125")); ((k_here; (with_reducible show wpAny _ _ (callWith _ (Value.ref 134) _ _ _) _ _ _); k_dflt (refine' callWith_K ?k1q62466 ?k2q62466 ?_; (case k1q62466 => k_asm); (case k2q62466 => k_is); k_whole))))
  k_with "m mine ds" => ((fail_if_success (k_extra "off s125")); (first | with_reducible assumption | exact ⟨by with_reducible assumption, DC.nil, [], by with_reducible assumption, by ((with_reducible rename PyProof.V.FlatPairs PyData.str [] [] => hfl); exact hfl)⟩ | exact ⟨by with_reducible assumption, dc_a, _, by with_reducible assumption, by ((with_reducible rename PyProof.V.FlatPairs PyData.str (strPairs _) _ => hfl); exact hfl)⟩ | exact ⟨by with_reducible assumption, dc_ba, _, by with_reducible assumption, by ((with_reducible rename PyProof.V.FlatPairs PyData.str (strPairs _) _ => hfl); exact hfl)⟩))
  k_with "m mine chain" => ((fail_if_success (k_extra "off s125")); (exact Chain.cons (by k_extra "m mine fa") (by k_mem) (by k_extra "m mine ds") .nil))
  k_with "m compareOp Eq ref ref" => ((fail_if_success (k_extra "off s125")); ((k_here; (with_reducible show wpAny _ _ (compareOp _ (Value.ref _) (Value.ref _)) _ _ _); k_dflt (refine' ds_eq ?y1q32707 ?y2q32707 ?y3q32707 ?y4q32707 ?y5q32707 ?y6q32707 ?y7q32707 ?_; (case y1q32707 => k_asm); (case y2q32707 => k_mem); (case y3q32707 => k_mem); (case y4q32707 => k_extra "m mine ds"); (case y5q32707 => k_extra "m mine ds"); (case y6q32707 => first | exact all_ba _ | exact rfl); (case y7q32707 => k_extra "m mine room"); k_whole))))
  exact trivial
theorem all_ba (f : Addr) : allV [(f, kdpPut (kdpPut ([] : List (Str × Int)) "b" 1) "a" (kdpLook [(("a" : Str), (5 : Int))] "a" 2))] = [(("b" : Str), (1 : Int)), ("a", 5)] := by
  show kdpUpd (allV []) (kdpPut (kdpPut ([] : List (Str × Int)) "b" 1) "a" (kdpLook [(("a" : Str), (5 : Int))] "a" 2)) = _
  decide
theorem bnd_b (f : Addr) : (!bndV "b" [(f, ([] : List (Str × Int)))]) = true := rfl
theorem fr_back {g g' h : Heap} {L : Addr} {m : Str → Option Value} (T : KtsTurn [] g g') (F : Fr g' L h m) : Fr g L h m := ⟨F.ns, fun b o e => F.keep b o (T.other b o e (by simp)), T.size ▸ F.above⟩
theorem law_end {cl : Str → Option Addr} {mean : ExcName → Option Value} {ns : List Int} {s₁ s' : Shared} {L : Addr} {m : Str → Option Value} (F : Fr s₁.heap L s'.heap m) (hg : s'.gens = #[]) (hos : s'.os = s₁.os) :
    GoodW PySem.Challenge.rw_on0180_01.row.claim cl mean [ofPy (PyData.list (List.map PyData.int ns))] s₁ (.ok (.ret (.bool true))) s' := by
  refine goodW_bool F hg (raisesW_false ?_) ?_ hos
  · wrow_none_raised
  · wrow_post
theorem no_b : kdpHas ([] : List (Str × Int)) "b" = false := rfl
theorem no_a : kdpHas (kdpPut ([] : List (Str × Int)) "b" 1) "a" = false := by decide
theorem nm_a : Nm "a" := .inl rfl
theorem nm_b : Nm "b" := .inr (.inl rfl)
theorem dc_a : DC [(("a" : Str), (5 : Int))] := by refine ⟨fun q hq => ?_, by decide⟩; rw [List.mem_singleton.mp hq]; exact .inl rfl
theorem dc_ba : DC [(("b" : Str), (1 : Int)), ("a", 5)] := by
  refine ⟨fun q hq => ?_, by decide⟩
  simp only [List.mem_cons, List.not_mem_nil, or_false] at hq
  rcases hq with rfl | rfl
  · exact .inr (.inl rfl)
  · exact .inl rfl
set_option maxHeartbeats 40000000 in
theorem law_go : PySem.Challenge.rw_on0180_01.Holds := hd (by
  k_go0
  (all_goals try k_fold)
  rename World => w0
  have hRL : recursionLimit = 1000 := rfl
  have hCL : cLine = 9900 := rfl
  show wpAny _ (ktrTop 302 7 (some []) _ _ _ _ _ _ []) _ _ _ _
  k_steps
  refine Stay.mk ?_
  rename_i FLa h7 l12 BLa h6 l11 Dp h5 l10 h4 h3 h2 ok1 dk1 h1 ok2 F1 N1 dk2 F2 N2 h0 tk0 t1 u1 v1 aR aF aN aK
  have N3 := law_led aN
  refine iter_L (n := (1 + r9).toNat) (fun i g nw => g = _ ∧ ∃ so fo bo R recs, nw = ledL _ ok2 _ ok1 d9 FLa BLa so (tabObj #[]) (tabObj #[]) fo bo R ∧ Inv w0 d9 FLa BLa so (tabObj #[]) (tabObj #[]) fo bo R recs ∧ (_, ok2) ∈ R ∧ (_, ok1) ∈ R ∧ recs.length = i) rfl (by passes_own) aF N3 aR (by omega) (by omega)
    ⟨rfl, o9, _, _, _, [], rfl, inv_start hS9 (by refine ⟨?_, ?_, ?_, ?_, ?_⟩ <;> omega) (by refine ⟨?_, ?_, ?_, ?_, ?_⟩ <;> omega) (by refine ⟨?_, ?_, ?_, ?_, ?_, ?_, ?_, ?_, ?_⟩ <;> omega), .head _, .tail _ (.head _), rfl⟩ ?_ ?_
  · intro I i g u nw it h tk t low hi hit hJ F N ho
    obtain ⟨hg, so, fo, bo, R, recs, hnw, W, m2, m1, hlen⟩ := hJ
    subst hg hnw
    have N8 := N
    dsimp only [ledL, led] at N8
    have apI := (ledL_apart ho).1
    k_steps
    exact REnd.intro F9 N9 hI9 ⟨⟨_, one_agree⟩, rfl, _, _, _, _, _, rfl, W9, m29, m19, by rw [List.length_append, hlen]; rfl⟩
  · intro g u nw h tk hJ F N
    obtain ⟨hg, so, fo, bo, R, recs, hnw, W, m2, m1, hlen⟩ := hJ
    subst hg hnw
    have hS := W.S
    have hR0 := W.R0
    have N8 := N
    dsimp only [ledL, led] at N8
    clear N
    k_steps
    refine Stay.mk ?_
    rename_i F8 N7 h0' tk0' t2 u2 v2 aR2 aF2 aN2 aK2
    have W8 := W.src hS9
    have hc2 : ∀ es ep, ok2.data ≠ .dict es ep := fun es ep e => by rw [dk2] at e; cases e
    have hc1 : ∀ es ep, ok1.data ≠ .dict es ep := fun es ep e => by rw [dk1] at e; cases e
    refine iter_L (n := (3 + r9).toNat) (fun i g nw => ∃ so t1 t2 fo bo R recs, Turned w0 _ _ _ _ _ _ _ _ _ g ∧ nw = ledL _ ok2 _ ok1 d9 FLa BLa so t1 t2 fo bo R ∧ Inv w0 d9 FLa BLa so t1 t2 fo bo R recs ∧ (_, ok2) ∈ R ∧ (_, ok1) ∈ R ∧ 1 ≤ recs.length ∧ recs.length ≤ 6) rfl (by passes_own) aF2 (show News _ _ _ (ledL _ ok2 _ ok1 d9 FLa BLa _ _ _ _ _ _) from aN2) aR2 (by omega) (by omega)
      ⟨_, _, _, _, _, _, _, ⟨KtsTurn.refl, by assumption, by assumption, by assumption, fun b hb => absurd hb (by simp)⟩, rfl, W8, m2, m1, by omega, by omega⟩ ?_ ?_
    · clear W W8 m2 m1 hlen hS hR0 N8 F8 N7 aF2 aN2 aR2 aK2 F
      intro I i g u nw it h tk t low hi hit hJ F N ho
      obtain ⟨so, t1, t2, fo, bo, R, recs, KT, hnw, W, m2, m1, h1l, h6l⟩ := hJ
      subst hnw
      obtain ⟨KT0, KB0, KX0, KP0, KD0⟩ := KT
      have hS := W.S
      have hR0 := W.R0
      obtain ⟨A, n, hfo, hA⟩ := W.F
      subst hfo
      have hsz : A.size = recs.length := by rw [hA]; simp
      have hz1 : A.size ≤ sizeLine := by rw [sizeLine_eq]; omega
      have N8 := N
      dsimp only [ledL, led] at N8
      clear N
      obtain ⟨apI, hRI⟩ := ledL_apart ho
      have apJ := apI
      obtain ⟨ai1, ai2, ai3, ai4, ai5, ai6, ai7⟩ := apJ
      k_steps
      refine Stay.mk ?_
      refine mid_join (w := w0) (by k_asm) (by assumption) (by assumption) (by k_asm) ?_ ?_
      · have hp8 := WayS.mk 9
        by_cases hlt : recs.length < 6
        · k_steps
          · exact ⟨rfl, _, _, _, _, _, _, _, _, _, _, ⟨KtsTurn.refl, KB0, KX0, KP0, KD0⟩, rfl, F9, N9, W9, by simp, by rw [List.length_append]; show recs.length + 1 ≤ 6; omega, m29, m19, hI9⟩
          · exact ⟨rfl, _, _, _, _, _, _, _, _, _, _, ⟨KT, KB, KX, KP, KD⟩, rfl, F9, N9, W9, a19, a29, m29, m19, hI9⟩
        · k_steps
          exact ⟨rfl, _, _, _, _, _, _, _, _, _, _, ⟨KT, KB, KX, KP, KD⟩, rfl, F9, N9, W9, a19, a29, m29, m19, hI9⟩
      · clear N8 hR0 hS W m2 m1 hA hsz hz1
        intro g3 so3 t13 t23 fo3 bo3 R3 recs3 h3 tk3 KT3 F3 N3 W3 b1 b6 m23 m13 hI3
        obtain ⟨KT4, KB4, KX4, KP4, KD4⟩ := KT3
        obtain ⟨A3, n3, hfo3, hA3⟩ := W3.F
        subst hfo3
        have hsz3 : A3.size = recs3.length := by rw [hA3]; simp
        have hz3 : A3.size ≤ sizeLine := by rw [sizeLine_eq]; omega
        have N8 := N3
        dsimp only [ledL, led] at N8
        have hp8 := WayS.mk 8
        k_steps
        refine Stay.mk ?_
        rename IsRange _ _ _ _ _ _ _ _ => aR
        rename Fr _ _ _ _ => aF
        rename News _ _ _ _ => aN
        refine CompNo.same (n := recs3.length) (fun i g nw => ∃ t2' R', Turned w0 _ _ _ _ _ _ _ _ g3 g ∧ nw = (I, it) :: ledL _ ok2 _ ok1 d9 FLa BLa so3 t13 t2' (listOf A3 n3) bo3 R' ∧ Inv w0 d9 FLa BLa so3 t13 t2' (listOf A3 n3) bo3 R' recs3 ∧ (_, ok2) ∈ R' ∧ (_, ok1) ∈ R' ∧ ∀ q ∈ ledL _ ok2 _ ok1 d9 FLa BLa so3 t13 t2' (listOf A3 n3) bo3 R', q.1 ≠ I) rfl aF aN aR (by omega) (by omega)
          ⟨t23, R3, ⟨KtsTurn.refl, KB4, KX4, KP4, KD4⟩, rfl, W3, m23, m13, hI3⟩ ?_ ?_
        · intro i8 I8 oI8 C8 oC8 D8 g8 nw8 mm8 h8 tk8 t8 E8 hi8 hit8 hJ8 hC8 hm8 F8 N7 off8 ne8
          obtain ⟨t28, R8, KT5, hnw8, W8, m28, m18, hI8⟩ := hJ8
          subst hnw8
          obtain ⟨KT5, KB5, KX5, KP5, KD5⟩ := KT5
          have N8 := N7
          dsimp only [ledL, led] at N8
          k_steps
          exact NoEnd.intro F9 N9 off9 ⟨rfl, _, _, Turned.trans KT5 KT9, rfl, W9, m29, m19, hI9⟩
        · intro g8 nw8 D8 h8 tk8 hJ8 F8 N7 off8
          obtain ⟨t28, R8, KT5, hnw8, W8, m28, m18, hI8⟩ := hJ8
          subst hnw8
          have N8 := N7
          dsimp only [ledL, led] at N8
          k_steps
          refine REnd.intro (by k_asm) (by k_extra "m mine led") hI8 ⟨⟨_, one_agree⟩, so3, t13, t28, _, bo3, R8, recs3, Turned.trans (KT0.trans KT4) KT5, rfl, W8, m28, m18, b1, b6⟩
    · intro g u nw h tk hJ F N
      obtain ⟨so, t1, t2, fo, bo, R, recs, KT, hnw, W, m2, m1, h1l, h6l⟩ := hJ
      subst hnw
      obtain ⟨KT0, KB0, KX0, KP0, KD0⟩ := KT
      have hp8 := WayS.mk 8
      have hp9 := WayS.mk 9
      obtain ⟨ps1, hp1, -⟩ := W.T1
      obtain ⟨ps2, hp2, -⟩ := W.T2
      subst hp1 hp2
      have N8 := news_of (l' := [((194 : Addr), tabObj ps2), ((187 : Addr), tabObj ps1)]) N (fun q hq => by simp only [ledL, led, List.mem_cons, List.not_mem_nil, or_false] at hq ⊢; rcases hq with h | h <;> simp [h])
      clear N W m2 m1
      have hdp : 302 + 600 < recursionLimit := by decide
      have hun : 7 + 9000 < cLine := by decide
      k_steps
      rw [bnd_b]
      exact law_end (fr_back KT0 F9) (by assumption) rfl)
end
theorem row127 : True := by
  k_with "off s125" => skip
  exact trivial

end Mine
theorem PySem.Challenge.cw_on0180_01_holds : PySem.Challenge.rw_on0180_01.Holds :=
  Mine.law_go
