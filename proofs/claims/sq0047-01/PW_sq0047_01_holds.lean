import PyProof.Rows.All
import Wide.All
import OpenK.AllK
import Wide.FinOn
import PySem.Challenge.RW_sq0047_01
open PySem PySem.W PySem.Spec PySem.Calls PyProof.Rows
set_option Elab.async false
namespace Mine
set_option maxRecDepth 100000 in
set_option maxHeartbeats 0 in
open_top hd for PySem.Challenge.rw_sq0047_01
abbrev Led := List (Addr × Obj)
abbrev prg : Program := PySem.Challenge.rw_sq0047_01.row.prog

/-- what a call of the def (or class) at f gives: it makes tl, changes nothing else; Pre is asked of the heap at the call -/
def Tell (w : World) (f : Addr) (args : List Value) (news : Led) (Pre : Heap → Prop) (dd uu : Nat) (Post : Value → Led → Prop) : Prop :=
  ∀ (p : Program) (loose : List Str) (mean : ExcName → Option Value) (mg mb : Str → Option Value) (dp un : Nat) (gd : Option (List Code)) (cn : Str) (cs : Scope) (a : Addr) (ccd : Value) (cl : List (Str × Addr)) (outer : List Env) (A₀ : Around) (base h₀ : Heap) (L : Addr) (m : Str → Option Value) (s : Shared) (Q E : Value → Shared → Prop),
    Below A₀ base outer h₀ → Fr h₀ L s.heap m → (hd.heap_39 w.params).In h₀ → News h₀ L s.heap news → Top p loose mean mg mb h₀ → cs.kind = .function → dp + dd < recursionLimit → un + uu < cLine → Pre s.heap →
    (∀ r tl h' tk', Fr h₀ L h' m → News h₀ L h' (tl ++ news) → (∀ q ∈ news, ∀ p ∈ tl, @Ne Nat q.1 p.1) → Post r tl → Q r { s with heap := h', toks := tk' }) →
    wpAny (model prg w) (ktrTop dp un gd cn cs L a ccd cl outer) (call (.ref f) args) Q E s

section
variable {w : World} {f : Addr} {args : List Value} {news : Led} {Pre : Heap → Prop} {dd uu : Nat} {p : Program} {loose : List Str} {mean : ExcName → Option Value} {mg mb : Str → Option Value} {dp un : Nat} {gd : Option (List Code)} {cn : Str} {cs : Scope} {a : Addr} {ccd : Value} {cl : List (Str × Addr)} {outer : List Env} {A₀ : Around} {base h₀ : Heap} {L : Addr} {m : Str → Option Value} {s : Shared} {Q E : Value → Shared → Prop}
theorem Tell.use {Post : Value → Led → Prop} (H : Tell w f args news Pre dd uu Post) (B : Below A₀ base outer h₀) (F : Fr h₀ L s.heap m) (X : (hd.heap_39 w.params).In h₀) (N : News h₀ L s.heap news) (T : Top p loose mean mg mb h₀) (hk : cs.kind = .function) (hd : dp + dd < recursionLimit) (hu : un + uu < cLine) (hp : Pre s.heap)
    (ret : ∀ r tl h' tk', Fr h₀ L h' m → News h₀ L h' (tl ++ news) → (∀ q ∈ news, ∀ p ∈ tl, @Ne Nat q.1 p.1) → Post r tl → Q r { s with heap := h', toks := tk' }) :
    wpAny (model prg w) (ktrTop dp un gd cn cs L a ccd cl outer) (call (.ref f) args) Q E s := H _ _ _ _ _ _ _ _ _ _ _ _ _ _ _ _ _ _ _ _ _ _ B F X N T hk hd hu hp ret
/-- the same where nothing is made that counts -/
theorem Tell.useI {Post : Value → Prop} (H : Tell w f args news Pre dd uu (fun r tl => tl = [] ∧ Post r)) (B : Below A₀ base outer h₀) (F : Fr h₀ L s.heap m) (X : (hd.heap_39 w.params).In h₀) (N : News h₀ L s.heap news) (T : Top p loose mean mg mb h₀) (hk : cs.kind = .function) (hd : dp + dd < recursionLimit) (hu : un + uu < cLine) (hp : Pre s.heap)
    (ret : ∀ r h' tk', Fr h₀ L h' m → News h₀ L h' news → Post r → Q r { s with heap := h', toks := tk' }) :
    wpAny (model prg w) (ktrTop dp un gd cn cs L a ccd cl outer) (call (.ref f) args) Q E s := H.use B F X N T hk hd hu hp fun r tl h' tk' F' N' _ e => by
  obtain ⟨e, hP⟩ := e
  subst e
  exact ret r h' tk' F' N' hP
end

def roundI (n b : Int) : Int := if n < 0 then -(Int.fdiv (b - 2 * n) (2 * b)) else Int.fdiv (2 * n + b) (2 * b)
def badI (e t : Int) : Int := if e = 0 then 0 else if t ≤ 0 then 10000 else if 1290 < Int.fdiv (e * 297) t then 10000 else Int.fdiv (Int.fdiv (e * 297) t * Int.fdiv (e * 297) t * Int.fdiv (e * 297) t + 131072) 262144

abbrev ent (w : World) (name : String) (t : Tok) (v : Value) : DictEntry := ⟨PyData.keyHash w.params (Str.ofString name), .str (Str.ofString name) t, v⟩
abbrev tupObj (vs : List Value) : Obj := { cls := .type "tuple", data := .seq vs.toArray }

section
variable {h₀ H g H' : Heap} {L L' : Addr} {m' : Str → Option Value} {adr : List Addr} {news tl : Led}
/-- behind a call: what the caller's ledger held stands, apart from what was made -/
theorem frame_back (G : GSub H g adr) (N : News h₀ L H news) (ha : ∀ p ∈ news, p.1 ∉ adr) (F' : Fr g L' H' m') (N' : News g L' H' tl) (kN : News h₀ L H' tl) :
    News h₀ L H' (tl ++ news) ∧ ∀ q ∈ news, ∀ p ∈ tl, @Ne Nat q.1 p.1 := by
  have inG : ∀ q ∈ news, g.get? q.1 = some q.2 := fun q hq => G _ _ (N q hq).1 (ha q hq)
  refine ⟨fun p hp => ?_, fun q hq p hp e => ?_⟩
  · rcases List.mem_append.mp hp with hp | hp
    · exact kN p hp
    · exact ⟨F'.keep _ _ (inG p hp), (N p hp).2⟩
  · have h1 := inG q hq
    have h2 := (N' p hp).2.2
    rw [e, h2] at h1
    cases h1
theorem frame_none (N : News h₀ L H news) : ∀ p ∈ news, p.1 ∉ ([] : List Addr) := fun _ _ h => nomatch h
theorem frame_two {x d : Addr} (l1 : ∀ p ∈ news, p.1 < d) (l2 : d < x) : ∀ p ∈ news, p.1 ∉ [x, d] := by
  intro p hp hm
  have := l1 p hp
  rcases List.mem_cons.mp hm with e | hm
  · exact Nat.lt_irrefl _ (e ▸ Nat.lt_trans this l2)
  · exact Nat.lt_irrefl _ ((List.mem_singleton.mp hm) ▸ this)
theorem led_two {a b : Addr × Obj} (N : News h₀ L H (a :: b :: news)) : News h₀ L H [a, b] := fun p hp => N p (by
  rcases List.mem_cons.mp hp with rfl | hp
  · exact .head _
  · rw [List.mem_singleton.mp hp]; exact .tail _ (.head _))
theorem led_tail {a : Addr × Obj} (N : News h₀ L H (a :: news)) : News h₀ L H news := fun p hp => N p (.tail _ hp)
theorem led_rest2 {a b : Addr × Obj} (N : News h₀ L H (a :: b :: news)) : News h₀ L H news := fun p hp => N p (.tail _ (.tail _ hp))
end

theorem ite_bt {b : Bool} {x y : Prop} (e : b = true) (h : x) : if b = true then x else y := by rw [if_pos e]; exact h
theorem ite_bf {b : Bool} {x y : Prop} (e : b = false) (h : y) : if b = true then x else y := by rw [if_neg (by rw [e]; decide)]; exact h
-- quick lines: names and closed tests by the kernel's own evaluation
local macro_rules | `(tactic| walk_at "ite") => `(tactic| (k_closed; first | (refine' ite_bt ?e ?_; (case e => kernel_rfl!)) | (refine' ite_bf ?e ?_; (case e => kernel_rfl!))))
local macro_rules | `(tactic| walk_at "eval Name") => `(tactic| ((with_reducible rename Fr _ _ _ _ => kF); k_dflt (refine' name_K kF ?k1 ?k2 ?k3 ?_ ?k4 ?k5 ?k6; (case k4 => kernel_rfl!); (case k5 => kernel_rfl!); (case k6 => kernel_rfl!); (case k1 => k_asm); (case k2 => k_asm); (case k3 => k_is))))
local macro_rules | `(tactic| walk_at "eval Name") => `(tactic| ((with_reducible rename Fr _ _ _ _ => kF); k_dflt (refine' ld kF ?k2 ?_ ?k4 ?k5 ?k6; (case k5 => kernel_rfl!); (case k4 => kernel_rfl!); (case k6 => kernel_rfl!); (case k2 => exact rfl))))
-- the way into a def (an empty ledger: all that stands lies in the ground),
local macro_rules | `(tactic| tb_start) => `(tactic| (refine wpAny_call ?_; k_dflt (refine' code_defG ?k1 ?k2 ?k3 ?k4 ?k5 ?kA ?kF ?kK ?k6 ?k7 ?k8 ?k9 ?kB ?_ ?c2 ?c3 ?c4 ?c5; (case kA => exact rfl); (case kF => exact rfl); (case kK => first | exact rfl | assumption); (case k1 => k_asm); (case k2 => k_asm); (case k3 => k_asm); (case k4 => exact News.nil); (case k5 => k_asm); (case k6 => k_is); (case k7 => k_is); (case k8 => ((try simp only [depth_under_make, depth_in1, depth_deeper]); (try dsimp only [ktrTop]); omega)); (case k9 => first | exact BindsTo.of_eq rfl | exact binds_K (by k_in) rfl (by k_is) rfl rfl rfl); (case c5 => decide); (case kB => exact locs rfl); (case c2 => exact rfl); (case c3 => exact rfl); (case c4 => exact rfl); k_whole; intro g' L' h' FG' F' N' B' X' T' kG'; (try dsimp only); (try k_fold))))
-- the way into a class's __init__ (the ledger: the object made and its dict)
local macro_rules | `(tactic| tb_rel) => `(tactic| (k_dflt (refine' code_defG ?k1 ?k2 ?k3 ?k4 ?k5 ?kA ?kF ?kK ?k6 ?k7 ?k8 ?k9 ?kB ?_ ?c2 ?c3 ?c4 ?c5; (case kA => exact rfl); (case kF => exact rfl); (case kK => first | exact rfl | assumption); (case k1 => k_asm); (case k2 => k_asm); (case k3 => k_asm); (case k4 => k_asm); (case k5 => k_asm); (case k6 => k_is); (case k7 => k_is); (case k8 => ((try simp only [depth_under_make, depth_in1, depth_deeper]); (try dsimp only [ktrTop]); omega)); (case k9 => first | exact BindsTo.of_eq rfl | exact binds_K (by k_in) rfl (by k_is) rfl rfl rfl); (case c5 => decide); (case kB => exact locs rfl); (case c2 => exact rfl); (case c3 => exact rfl); (case c4 => exact rfl); k_whole; intro g' L' h' FG' F' N' B' X' T' kG'; (try dsimp only); (try k_fold))))
-- the sides of a contract's use
local macro_rules | `(tactic| ktn_open) => `(tactic| ((case k1 => k_asm); (case k2 => k_asm); (case k3 => k_asm); (case k4 => k_asm); (case k5 => k_asm); (case k6 => first | exact rfl | assumption); (case k7 => ((try simp only [depth_under_make, depth_in1, depth_deeper]); (try dsimp only [ktrTop]); omega)); (case k8 => ((try simp only [units_under_make, units_in1, units_deeper, Around.mark_units]); (try dsimp only [ktrTop]); omega))))
-- a pure def's end: the value is the goal left
local macro_rules | `(tactic| tb_iter) => `(tactic| (rename Fr _ _ _ _ => zF; rename News _ _ _ _ => zN; rename GSub _ _ _ => zG))

set_option maxRecDepth 100000 in
set_option maxHeartbeats 8000000 in
theorem rounded_tell (w : World) (n b : Int) (t u : Tok) (news : Led) (hb : 0 < b) (hb2 : b < 2 ^ 20) :
    Tell w 105 [.int n t, .int b u] news (fun _ => True) 1 8 (fun r tl => tl = [] ∧ ∃ t, r = .int (roundI n b) t) := by
  w_top off
  intro p loose mean mg mb dp un gd cn cs a ccd cl outer A₀ base h₀ L m s Q E B F X N T hk hd hu _ hret
  tb_start
  k_steps
  all_goals (
    rename GSub _ _ _ => zG
    rename Fr h₀ L _ m => kF
    have z := frame_back (tl := []) zG N (frame_none N) (by assumption) (by assumption) (by assumption)
    refine hret _ [] _ _ kF z.1 z.2 ⟨rfl, ktn_int ?_⟩
    unfold roundI)
  · rw [if_pos (by assumption)]
  · rw [if_neg (by assumption)]

set_option maxRecDepth 100000 in
set_option maxHeartbeats 8000000 in
theorem check_whole_tell (w : World) (n : Int) (t : Tok) (news : Led) :
    Tell w 84 [.int n t] news (fun _ => True) 1 8 (fun r tl => tl = [] ∧ r = .int n t) := by
  intro p loose mean mg mb dp un gd cn cs a ccd cl outer A₀ base h₀ L m s Q E B F X N T hk hd hu _ hret
  tb_start
  k_steps
  all_goals (
    rename GSub _ _ _ => zG
    rename Fr h₀ L _ m => kF
    have z := frame_back (tl := []) zG N (frame_none N) (by assumption) (by assumption) (by assumption)
    exact hret _ [] _ _ kF z.1 z.2 ⟨rfl, rfl⟩)
local macro_rules | `(tactic| walk_at "call ref") => `(tactic| ((with_reducible show wpAny _ _ (call (Value.ref 84) _) _ _ _); k_dflt (refine' Tell.useI (check_whole_tell _ _ _ _) ?k1 ?k2 ?k3 ?k4 ?k5 ?k6 ?k7 ?k8 True.intro ?_; ktn_open; intro r9 h9 tk9 F9 N9 e9; subst e9; (try dsimp only); (try k_fold))))

set_option maxRecDepth 100000 in
set_option maxHeartbeats 8000000 in
theorem is_whole_tell (w : World) (n lo hi : Int) (t u v : Tok) (news : Led) (h : lo ≤ n ∧ n ≤ hi) :
    Tell w 77 [.int n t, .int lo u, .int hi v] news (fun _ => True) 1 8 (fun r tl => tl = [] ∧ r = .bool true) := by
  obtain ⟨h1, h2⟩ := h
  intro p loose mean mg mb dp un gd cn cs a ccd cl outer A₀ base h₀ L m s Q E B F X N T hk hd hu _ hret
  tb_start
  k_steps
  all_goals (
    rename GSub _ _ _ => zG
    rename Fr h₀ L _ m => kF
    have z := frame_back (tl := []) zG N (frame_none N) (by assumption) (by assumption) (by assumption)
    exact hret _ [] _ _ kF z.1 z.2 ⟨rfl, by rw [decide_eq_true h2]⟩)
local macro_rules | `(tactic| walk_at "call ref") => `(tactic| ((with_reducible show wpAny _ _ (call (Value.ref 77) _) _ _ _); k_dflt (refine' Tell.useI (is_whole_tell _ _ _ _ _ _ _ _ ?kp) ?k1 ?k2 ?k3 ?k4 ?k5 ?k6 ?k7 ?k8 True.intro ?_; (case kp => omega); ktn_open; intro r9 h9 tk9 F9 N9 e9; subst e9; (try dsimp only); (try k_fold))))

set_option maxRecDepth 100000 in
set_option maxHeartbeats 8000000 in
theorem check_dimen_tell (w : World) (n : Int) (t : Tok) (news : Led) (h : -1073741823 ≤ n ∧ n ≤ 1073741823) :
    Tell w 98 [.int n t] news (fun _ => True) 2 16 (fun r tl => tl = [] ∧ r = .int n t) := by
  obtain ⟨h1, h2⟩ := h
  intro p loose mean mg mb dp un gd cn cs a ccd cl outer A₀ base h₀ L m s Q E B F X N T hk hd hu _ hret
  tb_start
  k_steps
  all_goals (
    rename GSub _ _ _ => zG
    rename Fr h₀ L _ m => kF
    have z := frame_back (tl := []) zG N (frame_none N) (by assumption) (by assumption) (by assumption)
    exact hret _ [] _ _ kF z.1 z.2 ⟨rfl, rfl⟩)
local macro_rules | `(tactic| walk_at "call ref") => `(tactic| ((with_reducible show wpAny _ _ (call (Value.ref 98) _) _ _ _); k_dflt (refine' Tell.useI (check_dimen_tell _ _ _ _ ?kp) ?k1 ?k2 ?k3 ?k4 ?k5 ?k6 ?k7 ?k8 True.intro ?_; (case kp => omega); ktn_open; intro r9 h9 tk9 F9 N9 e9; subst e9; (try dsimp only); (try k_fold))))

set_option maxRecDepth 100000 in
set_option maxHeartbeats 8000000 in
theorem check_number_tell (w : World) (n : Int) (t : Tok) (news : Led) (h : -2147483647 ≤ n ∧ n ≤ 2147483647) :
    Tell w 91 [.int n t] news (fun _ => True) 2 16 (fun r tl => tl = [] ∧ r = .int n t) := by
  obtain ⟨h1, h2⟩ := h
  intro p loose mean mg mb dp un gd cn cs a ccd cl outer A₀ base h₀ L m s Q E B F X N T hk hd hu _ hret
  tb_start
  k_steps
  all_goals (
    rename GSub _ _ _ => zG
    rename Fr h₀ L _ m => kF
    have z := frame_back (tl := []) zG N (frame_none N) (by assumption) (by assumption) (by assumption)
    exact hret _ [] _ _ kF z.1 z.2 ⟨rfl, rfl⟩)
local macro_rules | `(tactic| walk_at "call ref") => `(tactic| ((with_reducible show wpAny _ _ (call (Value.ref 91) _) _ _ _); k_dflt (refine' Tell.useI (check_number_tell _ _ _ _ ?kp) ?k1 ?k2 ?k3 ?k4 ?k5 ?k6 ?k7 ?k8 True.intro ?_; (case kp => omega); ktn_open; intro r9 h9 tk9 F9 N9 e9; subst e9; (try dsimp only); (try k_fold))))

set_option maxRecDepth 100000 in
set_option maxHeartbeats 8000000 in
theorem badness_tell (w : World) (e tt : Int) (t u : Tok) (news : Led) (h : 0 ≤ e ∧ e < 20000) (h' : 0 ≤ tt ∧ tt < 20000) :
    Tell w 140 [.int e t, .int tt u] news (fun _ => True) 1 8 (fun r tl => tl = [] ∧ ∃ t, r = .int (badI e tt) t) := by
  obtain ⟨h1, h2⟩ := h
  obtain ⟨h3, h4⟩ := h'
  intro p loose mean mg mb dp un gd cn cs a ccd cl outer A₀ base h₀ L m s Q E B F X N T hk hd hu _ hret
  tb_start
  k_steps
  all_goals (
    rename GSub _ _ _ => zG
    rename Fr h₀ L _ m => kF
    have z := frame_back (tl := []) zG N (frame_none N) (by assumption) (by assumption) (by assumption)
    refine hret _ [] _ _ kF z.1 z.2 ⟨rfl, ktn_int ?_⟩
    unfold badI)
  · rw [if_pos (by assumption)]
  · rw [if_neg (by assumption), if_pos (by assumption)]
  · rw [if_neg (by assumption), if_neg (by assumption), if_pos (by assumption)]
  · rw [if_neg (by assumption), if_neg (by assumption), if_neg (by assumption)]

local macro_rules | `(tactic| walk_at "call ref") => `(tactic| ((with_reducible show wpAny _ _ (call (Value.ref 105) _) _ _ _); k_dflt (refine' Tell.useI (rounded_tell _ _ _ _ _ _ ?kp ?kq) ?k1 ?k2 ?k3 ?k4 ?k5 ?k6 ?k7 ?k8 True.intro ?_; (case kp => omega); (case kq => omega); ktn_open; intro r9 h9 tk9 F9 N9 e9; (obtain ⟨t9, e9⟩ := e9); subst e9; (try dsimp only); (try k_fold))))
local macro_rules | `(tactic| walk_at "call ref") => `(tactic| ((with_reducible show wpAny _ _ (call (Value.ref 140) _) _ _ _); k_dflt (refine' Tell.useI (badness_tell _ _ _ _ _ _ ?kp ?kq) ?k1 ?k2 ?k3 ?k4 ?k5 ?k6 ?k7 ?k8 True.intro ?_; (case kp => omega); (case kq => omega); ktn_open; intro r9 h9 tk9 F9 N9 e9; (obtain ⟨t9, e9⟩ := e9); subst e9; (try dsimp only); (try k_fold))))

set_option maxRecDepth 100000 in
set_option maxHeartbeats 8000000 in
theorem kern_tell (w : World) (n : Int) (t u : Tok) (news : Led) (h : -1073741823 ≤ n ∧ n ≤ 1073741823) :
    Tell w 368 [.int n t, .int 1 u] news (fun _ => True) 4 40 (fun r tl => ∃ x dx t1 t2, r = .ref x ∧ tl = [(x, instObj 368 dx), (dx, dictOf [ent w "width" t1 (.int n t), ent w "sort" t2 (.int 1 u)] 2)]) := by
  obtain ⟨h1, h2⟩ := h
  intro p loose mean mg mb dp un gd cn cs a ccd cl outer A₀ base h₀ L m s Q E B F X N T hk hd hu _ hret
  k_dflt (refine' call_cls ?k1 ?k2 ?k3 ?k4 ?k5 ?k6 ?_; (case k1 => k_asm); (case k2 => k_asm); (case k3 => k_asm); (case k4 => k_is); (case k5 => k_is); (case k6 => k_is))
  intro x dx h1 F1 N1 l1 l2
  replace l2 := ltN l2
  have N2 := led_rest2 N1
  have N0 := led_two N1
  tb_rel
  k_steps
  rename GSub _ _ _ => zG
  rename Fr h₀ L _ m => kF
  rename News h₀ L _ _ => kN
  revert kF kN
  rename Fr _ _ _ _ => zF
  rename News _ _ _ _ => zN
  intro kF kN
  have z := frame_back zG N2 (frame_two l1 l2) zF zN kN
  exact hret _ _ _ _ kF z.1 z.2 ⟨_, _, _, _, rfl, rfl⟩

set_option maxRecDepth 100000 in
set_option maxHeartbeats 8000000 in
theorem glue_tell (w : World) (wd st so sh sho : Int) (t1 t2 t3 t4 t5 : Tok) (news : Led) (h1 : -1073741823 ≤ wd ∧ wd ≤ 1073741823) (h2 : 0 ≤ st ∧ st ≤ 1073741823) (h3 : 0 ≤ so ∧ so ≤ 3) (h4 : 0 ≤ sh ∧ sh ≤ 1073741823) (h5 : 0 ≤ sho ∧ sho ≤ 3) :
    Tell w 222 [.int wd t1, .int st t2, .int so t3, .int sh t4, .int sho t5] news (fun _ => True) 4 40 (fun r tl => ∃ x dx u1 u2 u3 u4 u5 v3 v5 so' sho', r = .ref x ∧ so' = (if st = 0 then 0 else so) ∧ sho' = (if sh = 0 then 0 else sho) ∧ tl = [(x, instObj 222 dx), (dx, dictOf [ent w "width" u1 (.int wd t1), ent w "stretch" u2 (.int st t2), ent w "stretch_order" u3 (.int so' v3), ent w "shrink" u4 (.int sh t4), ent w "shrink_order" u5 (.int sho' v5)] 5)]) := by
  obtain ⟨h1a, h1b⟩ := h1
  obtain ⟨h2a, h2b⟩ := h2
  obtain ⟨h3a, h3b⟩ := h3
  obtain ⟨h4a, h4b⟩ := h4
  obtain ⟨h5a, h5b⟩ := h5
  intro p loose mean mg mb dp un gd cn cs a ccd cl outer A₀ base h₀ L m s Q E B F X N T hk hd hu _ hret
  k_dflt (refine' call_cls ?k1 ?k2 ?k3 ?k4 ?k5 ?k6 ?_; (case k1 => k_asm); (case k2 => k_asm); (case k3 => k_asm); (case k4 => k_is); (case k5 => k_is); (case k6 => k_is))
  intro x dx h1 F1 N1 l1 l2
  replace l2 := ltN l2
  have N2 := led_rest2 N1
  have N0 := led_two N1
  tb_rel
  k_steps
  all_goals (
    rename GSub _ _ _ => zG
    rename Fr h₀ L _ m => kF
    rename News h₀ L _ _ => kN
    revert kF kN
    rename Fr _ _ _ _ => zF
    rename News _ _ _ _ => zN
    intro kF kN
    have z := frame_back zG N2 (frame_two l1 l2) zF zN kN
    exact hret _ _ _ _ kF z.1 z.2 ⟨_, _, _, _, _, _, _, _, _, _, _, rfl, by first | rw [if_pos (by assumption)] | rw [if_neg (by assumption)], by first | rw [if_pos (by assumption)] | rw [if_neg (by assumption)], rfl⟩)

set_option maxRecDepth 100000 in
set_option maxHeartbeats 8000000 in
theorem skip_tell (w : World) (g : Addr) (u : Tok) (news : Led) :
    Tell w 390 [.ref g, .int 0 u] news (fun _ => True) 4 40 (fun r tl => ∃ x dx t1 t2 t3, r = .ref x ∧ tl = [(x, instObj 390 dx), (dx, dictOf [ent w "glue" t1 (.ref g), ent w "sort" t2 (.int 0 u), ent w "leader" t3 .none] 3)]) := by
  w_top off
  intro p loose mean mg mb dp un gd cn cs a ccd cl outer A₀ base h₀ L m s Q E B F X N T hk hd hu _ hret
  k_dflt (refine' call_cls ?k1 ?k2 ?k3 ?k4 ?k5 ?k6 ?_; (case k1 => k_asm); (case k2 => k_asm); (case k3 => k_asm); (case k4 => k_is); (case k5 => k_is); (case k6 => k_is))
  intro x dx h1 F1 N1 l1 l2
  replace l2 := ltN l2
  have N2 := led_rest2 N1
  have N0 := led_two N1
  tb_rel
  k_steps
  rename GSub _ _ _ => zG
  rename Fr h₀ L _ m => kF
  rename News h₀ L _ _ => kN
  revert kF kN
  rename Fr _ _ _ _ => zF
  rename News _ _ _ _ => zN
  intro kF kN
  have z := frame_back zG N2 (frame_two l1 l2) zF zN kN
  exact hret _ _ _ _ kF z.1 z.2 ⟨_, _, _, _, _, rfl, rfl⟩

set_option maxRecDepth 100000 in
set_option maxHeartbeats 8000000 in
theorem box_tell (w : World) (wd ht dt : Int) (t0 t1 t2 t3 : Tok) (its : Addr) (news : Led) (h1 : -1073741823 ≤ wd ∧ wd ≤ 1073741823) (h2 : -1073741823 ≤ ht ∧ ht ≤ 1073741823) (h3 : -1073741823 ≤ dt ∧ dt ≤ 1073741823) :
    Tell w 326 [.int 2 t0, .int wd t1, .int ht t2, .int dt t3, .ref its] news (fun _ => True) 4 40 (fun r tl => ∃ x dx q u1 u2 u3 u4 u5 u6 u7 u8 u9 v6 v7 v8 v9 v10, r = .ref x ∧ dx < x ∧ x < q ∧ tl = [(q, tupObj [.int 0 v9, .int 1 v10]), (x, instObj 326 dx), (dx, dictOf [ent w "kind" u1 (.int 2 t0), ent w "width" u2 (.int wd t1), ent w "height" u3 (.int ht t2), ent w "depth" u4 (.int dt t3), ent w "items" u5 (.ref its), ent w "shift" u6 (.int 0 v6), ent w "sign" u7 (.int 0 v7), ent w "order" u8 (.int 0 v8), ent w "ratio" u9 (.ref q)] 9)]) := by
  obtain ⟨h1a, h1b⟩ := h1
  obtain ⟨h2a, h2b⟩ := h2
  obtain ⟨h3a, h3b⟩ := h3
  intro p loose mean mg mb dp un gd cn cs a ccd cl outer A₀ base h₀ L m s Q E B F X N T hk hd hu _ hret
  k_dflt (refine' call_cls ?k1 ?k2 ?k3 ?k4 ?k5 ?k6 ?_; (case k1 => k_asm); (case k2 => k_asm); (case k3 => k_asm); (case k4 => k_is); (case k5 => k_is); (case k6 => k_is))
  intro x dx h1 F1 N1 l1 l2
  replace l2 := ltN l2
  have N2 := led_rest2 N1
  have N0 := led_two N1
  tb_rel
  k_steps
  rename GSub _ _ _ => zG
  rename Fr h₀ L _ m => kF
  rename News h₀ L _ _ => kN
  revert kF kN
  rename Fr _ _ _ _ => zF
  rename News _ _ _ _ => zN
  intro kF kN
  have z := frame_back zG N2 (frame_two l1 l2) zF zN kN
  refine hret _ _ _ _ kF z.1 z.2 ⟨_, _, _, _, _, _, _, _, _, _, _, _, _, _, _, _, _, rfl, l2, ltN (by omega), rfl⟩

set_option maxRecDepth 100000 in
set_option maxHeartbeats 8000000 in
theorem rule_tell (w : World) (wd ht : Int) (t1 t2 : Tok) (news : Led) (h1 : -1073741823 ≤ wd ∧ wd ≤ 1073741823) (h2 : -1073741823 ≤ ht ∧ ht ≤ 1073741823) :
    Tell w 347 [.int wd t1, .int ht t2, .none] news (fun _ => True) 4 40 (fun r tl => ∃ x dx u1 u2 u3, r = .ref x ∧ tl = [(x, instObj 347 dx), (dx, dictOf [ent w "width" u1 (.int wd t1), ent w "height" u2 (.int ht t2), ent w "depth" u3 .none] 3)]) := by
  obtain ⟨h1a, h1b⟩ := h1
  obtain ⟨h2a, h2b⟩ := h2
  intro p loose mean mg mb dp un gd cn cs a ccd cl outer A₀ base h₀ L m s Q E B F X N T hk hd hu _ hret
  k_dflt (refine' call_cls ?k1 ?k2 ?k3 ?k4 ?k5 ?k6 ?_; (case k1 => k_asm); (case k2 => k_asm); (case k3 => k_asm); (case k4 => k_is); (case k5 => k_is); (case k6 => k_is))
  intro x dx h1 F1 N1 l1 l2
  replace l2 := ltN l2
  have N2 := led_rest2 N1
  have N0 := led_two N1
  tb_rel
  k_steps
  rename GSub _ _ _ => zG
  rename Fr h₀ L _ m => kF
  rename News h₀ L _ _ => kN
  revert kF kN
  rename Fr _ _ _ _ => zF
  rename News _ _ _ _ => zN
  intro kF kN
  have z := frame_back zG N2 (frame_two l1 l2) zF (led_tail zN) (led_tail kN)
  exact hret _ _ _ _ kF z.1 z.2 ⟨_, _, _, _, _, rfl, rfl⟩

set_option maxRecDepth 100000 in
set_option maxHeartbeats 8000000 in
theorem penalty_tell (w : World) (v : Int) (t : Tok) (news : Led) (h : -2147483647 ≤ v ∧ v ≤ 2147483647) :
    Tell w 411 [.int v t] news (fun _ => True) 4 40 (fun r tl => ∃ x dx u1, r = .ref x ∧ tl = [(x, instObj 411 dx), (dx, dictOf [ent w "value" u1 (.int v t)] 1)]) := by
  obtain ⟨h1, h2⟩ := h
  intro p loose mean mg mb dp un gd cn cs a ccd cl outer A₀ base h₀ L m s Q E B F X N T hk hd hu _ hret
  k_dflt (refine' call_cls ?k1 ?k2 ?k3 ?k4 ?k5 ?k6 ?_; (case k1 => k_asm); (case k2 => k_asm); (case k3 => k_asm); (case k4 => k_is); (case k5 => k_is); (case k6 => k_is))
  intro x dx h1 F1 N1 l1 l2
  replace l2 := ltN l2
  have N2 := led_rest2 N1
  have N0 := led_two N1
  tb_rel
  k_steps
  rename GSub _ _ _ => zG
  rename Fr h₀ L _ m => kF
  rename News h₀ L _ _ => kN
  revert kF kN
  rename Fr _ _ _ _ => zF
  rename News _ _ _ _ => zN
  intro kF kN
  have z := frame_back zG N2 (frame_two l1 l2) zF zN kN
  exact hret _ _ _ _ kF z.1 z.2 ⟨_, _, _, rfl, rfl⟩

inductive Nd where
  | glue (w st so sh sho : Int)
  | box (w h d s : Int)
  | rule (w h : Int)
  | kern (w : Int)
  | pen (v : Int)
def Nd.wd : Nd → Int
  | .glue w _ _ _ _ => w
  | .box w _ _ _ => w
  | .rule w _ => w
  | .kern w => w
  | .pen _ => 0
def Nd.lh : Nd → Int
  | .box _ h _ s => h - s
  | .rule _ h => h
  | _ => 0
def Nd.ld : Nd → Int
  | .box _ _ d s => d + s
  | _ => 0

/-- the heap bears the node at v -/
inductive NodeIn (w : World) (h : Heap) : Value → Nd → Prop where
  | glue {x dx g dg : Addr} {t1 t2 t3 u u1 u2 u3 u4 u5 v1 v2 v3 v4 v5 : Tok} {wd st so sh sho : Int} :
      h.get? x = some (instObj 390 dx) → h.get? dx = some (dictOf [ent w "glue" t1 (.ref g), ent w "sort" t2 (.int 0 u), ent w "leader" t3 .none] 3) → h.get? g = some (instObj 222 dg) →
      h.get? dg = some (dictOf [ent w "width" u1 (.int wd v1), ent w "stretch" u2 (.int st v2), ent w "stretch_order" u3 (.int so v3), ent w "shrink" u4 (.int sh v4), ent w "shrink_order" u5 (.int sho v5)] 5) →
      NodeIn w h (.ref x) (.glue wd st so sh sho)
  | box {x dx its q : Addr} {u1 u2 u3 u4 u5 u6 u7 u8 u9 v1 v2 v3 v4 v6 v7 v8 : Tok} {wd ht dt sf : Int} :
      h.get? x = some (instObj 326 dx) → h.get? dx = some (dictOf [ent w "kind" u1 (.int 2 v1), ent w "width" u2 (.int wd v2), ent w "height" u3 (.int ht v3), ent w "depth" u4 (.int dt v4), ent w "items" u5 (.ref its), ent w "shift" u6 (.int sf v6), ent w "sign" u7 (.int 0 v7), ent w "order" u8 (.int 0 v8), ent w "ratio" u9 (.ref q)] 9) →
      NodeIn w h (.ref x) (.box wd ht dt sf)
  | rule {x dx : Addr} {u1 u2 u3 v1 v2 : Tok} {wd ht : Int} :
      h.get? x = some (instObj 347 dx) → h.get? dx = some (dictOf [ent w "width" u1 (.int wd v1), ent w "height" u2 (.int ht v2), ent w "depth" u3 .none] 3) →
      NodeIn w h (.ref x) (.rule wd ht)
  | kern {x dx : Addr} {u1 u2 v1 v2 : Tok} {wd : Int} :
      h.get? x = some (instObj 368 dx) → h.get? dx = some (dictOf [ent w "width" u1 (.int wd v1), ent w "sort" u2 (.int 1 v2)] 2) →
      NodeIn w h (.ref x) (.kern wd)
  | pen {x dx : Addr} {u1 v1 : Tok} {v : Int} :
      h.get? x = some (instObj 411 dx) → h.get? dx = some (dictOf [ent w "value" u1 (.int v v1)] 1) →
      NodeIn w h (.ref x) (.pen v)
theorem NodeIn.mono {w : World} {h h' : Heap} {v : Value} {nd : Nd} (k : ∀ b o, h.get? b = some o → h'.get? b = some o) (n : NodeIn w h v nd) : NodeIn w h' v nd := by
  cases n with
  | glue a b c d => exact .glue (k _ _ a) (k _ _ b) (k _ _ c) (k _ _ d)
  | box a b => exact .box (k _ _ a) (k _ _ b)
  | rule a b => exact .rule (k _ _ a) (k _ _ b)
  | kern a b => exact .kern (k _ _ a) (k _ _ b)
  | pen a b => exact .pen (k _ _ a) (k _ _ b)
theorem gsub_nil {h g : Heap} (G : GSub h g []) : ∀ b o, h.get? b = some o → g.get? b = some o := fun b o e => G b o e (fun h => nomatch h)
theorem inst_base {h₀ h : Heap} {L x C dx : Addr} {m : Str → Option Value} {od : Obj} {sl : Array (Option Value)} (F : Fr h₀ L h m) (h1 : h₀.get? x = some ⟨.ref C, some dx, .plain, sl⟩) (h2 : h₀.get? dx = some od) :
    InstAt h x ⟨.ref C, some dx, .plain, sl⟩ C (some od) := ⟨F.keep _ _ h1, rfl, rfl, F.keep _ _ h2⟩
local macro_rules | `(tactic| k_room) => `(tactic| ((try simp only [depth_under_make, depth_in1, depth_deeper]); (try dsimp only [ktrTop]); omega))
theorem inst_base2 {h₁ h₀ h : Heap} {L L₁ x C dx : Addr} {m m₁ : Str → Option Value} {od : Obj} {sl : Array (Option Value)} (F : Fr h₀ L h m) (G : Fr h₁ L₁ h₀ m₁) (h1 : h₁.get? x = some ⟨.ref C, some dx, .plain, sl⟩) (h2 : h₁.get? dx = some od) :
    InstAt h x ⟨.ref C, some dx, .plain, sl⟩ C (some od) := inst_base F (G.keep _ _ h1) (G.keep _ _ h2)
-- objects that lie in the ground
local macro_rules | `(tactic| k_inst) => `(tactic| (refine' inst_base2 ?F ?G ?h1 ?h2; (case F => k_asm); (case G => k_asm); (case h1 => assumption); (case h2 => assumption)))
local macro_rules | `(tactic| k_inst) => `(tactic| (refine' inst_base ?F ?h1 ?h2; (case F => k_asm); (case h1 => assumption); (case h2 => assumption)))

set_option maxRecDepth 100000 in
set_option maxHeartbeats 8000000 in
theorem width_tell (w : World) (v : Value) (nd : Nd) (news : Led) :
    Tell w 420 [v] news (fun h => NodeIn w h v nd) 1 16 (fun r tl => tl = [] ∧ ∃ t, r = .int nd.wd t) := by
  w_top off
  intro p loose mean mg mb dp un gd cn cs a ccd cl outer A₀ base h₀ L m s Q E B F X N T hk hd hu hp hret
  tb_start
  rename GSub _ _ _ => zG
  have hn := hp.mono (gsub_nil zG)
  cases hn
  all_goals k_steps
  all_goals (
    rename Fr h₀ L _ m => kF
    rename News h₀ L _ _ => kN
    revert kF kN
    rename Fr _ _ _ _ => zF
    rename News _ _ _ _ => zN
    intro kF kN
    have z := frame_back zG N (frame_none N) zF zN kN
    exact hret _ [] _ _ kF z.1 z.2 ⟨rfl, _, rfl⟩)

set_option maxRecDepth 100000 in
set_option maxHeartbeats 8000000 in
theorem lheight_tell (w : World) (v : Value) (nd : Nd) (news : Led) :
    Tell w 437 [v] news (fun h => NodeIn w h v nd) 2 16 (fun r tl => tl = [] ∧ ∃ t, r = .int nd.lh t) := by
  intro p loose mean mg mb dp un gd cn cs a ccd cl outer A₀ base h₀ L m s Q E B F X N T hk hd hu hp hret
  tb_start
  rename GSub _ _ _ => zG
  have hn := hp.mono (gsub_nil zG)
  cases hn
  all_goals k_steps
  all_goals (
    rename Fr h₀ L _ m => kF
    rename News h₀ L _ _ => kN
    revert kF kN
    rename Fr _ _ _ _ => zF
    rename News _ _ _ _ => zN
    intro kF kN
    have z := frame_back zG N (frame_none N) zF zN kN
    exact hret _ [] _ _ kF z.1 z.2 ⟨rfl, _, rfl⟩)

set_option maxRecDepth 100000 in
set_option maxHeartbeats 8000000 in
theorem ldepth_tell (w : World) (v : Value) (nd : Nd) (news : Led) :
    Tell w 444 [v] news (fun h => NodeIn w h v nd) 2 16 (fun r tl => tl = [] ∧ ∃ t, r = .int nd.ld t) := by
  intro p loose mean mg mb dp un gd cn cs a ccd cl outer A₀ base h₀ L m s Q E B F X N T hk hd hu hp hret
  tb_start
  rename GSub _ _ _ => zG
  have hn := hp.mono (gsub_nil zG)
  cases hn
  all_goals k_steps
  all_goals (
    rename Fr h₀ L _ m => kF
    rename News h₀ L _ _ => kN
    revert kF kN
    rename Fr _ _ _ _ => zF
    rename News _ _ _ _ => zN
    intro kF kN
    have z := frame_back zG N (frame_none N) zF zN kN
    exact hret _ [] _ _ kF z.1 z.2 ⟨rfl, _, rfl⟩)


section
variable {prog : Program} {w : World} {A : Around} {E : Value → Shared → Prop} {s : Shared} {env : Env} {h₀ : Heap} {x : Str} {body : List Stmt} {Q : Flow → Shared → Prop}

/-- a turn's end: the iterator stands, the rest is as J says -/
def LpEnd (h₀ : Heap) (L : Addr) (J : (Str → Option Value) → Led → Prop) (I : Addr) (oI : Obj) (s₁ s₂ : Shared) : Prop :=
  ∃ h' tk m' nx, s₂ = { s₁ with heap := h', toks := tk } ∧ Fr h₀ L h' m' ∧ News h₀ L h' ((I, oI) :: nx) ∧ (∀ p ∈ nx, @Ne Nat p.1 I) ∧ J m' nx
def LpPost (h₀ : Heap) (L : Addr) (J : (Str → Option Value) → Led → Prop) (I : Addr) (oI : Obj) (s₁ : Shared) (Q : Flow → Shared → Prop) (f : Flow) (s₂ : Shared) : Prop :=
  match f with
  | .ret v => Q (.ret v) s₂
  | .brk => Q .next s₂
  | _ => LpEnd h₀ L J I oI s₁ s₂
theorem loop_list {l : Addr} {vs : List Value} {m₀ : Str → Option Value} {news : Led} (J : Nat → (Str → Option Value) → Led → Prop)
    (hh : A.handled = none) (hl : h₀.IsList l vs.toArray) (F : Fr h₀ env.locals s.heap m₀) (N : News h₀ env.locals s.heap news) (hj : J 0 m₀ news)
    (turn : ∀ i v m₁ nx h tk I oI, vs[i]? = some v → (∀ p ∈ nx, @Ne Nat p.1 I) → J i m₁ nx → Fr h₀ env.locals h (fun y => if y = x then some v else m₁ y) → News h₀ env.locals h ((I, oI) :: nx) →
      wpAny (model prog w) A (execs body env) (LpPost h₀ env.locals (J (i + 1)) I oI { s with heap := h, toks := tk } Q) E { s with heap := h, toks := tk })
    (done : ∀ m₁ nx h tk, J vs.length m₁ nx → Fr h₀ env.locals h m₁ → News h₀ env.locals h nx → Q .next { s with heap := h, toks := tk }) :
    wpAny (model prog w) A (pyIter (.ref l)) (fun it s₂ => LoopAtV prog w A h₀ env x body Q E it s₂) E s := by
  have hls : s.heap.IsList l vs.toArray := hl.at fun o e => F.keep l o e
  obtain ⟨ol, hol, _⟩ := id hl
  have hlt : l < h₀.objs.size := Heap.lt_size hol
  have hne : l ≠ s.heap.objs.size := Nat.ne_of_lt (Nat.lt_trans (Nat.lt_of_lt_of_le hlt F.above) F.ns.lt)
  have hnew : h₀.get? s.heap.objs.size = none := next_is_new F
  refine wpAny_pyIter_list hls ?_
  have W := Walks.list (prog := prog) (w := w) hh s.heap.objs.size l hne vs.toArray
  rw [List.size_toArray] at W
  refine ⟨_, _, _, vs.length, _, _, m₀, news, J, rfl, W, ?_, ?_, ?_, ⟨⟨_, Heap.get?_push_size _ rfl, rfl, rfl⟩, hls.at fun o e => Heap.get?_push_of_some _ e⟩, F.push _, (fun p hp => ⟨Heap.get?_push_of_some _ (N p hp).1, (N p hp).2⟩), hj, ?_, ?_⟩
  · intro hm
    rcases List.mem_cons.mp hm with e | hm
    · exact absurd F.ns.lt (e ▸ Nat.lt_irrefl _)
    · exact absurd (Nat.lt_of_lt_of_le hlt F.above) ((List.mem_singleton.mp hm) ▸ Nat.lt_irrefl _)
  · intro b hb
    rw [List.mem_singleton.mp hb]
    exact hnew
  · intro p hp hI
    exact absurd (Heap.lt_size (N p hp).1) ((List.mem_singleton.mp hI) ▸ Nat.lt_irrefl _)
  · rintro i v m₁ news₁ s₁ own ⟨hh', tk', rfl⟩ hin hP hJ hoff hown hget hmem hst F₁ N₁
    obtain ⟨⟨oi, hoi, _⟩, _⟩ := hst
    have hI : (s.heap.objs.size, oi) ∈ own := hmem _ (.head _) hnew oi hoi
    have hv : vs[i]? = some v := by simpa using hP
    have N₂ : News h₀ env.locals hh' ((s.heap.objs.size, oi) :: news₁) := fun p hp => by
      rcases List.mem_cons.mp hp with rfl | hp
      · exact N₁ _ (List.mem_append_left _ hI)
      · exact N₁ _ (List.mem_append_right _ hp)
    refine wpAny_mono (turn i v m₁ news₁ hh' tk' s.heap.objs.size oi hv (fun p hp e => hoff p hp (List.mem_singleton.mpr e)) hJ F₁ N₂) (fun f s₂ p => ?_) fun _ _ e => e
    have fin : LpEnd h₀ env.locals (J (i + 1)) s.heap.objs.size oi { s with heap := hh', toks := tk' } s₂ → LoopStepU h₀ env.locals [s.heap.objs.size] own (J (i + 1)) { s with heap := hh', toks := tk' } .next s₂ := by
      rintro ⟨h', tk, m', nx, e, F', N', ha, hm⟩
      refine ⟨rfl, h', tk, m', nx, e, F', fun p hp => ?_, fun p hp hq => ha p hp (List.mem_singleton.mp hq), hm⟩
      rcases List.mem_append.mp hp with hp | hp
      · have hf := hown p hp
        rcases List.mem_cons.mp hf with e1 | e1
        · have h2 := hget p hp
          rw [e1, hoi] at h2
          have e2 : p = (s.heap.objs.size, oi) := Prod.ext e1 (Option.some.inj h2).symm
          rw [e2]; exact N' _ (.head _)
        · have e2 := List.mem_singleton.mp e1
          have h3 := (N₁ p (List.mem_append_left _ hp)).2.2
          rw [e2, hol] at h3
          cases h3
      · exact N' _ (.tail _ hp)
    cases f with
    | ret v => exact .ret p
    | brk => exact .brk p
    | next => exact .next (fin p)
    | cont => exact .cont (fin p)
  · rintro h' tk m' news' F' N' _ hJ
    exact done m' news' h' tk hJ F' N'
theorem Fr.know {h : Heap} {L : Addr} {m : Str → Option Value} {x : Str} {v : Value} (F : Fr h₀ L h m) (e : m x = some v) : Fr h₀ L h (fun y => if y = x then some v else m y) := by
  have : (fun y => if y = x then some v else m y) = m := by
    funext y
    by_cases h : y = x
    · rw [if_pos h, h, e]
    · rw [if_neg h]
  rw [this]; exact F
end

/-- the heap bears the nodes nds as a list's items -/
def NodesIn (w : World) (h : Heap) (vs : List Value) (nds : List Nd) : Prop := vs.length = nds.length ∧ ∀ (i : Nat) (v : Value), vs[i]? = some v → ∃ nd, nds[i]? = some nd ∧ NodeIn w h v nd
theorem NodesIn.mono {w : World} {h h' : Heap} {vs : List Value} {nds : List Nd} (k : ∀ b o, h.get? b = some o → h'.get? b = some o) (n : NodesIn w h vs nds) : NodesIn w h' vs nds :=
  ⟨n.1, fun i v e => let ⟨nd, a, b⟩ := n.2 i v e; ⟨nd, a, b.mono k⟩⟩

-- what natural_line reckons
def stO (o : Nat) : Nd → Int
  | .glue _ st so _ _ => if so = (o : Int) then st else 0
  | _ => 0
def shO (o : Nat) : Nd → Int
  | .glue _ _ _ sh sho => if sho = (o : Int) then sh else 0
  | _ => 0
def NdOk : Nd → Prop
  | .glue _ _ so _ sho => 0 ≤ so ∧ so ≤ 3 ∧ 0 ≤ sho ∧ sho ≤ 3
  | _ => True
def sumF (f : Nd → Int) (l : List Nd) : Int := (l.map f).sum
def maxF (f : Nd → Int) (l : List Nd) : Int := l.foldl (fun a n => max a (f n)) 0

-- readers by their contracts
local macro_rules | `(tactic| walk_at "call ref") => `(tactic| ((with_reducible show wpAny _ _ (call (Value.ref 420) _) _ _ _); k_dflt (refine' Tell.useI (width_tell _ _ _ _) ?k1 ?k2 ?k3 ?k4 ?k5 ?k6 ?k7 ?k8 ?kp ?_; (case kp => (refine NodeIn.mono (Fr.keep (by k_asm)) ?_; assumption)); ktn_open; intro r9 h9 tk9 F9 N9 e9; (obtain ⟨t9, e9⟩ := e9); subst e9; (try dsimp only); (try k_fold))))
local macro_rules | `(tactic| walk_at "call ref") => `(tactic| ((with_reducible show wpAny _ _ (call (Value.ref 437) _) _ _ _); k_dflt (refine' Tell.useI (lheight_tell _ _ _ _) ?k1 ?k2 ?k3 ?k4 ?k5 ?k6 ?k7 ?k8 ?kp ?_; (case kp => (refine NodeIn.mono (Fr.keep (by k_asm)) ?_; assumption)); ktn_open; intro r9 h9 tk9 F9 N9 e9; (obtain ⟨t9, e9⟩ := e9); subst e9; (try dsimp only); (try k_fold))))
local macro_rules | `(tactic| walk_at "call ref") => `(tactic| ((with_reducible show wpAny _ _ (call (Value.ref 444) _) _ _ _); k_dflt (refine' Tell.useI (ldepth_tell _ _ _ _) ?k1 ?k2 ?k3 ?k4 ?k5 ?k6 ?k7 ?k8 ?kp ?_; (case kp => (refine NodeIn.mono (Fr.keep (by k_asm)) ?_; assumption)); ktn_open; intro r9 h9 tk9 F9 N9 e9; (obtain ⟨t9, e9⟩ := e9); subst e9; (try dsimp only); (try k_fold))))
-- a loop over a name or an attribute: by loop_list
local macro_rules | `(tactic| walk_at "exec For Name Name cons nil") => `(tactic| (k_here; (rename Fr _ _ _ _ => lF'); (with_unfolding_all refine' For_invVF lF' ?k1 ?k2 ?_; (case k1 => exact rfl); (case k2 => exact rfl); k_whole)))

theorem fun_know {m : Str → Option Value} {x : Str} {v : Value} (e : m x = some v) : m = fun y => if y = x then some v else m y := by
  funext y
  by_cases h : y = x
  · rw [if_pos h, h, e]
  · rw [if_neg h]
/-- what natural_line knows of the nodes l: width, height, depth, stretch and shrink by order -/
def NatV (l : List Nd) (nat hh dd : Int) (sns zns : List Int) : Prop :=
  nat = sumF Nd.wd l ∧ hh = maxF Nd.lh l ∧ dd = maxF Nd.ld l ∧ sns = [sumF (stO 0) l, sumF (stO 1) l, sumF (stO 2) l, sumF (stO 3) l] ∧ zns = [sumF (shO 0) l, sumF (shO 1) l, sumF (shO 2) l, sumF (shO 3) l]
theorem sumF_snoc (f : Nd → Int) (l : List Nd) (nd : Nd) : sumF f (l ++ [nd]) = sumF f l + f nd := by
  unfold sumF; rw [List.map_append, List.sum_append]; simp
theorem maxF_snoc (f : Nd → Int) (l : List Nd) (nd : Nd) : maxF f (l ++ [nd]) = max (maxF f l) (f nd) := by
  unfold maxF; rw [List.foldl_append]; rfl
theorem max_if (a b : Int) : (if b > a then b else a) = max a b := by
  split <;> omega
theorem four_set (a b c d x : Int) {k : Int} (h0 : 0 ≤ k) (h3 : k ≤ 3) :
    [a, b, c, d].set k.toNat ([a, b, c, d].getD k.toNat 0 + x) = [a + (if k = ((0 : Nat) : Int) then x else 0), b + (if k = ((1 : Nat) : Int) then x else 0), c + (if k = ((2 : Nat) : Int) then x else 0), d + (if k = ((3 : Nat) : Int) then x else 0)] := by
  have : k = 0 ∨ k = 1 ∨ k = 2 ∨ k = 3 := by omega
  rcases this with rfl | rfl | rfl | rfl <;> simp
theorem natV_glue {l : List Nd} {nat hh dd : Int} {sns zns : List Int} {wd st so sh sho : Int} (V : NatV l nat hh dd sns zns) (n1 : 0 ≤ so) (n2 : so ≤ 3) (n3 : 0 ≤ sho) (n4 : sho ≤ 3) :
    NatV (l ++ [.glue wd st so sh sho]) (nat + wd) (if (Nd.glue wd st so sh sho).lh > hh then (Nd.glue wd st so sh sho).lh else hh) (if (Nd.glue wd st so sh sho).ld > dd then (Nd.glue wd st so sh sho).ld else dd) (sns.set so.toNat (sns.getD so.toNat 0 + st)) (zns.set sho.toNat (zns.getD sho.toNat 0 + sh)) := by
  obtain ⟨rfl, rfl, rfl, rfl, rfl⟩ := V
  refine ⟨?_, ?_, ?_, ?_, ?_⟩
  · rw [sumF_snoc]; rfl
  · rw [maxF_snoc, max_if]
  · rw [maxF_snoc, max_if]
  · rw [four_set _ _ _ _ _ n1 n2, sumF_snoc, sumF_snoc, sumF_snoc, sumF_snoc]; rfl
  · rw [four_set _ _ _ _ _ n3 n4, sumF_snoc, sumF_snoc, sumF_snoc, sumF_snoc]; rfl
theorem natV_other {l : List Nd} {nat hh dd : Int} {sns zns : List Int} {nd : Nd} (V : NatV l nat hh dd sns zns) (hg : ∀ o, stO o nd = 0 ∧ shO o nd = 0) :
    NatV (l ++ [nd]) (nat + nd.wd) (if nd.lh > hh then nd.lh else hh) (if nd.ld > dd then nd.ld else dd) sns zns := by
  obtain ⟨rfl, rfl, rfl, rfl, rfl⟩ := V
  refine ⟨?_, ?_, ?_, ?_, ?_⟩
  · rw [sumF_snoc]
  · rw [maxF_snoc, max_if]
  · rw [maxF_snoc, max_if]
  · simp only [sumF_snoc, (hg _).1, Int.add_zero]
  · simp only [sumF_snoc, (hg _).2, Int.add_zero]
theorem take_snoc {nds : List Nd} {i : Nat} {nd : Nd} (h : nds[i]? = some nd) : nds.take (i + 1) = nds.take i ++ [nd] := by
  rw [List.take_add_one, h]; rfl
theorem off_four {a b c d : Addr × Obj} {I : Addr} (o1 : @Ne Nat a.1 I) (o2 : @Ne Nat b.1 I) (o3 : @Ne Nat c.1 I) (o4 : @Ne Nat d.1 I) : ∀ p ∈ [a, b, c, d], @Ne Nat p.1 I := by
  intro p hp
  rcases List.mem_cons.mp hp with rfl | hp
  · exact o1
  · rcases List.mem_cons.mp hp with rfl | hp
    · exact o2
    · rcases List.mem_cons.mp hp with rfl | hp
      · exact o3
      · rw [List.mem_singleton.mp hp]; exact o4
abbrev natLed (w : World) (T dT S Z : Addr) (sv zv : List Value) (ks kz : Nat) (u1 u2 u3 v1 : Tok) (nat : Int) : Led :=
  [(Z, W.listOf (List.toArray zv) kz), (S, W.listOf (List.toArray sv) ks), (T, instObj 285 dT), (dT, dictOf [ent w "natural" u1 (.int nat v1), ent w "stretch" u2 (.ref S), ent w "shrink" u3 (.ref Z)] 3)]
def NatJ (w : World) (nds : List Nd) (T dT S Z : Addr) (i : Nat) (m : Str → Option Value) (nx : Led) : Prop :=
  ∃ sv zv ks kz u1 u2 u3 v1 nat hh dd sns zns th td, nx = natLed w T dT S Z sv zv ks kz u1 u2 u3 v1 nat ∧
    IntsAre sv sns ∧ IntsAre zv zns ∧ m (Str.ofString "totals") = some (.ref T) ∧ m (Str.ofString "height") = some (.int hh th) ∧ m (Str.ofString "depth") = some (.int dd td) ∧ NatV (nds.take i) nat hh dd sns zns

set_option maxRecDepth 100000 in
set_option maxHeartbeats 8000000 in
theorem natural_tell (w : World) (l : Addr) (vs : List Value) (nds : List Nd) (news : Led) (hok : ∀ nd ∈ nds, NdOk nd) :
    Tell w 459 [.ref l] news (fun h => h.IsList l vs.toArray ∧ NodesIn w h vs nds) 10 100 (fun r tl => ∃ R T dT S Z sv zv ks kz u1 u2 u3 v1 nat hh dd sns zns th td, r = .ref R ∧ tl = (R, tupObj [.ref T, .int hh th, .int dd td]) :: natLed w T dT S Z sv zv ks kz u1 u2 u3 v1 nat ∧
      IntsAre sv sns ∧ IntsAre zv zns ∧ NatV nds nat hh dd sns zns) := by
  w_top off
  intro p loose mean mg mb dp un gd cn cs a ccd cl outer A₀ base h₀ L m s Q E B F X N T hk hd hu hp hret
  tb_start
  rename GSub _ _ _ => zG
  have hl := stays_list (gsub_nil zG) hp.1
  have hns := hp.2.mono (gsub_nil zG)
  k_steps
  rename Fr _ _ _ _ => zF
  rename News _ _ _ _ => zN
  refine' loop_list (NatJ w nds _ _ _ _) rfl hl zF (led_tail zN) ⟨_, _, _, _, _, _, _, _, _, _, _, _, _, _, _, rfl, ?_, ?_, rfl, rfl, rfl, ?_⟩ ?_ ?_
  · exact [0, 0, 0, 0]
  · exact [0, 0, 0, 0]
  · exact .cons _ _ (.cons _ _ (.cons _ _ (.cons _ _ .nil)))
  · exact .cons _ _ (.cons _ _ (.cons _ _ (.cons _ _ .nil)))
  · exact ⟨rfl, rfl, rfl, rfl, rfl⟩
  · intro i v m₁ nx h tk I oI hv hoff hJ F₁ N₁
    obtain ⟨sv, zv, ks, kz, u1, u2, u3, v1, nat, hh, dd, sns, zns, th, td, rfl, hS, hZ, e1, e2, e3, hV⟩ := hJ
    rw [fun_know e1, fun_know e2, fun_know e3] at F₁
    have o1 := hoff _ (.head _)
    have o2 := hoff _ (.tail _ (.head _))
    have o3 := hoff _ (.tail _ (.tail _ (.head _)))
    have o4 := hoff _ (.tail _ (.tail _ (.tail _ (.head _))))
    dsimp only at o1 o2 o3 o4
    clear zF zN hoff e1 e2 e3
    obtain ⟨nd, hnd, hN⟩ := hns.2 i v hv
    have hno := hok nd (List.mem_of_getElem? hnd)
    have hNk := hN
    cases hN
    case glue =>
      obtain ⟨n1, n2, n3, n4⟩ := hno
      have hV' := hV
      obtain ⟨e1, e2, e3, e4, e5⟩ := hV'
      rw [e4] at hS
      rw [e5] at hZ
      k_steps
      rename Fr _ _ _ _ => zF
      rename News _ _ _ _ => zN
      refine ⟨_, _, _, _, rfl, zF, zN, off_four o1 o2 o3 o4, ⟨_, _, _, _, _, _, _, _, _, _, _, _, _, _, _, rfl, by assumption, by assumption, rfl, rfl, rfl, ?_⟩⟩
      rw [take_snoc hnd, ← e4, ← e5]
      exact natV_glue hV n1 n2 n3 n4
    all_goals (
      k_steps
      rename Fr _ _ _ _ => zF
      rename News _ _ _ _ => zN
      refine ⟨_, _, _, _, rfl, zF, zN, off_four o1 o2 o3 o4, ⟨_, _, _, _, _, _, _, _, _, _, _, _, _, _, _, rfl, hS, hZ, rfl, rfl, rfl, ?_⟩⟩
      rw [take_snoc hnd]
      exact natV_other hV (fun _ => ⟨rfl, rfl⟩))
  · intro m₁ nx h tk hJ F₁ N₁
    obtain ⟨sv, zv, ks, kz, u1, u2, u3, v1, nat, hh, dd, sns, zns, th, td, rfl, hS, hZ, e1, e2, e3, hV⟩ := hJ
    rw [fun_know e1, fun_know e2, fun_know e3] at F₁
    clear zF zN e1 e2 e3
    rw [hns.1, List.take_length] at hV
    dsimp only
    k_steps
    rename Fr h₀ L _ m => kF
    rename News h₀ L _ _ => kN
    revert kF kN
    rename Fr _ _ _ _ => zF
    rename News _ _ _ _ => zN
    intro kF kN
    have z := frame_back zG N (frame_none N) zF zN kN
    exact hret _ _ _ _ kF z.1 z.2 ⟨_, _, _, _, _, _, _, _, _, _, _, _, _, _, _, _, _, _, _, _, rfl, rfl, hS, hZ, hV⟩

def topI (b c d : Int) : Int := if d ≠ 0 then 3 else if c ≠ 0 then 2 else if b ≠ 0 then 1 else 0
theorem topI_range (b c d : Int) : 0 ≤ topI b c d ∧ topI b c d ≤ 3 := by
  unfold topI; split <;> (try split) <;> (try split) <;> omega

set_option maxRecDepth 100000 in
set_option maxHeartbeats 8000000 in
theorem top_tell (w : World) (l : Addr) (vs : List Value) (a b c d : Int) (news : Led) :
    Tell w 233 [.ref l] news (fun h => h.IsList l vs.toArray ∧ IntsAre vs [a, b, c, d]) 4 40 (fun r tl => tl = [] ∧ ∃ t, r = .int (topI b c d) t) := by
  w_top off
  intro p loose mean mg mb dp un gd cn cs aa ccd cl outer A₀ base h₀ L m s Q E B F X N T hk hd hu hp hret
  tb_start
  rename GSub _ _ _ => zG
  have hl := stays_list (gsub_nil zG) hp.1
  have hi := hp.2
  k_steps
  all_goals (
    rename Fr h₀ L _ m => kF
    revert kF
    rename Fr _ _ _ _ => zF
    intro kF
    have z := frame_back (tl := []) zG N (frame_none N) zF News.nil News.nil
    refine hret _ [] _ _ kF z.1 z.2 ⟨rfl, ktn_int ?_⟩
    unfold topI
    simp_all)
local macro_rules | `(tactic| walk_at "call ref") => `(tactic| ((with_reducible show wpAny _ _ (call (Value.ref 233) _) _ _ _); k_dflt (refine' Tell.useI (top_tell _ _ _ _ _ _ _ _) ?k1 ?k2 ?k3 ?k4 ?k5 ?k6 ?k7 ?k8 ?kp ?_; (case kp => first | exact ⟨stays_list (Fr.keep (by k_asm)) (by assumption), by assumption⟩ | exact ⟨stays_list (Fr.keep (by k_asm)) (stays_list (Fr.keep (by k_asm)) (by assumption)), by assumption⟩); ktn_open; intro r9 h9 tk9 F9 N9 e9; (obtain ⟨t9, e9⟩ := e9); subst e9; (try dsimp only); (try k_fold))))

inductive TotIn (w : World) (h : Heap) : Addr → Int → List Int → List Int → Prop where
  | mk {T dT S Z : Addr} {sv zv : List Value} {u1 u2 u3 v1 : Tok} {nat : Int} {sns zns : List Int} : h.get? T = some (instObj 285 dT) →
      h.get? dT = some (dictOf [ent w "natural" u1 (.int nat v1), ent w "stretch" u2 (.ref S), ent w "shrink" u3 (.ref Z)] 3) → h.IsList S sv.toArray → h.IsList Z zv.toArray → IntsAre sv sns → IntsAre zv zns → TotIn w h T nat sns zns
theorem TotIn.mono {w : World} {h h' : Heap} {T : Addr} {nat : Int} {sns zns : List Int} (k : ∀ b o, h.get? b = some o → h'.get? b = some o) (n : TotIn w h T nat sns zns) : TotIn w h' T nat sns zns := by
  cases n with
  | mk a b c d e f => exact .mk (k _ _ a) (k _ _ b) (stays_list k c) (stays_list k d) e f

theorem four_get {a b c d lo hi : Int} (h0 : lo ≤ 0 ∧ 0 < hi) (ha : lo ≤ a ∧ a < hi) (hb : lo ≤ b ∧ b < hi) (hc : lo ≤ c ∧ c < hi) (hd : lo ≤ d ∧ d < hi) (k : Nat) : lo ≤ [a, b, c, d].getD k 0 ∧ [a, b, c, d].getD k 0 < hi := by
  match k with
  | 0 => exact ha
  | 1 => exact hb
  | 2 => exact hc
  | 3 => exact hd
  | _ + 4 => exact h0

def setG (s0 s1 s2 s3 z0 z1 z2 z3 e : Int) : Int × Int × Int × Int × Int × Int :=
  if e = 0 then (0, 0, 0, 1, 0, 0)
  else if 0 < e then
    if [s0, s1, s2, s3].getD (topI s1 s2 s3).toNat 0 = 0 then (0, 0, 0, 1, if topI s1 s2 s3 = 0 then 1 else 0, if topI s1 s2 s3 = 0 then badI e ([s0, s1, s2, s3].getD (topI s1 s2 s3).toNat 0) else 0)
    else (1, topI s1 s2 s3, e, [s0, s1, s2, s3].getD (topI s1 s2 s3).toNat 0, if topI s1 s2 s3 = 0 then 1 else 0, if topI s1 s2 s3 = 0 then badI e ([s0, s1, s2, s3].getD (topI s1 s2 s3).toNat 0) else 0)
  else if topI z1 z2 z3 = 0 ∧ [z0, z1, z2, z3].getD (topI z1 z2 z3).toNat 0 < -e then
    if [z0, z1, z2, z3].getD (topI z1 z2 z3).toNat 0 = 0 then (0, 0, 0, 1, 3, -e - [z0, z1, z2, z3].getD (topI z1 z2 z3).toNat 0)
    else (2, topI z1 z2 z3, 1, 1, 3, -e - [z0, z1, z2, z3].getD (topI z1 z2 z3).toNat 0)
  else if [z0, z1, z2, z3].getD (topI z1 z2 z3).toNat 0 = 0 then (0, 0, 0, 1, if topI z1 z2 z3 = 0 then 2 else 0, if topI z1 z2 z3 = 0 then badI (-e) ([z0, z1, z2, z3].getD (topI z1 z2 z3).toNat 0) else 0)
  else (2, topI z1 z2 z3, -e, [z0, z1, z2, z3].getD (topI z1 z2 z3).toNat 0, if topI z1 z2 z3 = 0 then 2 else 0, if topI z1 z2 z3 = 0 then badI (-e) ([z0, z1, z2, z3].getD (topI z1 z2 z3).toNat 0) else 0)
theorem abs_if (e : Int) : (if e < 0 then -e else e) = if 0 < e then e else -e := by split <;> split <;> omega

set_option maxRecDepth 100000 in
set_option maxHeartbeats 8000000 in
theorem setglue_tell (w : World) (T : Addr) (nat e s0 s1 s2 s3 z0 z1 z2 z3 : Int) (t : Tok) (news : Led) (he : -20000 < e ∧ e < 20000)
    (hs : (0 ≤ s0 ∧ s0 < 20000) ∧ (0 ≤ s1 ∧ s1 < 20000) ∧ (0 ≤ s2 ∧ s2 < 20000) ∧ (0 ≤ s3 ∧ s3 < 20000)) (hz : (0 ≤ z0 ∧ z0 < 20000) ∧ (0 ≤ z1 ∧ z1 < 20000) ∧ (0 ≤ z2 ∧ z2 < 20000) ∧ (0 ≤ z3 ∧ z3 < 20000)) :
    Tell w 480 [.ref T, .int e t] news (fun h => TotIn w h T nat [s0, s1, s2, s3] [z0, z1, z2, z3]) 8 80 (fun r tl => ∃ R q rp sg od up dn r0 r1 t1 t2 t3 t4 t5 t6, r = .ref R ∧ (R, tupObj [.int sg t1, .int od t2, .ref q, .ref rp]) ∈ tl ∧ (q, tupObj [.int up t3, .int dn t4]) ∈ tl ∧ (rp, tupObj [.int r0 t5, .int r1 t6]) ∈ tl ∧ (sg, od, up, dn, r0, r1) = setG s0 s1 s2 s3 z0 z1 z2 z3 e) := by
  obtain ⟨he1, he2⟩ := he
  intro p loose mean mg mb dp un gd cn cs aa ccd cl outer A₀ base h₀ L m s Q E B F X N T hk hd hu hp hret
  tb_start
  rename GSub _ _ _ => zG
  have hT := hp.mono (gsub_nil zG)
  cases hT
  obtain ⟨q1, q2⟩ := topI_range s1 s2 s3
  obtain ⟨q3, q4⟩ := topI_range z1 z2 z3
  obtain ⟨q5, q6⟩ := four_get ⟨by decide, by decide⟩ hs.1 hs.2.1 hs.2.2.1 hs.2.2.2 (topI s1 s2 s3).toNat
  obtain ⟨q7, q8⟩ := four_get ⟨by decide, by decide⟩ hz.1 hz.2.1 hz.2.2.1 hz.2.2.2 (topI z1 z2 z3).toNat
  clear hs hz
  k_steps
  all_goals (
    rename Fr h₀ L _ m => kF
    rename News h₀ L _ _ => kN
    revert kF kN
    rename Fr _ _ _ _ => zF
    rename News _ _ _ _ => zN
    intro kF kN
    have z := frame_back zG N (frame_none N) zF zN kN
    refine hret _ _ _ _ kF z.1 z.2 ⟨_, _, _, _, _, _, _, _, _, _, _, _, _, _, _, rfl, .head _, by k_mem, by k_mem, ?_⟩
    clear kF kN zF zN z hret
    unfold setG
    generalize [s0, s1, s2, s3].getD (topI s1 s2 s3).toNat 0 = ts at *
    generalize [z0, z1, z2, z3].getD (topI z1 z2 z3).toNat 0 = tz at *
    generalize topI s1 s2 s3 = os at *
    generalize topI z1 z2 z3 = oz at *
    (repeat' split) <;> first | rfl | (exfalso; omega))

theorem upd_app {d : Addr} {o o' : Obj} {tl r r' : Led} (h : ∀ p ∈ tl, p.1 ≠ d) (u : Upd d o o' r r') : Upd d o o' (tl ++ r) (tl ++ r') := by
  induction tl with
  | nil => exact u
  | cons p l ih => exact .tail (h p (.head _)) (ih fun q hq => h q (.tail _ hq))
theorem off_right {news tl : Led} {d : Addr} {o : Obj} (O : ∀ q ∈ news, ∀ p ∈ tl, @Ne Nat q.1 p.1) (hm : (d, o) ∈ tl) : ∀ p ∈ news, p.1 ≠ d := fun p hp => O p hp _ hm
theorem off_left {news tl : Led} {d : Addr} {o : Obj} (O : ∀ q ∈ news, ∀ p ∈ tl, @Ne Nat q.1 p.1) (hm : (d, o) ∈ news) : ∀ p ∈ tl, p.1 ≠ d := fun p hp e => O _ hm p hp e.symm
-- an update behind what a call made
local macro_rules | `(tactic| k_upd) => `(tactic| (refine' upd_app ?a ?b; (case a => (refine' off_left ?zO ?zm; (case zO => assumption); (case zm => k_mem))); (case b => k_upd)))
local macro_rules | `(tactic| k_all) => `(tactic| (refine' off_right ?zO ?zm; (case zO => assumption); (case zm => k_mem)))

local macro_rules | `(tactic| walk_at "call ref") => `(tactic| ((with_reducible show wpAny _ _ (call (Value.ref 459) _) _ _ _); k_dflt (refine' Tell.use (natural_tell _ _ _ _ _ ?ko) ?k1 ?k2 ?k3 ?k4 ?k5 ?k6 ?k7 ?k8 ?kp ?_; (case kp => exact ⟨stays_list (Fr.keep (by k_asm)) (by assumption), NodesIn.mono (Fr.keep (by k_asm)) (by assumption)⟩); (case ko => assumption); ktn_open; intro r9 tl9 h9 tk9 F9 N9 O9 e9; (obtain ⟨R9, T9, dT9, S9, Z9, sv9, zv9, ks9, kz9, u91, u92, u93, v91, nat9, hh9, dd9, sns9, zns9, th9, td9, er9, et9, hS9, hZ9, hV9⟩ := e9); subst er9; subst et9; (obtain ⟨en9, eh9, ed9, es9, ez9⟩ := hV9); (subst en9; subst eh9; subst ed9; subst es9; subst ez9); (simp only [List.cons_append, List.nil_append] at N9); (try dsimp only); (try k_fold))))
local macro_rules | `(tactic| walk_at "call ref") => `(tactic| ((with_reducible show wpAny _ _ (call (Value.ref 326) _) _ _ _); k_dflt (refine' Tell.use (box_tell _ _ _ _ _ _ _ _ _ _ ?kb1 ?kb2 ?kb3) ?k1 ?k2 ?k3 ?k4 ?k5 ?k6 ?k7 ?k8 True.intro ?_; (case kb1 => omega); (case kb2 => omega); (case kb3 => omega); ktn_open; intro r9 tl9 h9 tk9 F9 N9 O9 e9; (obtain ⟨x9, dx9, q9, u91, u92, u93, u94, u95, u96, u97, u98, u99, v96, v97, v98, v99, v90, er9, l91, l92, et9⟩ := e9); subst er9; subst et9; (replace l91 := ltN l91); (replace l92 := ltN l92); (simp only [List.cons_append, List.nil_append] at N9); (try dsimp only); (try k_fold))))
local macro_rules | `(tactic| walk_at "call ref") => `(tactic| ((with_reducible show wpAny _ _ (call (Value.ref 480) _) _ _ _); k_dflt (refine' Tell.use (setglue_tell _ _ _ _ _ _ _ _ _ _ _ _ _ _ ?ke ?ks ?kz) ?k1 ?k2 ?k3 ?k4 ?k5 ?k6 ?k7 ?k8 ?kp ?_; (case kp => exact TotIn.mk (News.get (by k_asm) (by k_mem)) (News.get (by k_asm) (by k_mem)) (News.isList (by k_asm) (by k_mem)) (News.isList (by k_asm) (by k_mem)) (by assumption) (by assumption)); (case ke => omega); (case ks => exact ⟨by omega, by omega, by omega, by omega⟩); (case kz => exact ⟨by omega, by omega, by omega, by omega⟩); ktn_open; intro r9 tl9 h9 tk9 F9 N9 O9 e9; (obtain ⟨R9, q9, rp9, sg9, od9, up9, dn9, r90, r91, t91, t92, t93, t94, t95, t96, er9, m91, m92, m93, hG9⟩ := e9); subst er9; (try dsimp only); (try k_fold))))

-- a list that is not empty, against []
theorem ne_nil {prog : Program} {w : World} {A : Around} {E : Value → Shared → Prop} {s : Shared} {l e : Addr} {items : Array Value} {Q : Value → Shared → Prop} (hl : s.heap.IsList l items) (he : s.heap.IsList e #[]) (hn : items.size ≠ 0) (hu : A.units < cLine) (h : Q (.bool true) s) :
    wpAny (model prog w) A (compareOp .NotEq (.ref l) (.ref e)) Q E s :=
  cmp_ofNotEq (PySem.SeqAt.RcNeAt.lists_lengths hl he (by simpa using hn) hu prog w E Q h)
local macro_rules | `(tactic| walk_at "compareOp NotEq ref ref") => `(tactic| (k_dflt (refine' ne_nil ?h1 ?h2 ?h3 ?h4 ?_; (case h1 => first | exact stays_list (Fr.keep (by k_asm)) (by assumption) | exact stays_list (Fr.keep (by k_asm)) (stays_list (Fr.keep (by k_asm)) (by assumption))); (case h2 => exact News.isList (by k_asm) (by k_mem)); (case h3 => assumption); (case h4 => ((try simp only [units_under_make, units_in1, units_deeper, Around.mark_units]); (try dsimp only [ktrTop]); omega)))))

noncomputable def fnAt (w : World) (f : Addr) : FuncData := match (hd.heap_39 w.params).lookup f with
  | some ⟨_, _, .func fd, _⟩ => fd
  | _ => default
/-- a box that hpack has made, in a ledger -/
inductive BoxM (w : World) (tl : Led) : Addr → Addr → Int → Int → Int → Int → Int → Int → Int → Prop where
  | mk {x dx q its : Addr} {u1 u2 u3 u4 u5 u6 u7 u8 u9 v1 v2 v3 v4 v6 v7 v8 v9 v0 : Tok} {wd ht dt sg od up dn : Int} : (x, instObj 326 dx) ∈ tl →
      (dx, dictOf [ent w "kind" u1 (.int 2 v1), ent w "width" u2 (.int wd v2), ent w "height" u3 (.int ht v3), ent w "depth" u4 (.int dt v4), ent w "items" u5 (.ref its), ent w "shift" u6 (.int 0 v6), ent w "sign" u7 (.int sg v7), ent w "order" u8 (.int od v8), ent w "ratio" u9 (.ref q)] 9) ∈ tl →
      (q, tupObj [.int up v9, .int dn v0]) ∈ tl → BoxM w tl x its wd ht dt sg od up dn

set_option maxRecDepth 100000 in
set_option maxHeartbeats 8000000 in
theorem hpack_any (w : World) (l : Addr) (vs : List Value) (nds : List Nd) (gap : Int) (t1 t2 : Tok) (news : Led) (args : List Value)
    (hb : ∀ s : Shared, (hd.heap_39 w.params).In s.heap → BindsTo s (fnAt w 537) ⟨args, []⟩ [(Str.ofString "items", .ref l), (Str.ofString "mode", .int 1 t1), (Str.ofString "amount", .int gap t2), (Str.ofString "outside", .none)])
    (hne : vs.toArray.size ≠ 0) (hok : ∀ nd ∈ nds, NdOk nd) (hgap : -10000 < gap ∧ gap < 10000)
    (hw : -1000000 < sumF Nd.wd nds ∧ sumF Nd.wd nds < 1000000) (hh : 0 ≤ maxF Nd.lh nds ∧ maxF Nd.lh nds < 1000000) (hd : 0 ≤ maxF Nd.ld nds ∧ maxF Nd.ld nds < 1000000)
    (hs : (0 ≤ sumF (stO 0) nds ∧ sumF (stO 0) nds < 20000) ∧ (0 ≤ sumF (stO 1) nds ∧ sumF (stO 1) nds < 20000) ∧ (0 ≤ sumF (stO 2) nds ∧ sumF (stO 2) nds < 20000) ∧ (0 ≤ sumF (stO 3) nds ∧ sumF (stO 3) nds < 20000))
    (hz : (0 ≤ sumF (shO 0) nds ∧ sumF (shO 0) nds < 20000) ∧ (0 ≤ sumF (shO 1) nds ∧ sumF (shO 1) nds < 20000) ∧ (0 ≤ sumF (shO 2) nds ∧ sumF (shO 2) nds < 20000) ∧ (0 ≤ sumF (shO 3) nds ∧ sumF (shO 3) nds < 20000)) :
    Tell w 537 args news (fun h => h.IsList l vs.toArray ∧ NodesIn w h vs nds) 20 200 (fun r tl => ∃ R x rp sg od up dn r0 r1 t5 t6, r = .ref R ∧ (R, tupObj [.ref x, .ref rp]) ∈ tl ∧ (rp, tupObj [.int r0 t5, .int r1 t6]) ∈ tl ∧
      BoxM w tl x l (sumF Nd.wd nds + gap) (maxF Nd.lh nds) (maxF Nd.ld nds) sg od up dn ∧
      (sg, od, up, dn, r0, r1) = setG (sumF (stO 0) nds) (sumF (stO 1) nds) (sumF (stO 2) nds) (sumF (stO 3) nds) (sumF (shO 0) nds) (sumF (shO 1) nds) (sumF (shO 2) nds) (sumF (shO 3) nds) gap) := by
  obtain ⟨hg1, hg2⟩ := hgap
  obtain ⟨hw1, hw2⟩ := hw
  obtain ⟨hh1, hh2⟩ := hh
  obtain ⟨hd1, hd2⟩ := hd
  obtain ⟨⟨a1, a2⟩, ⟨a3, a4⟩, ⟨a5, a6⟩, a7, a8⟩ := hs
  obtain ⟨⟨b1, b2⟩, ⟨b3, b4⟩, ⟨b5, b6⟩, b7, b8⟩ := hz
  intro p loose mean mg mb dp un gd cn cs aa ccd cl outer A₀ base h₀ L m s Q E B F X N T hk hd hu hp hret
  refine wpAny_call ?_
  k_dflt (refine' code_defG ?k1 ?k2 ?k3 ?k4 ?k5 ?kA ?kF ?kK ?k6 ?k7 ?k8 ?k9 ?kB ?_ ?c2 ?c3 ?c4 ?c5; (case kA => exact rfl); (case kF => exact rfl); (case kK => first | exact rfl | assumption); (case k1 => k_asm); (case k2 => k_asm); (case k3 => k_asm); (case k4 => exact News.nil); (case k5 => k_asm); (case k6 => k_is); (case k7 => k_is); (case k8 => ((try simp only [depth_under_make, depth_in1, depth_deeper]); (try dsimp only [ktrTop]); omega)); (case k9 => exact hb _ (Frag.In.keeps X F.keep)); (case c5 => decide); (case kB => exact locs rfl); (case c2 => exact rfl); (case c3 => exact rfl); (case c4 => exact rfl); k_whole; intro g' L' h' FG' F' N' B' X' T' kG'; (try dsimp only); (try k_fold))
  rename GSub _ _ _ => zG
  have hl := stays_list (gsub_nil zG) hp.1
  have hns := hp.2.mono (gsub_nil zG)
  k_steps
  rename Fr h₀ L _ m => kF
  rename News h₀ L _ _ => kN
  revert kF kN
  rename Fr _ _ _ _ => zF
  rename News _ _ _ _ => zN
  intro kF kN
  have z := frame_back zG N (frame_none N) zF zN kN
  obtain ⟨z1, z2⟩ := z
  refine' hret _ _ _ _ kF z1 z2 ?mm
  refine' ⟨_, _, _, _, _, _, _, _, _, _, _, rfl, .head _, ?m1, ?mb, ?m5⟩
  case m1 =>
    refine' List.mem_cons_of_mem _ (List.mem_cons_of_mem _ (List.mem_append_left _ ?_))
    assumption
  case mb =>
    refine' BoxM.mk (List.mem_cons_of_mem _ (List.mem_cons_of_mem _ (List.mem_append_right _ ?m2))) (List.mem_cons_of_mem _ (List.mem_cons_of_mem _ (List.mem_append_right _ ?m3))) (List.mem_cons_of_mem _ (List.mem_cons_of_mem _ (List.mem_append_left _ ?m4)))
    case m2 => k_mem
    case m3 => k_mem
    case m4 => assumption
  case m5 =>
    rename _ = setG _ _ _ _ _ _ _ _ _ => hG
    rw [show sumF Nd.wd nds + gap - sumF Nd.wd nds = gap by omega] at hG
    exact hG

theorem fnAt_of {w : World} {f : Addr} {fd : FuncData} {oc : Value} {od : Option Addr} {osl : Array (Option Value)} {s : Shared} {args : Args} {binds : List (Str × Value)}
    (h : (hd.heap_39 w.params).lookup f = some ⟨oc, od, .func fd, osl⟩) (hb : BindsTo s fd args binds) : BindsTo s (fnAt w f) args binds := by
  unfold fnAt
  rw [h]
  exact hb
set_option maxRecDepth 100000 in
set_option maxHeartbeats 8000000 in
theorem hpack3_binds (w : World) (l : Addr) (gap : Int) (t1 t2 : Tok) (s : Shared) (X : (hd.heap_39 w.params).In s.heap) :
    BindsTo s (fnAt w 537) ⟨[.ref l, .int 1 t1, .int gap t2], []⟩ [(Str.ofString "items", .ref l), (Str.ofString "mode", .int 1 t1), (Str.ofString "amount", .int gap t2), (Str.ofString "outside", .none)] := by
  refine' fnAt_of ?h ?hb
  case h => k_is
  case hb => exact binds_K X rfl (by k_is) rfl rfl rfl
set_option maxRecDepth 100000 in
set_option maxHeartbeats 8000000 in
theorem hpack1_binds (w : World) (l : Addr) : ∃ t1 t2, ∀ s : Shared, (hd.heap_39 w.params).In s.heap →
    BindsTo s (fnAt w 537) ⟨[.ref l], []⟩ [(Str.ofString "items", .ref l), (Str.ofString "mode", .int 1 t1), (Str.ofString "amount", .int 0 t2), (Str.ofString "outside", .none)] := by
  refine' ⟨831, 944, fun s X => fnAt_of ?h ?hb⟩
  case h => k_is
  case hb => exact binds_K X rfl (by k_is) rfl rfl rfl

def flexI (sg od : Int) : Nd → Int
  | .glue _ st so sh sho => if sg = 1 ∧ so = od then st else if sg = 2 ∧ sho = od then -sh else 0
  | _ => 0
def placeAt (sg od up dn : Int) (nds : List Nd) : Int := sumF Nd.wd nds + roundI (up * sumF (flexI sg od) nds) dn
def placesI (sg od up dn : Int) (nds : List Nd) : List Int := 0 :: (List.range nds.length).map fun i => placeAt sg od up dn (nds.take (i + 1))
/-- the heap bears a box that hpack has made -/
inductive BoxIn (w : World) (h : Heap) : Addr → Addr → Int → Int → Int → Int → Int → Int → Int → Prop where
  | mk {x dx q its : Addr} {u1 u2 u3 u4 u5 u6 u7 u8 u9 v1 v2 v3 v4 v6 v7 v8 v9 v0 : Tok} {wd ht dt sg od up dn : Int} : h.get? x = some (instObj 326 dx) →
      h.get? dx = some (dictOf [ent w "kind" u1 (.int 2 v1), ent w "width" u2 (.int wd v2), ent w "height" u3 (.int ht v3), ent w "depth" u4 (.int dt v4), ent w "items" u5 (.ref its), ent w "shift" u6 (.int 0 v6), ent w "sign" u7 (.int sg v7), ent w "order" u8 (.int od v8), ent w "ratio" u9 (.ref q)] 9) →
      h.get? q = some (tupObj [.int up v9, .int dn v0]) → BoxIn w h x its wd ht dt sg od up dn
theorem BoxIn.mono {w : World} {h h' : Heap} {x its : Addr} {wd ht dt sg od up dn : Int} (k : ∀ b o, h.get? b = some o → h'.get? b = some o) (n : BoxIn w h x its wd ht dt sg od up dn) : BoxIn w h' x its wd ht dt sg od up dn := by
  cases n with
  | mk a b c => exact .mk (k _ _ a) (k _ _ b) (k _ _ c)
theorem BoxM.into {w : World} {tl : Led} {h : Heap} {x its : Addr} {wd ht dt sg od up dn : Int} (n : BoxM w tl x its wd ht dt sg od up dn) (k : ∀ p ∈ tl, h.get? p.1 = some p.2) : BoxIn w h x its wd ht dt sg od up dn := by
  cases n with
  | mk a b c => exact .mk (k _ a) (k _ b) (k _ c)

set_option maxRecDepth 100000 in
set_option maxHeartbeats 8000000 in
theorem flex_tell (w : World) (x its g dg : Addr) (wd ht dt sg od up dn : Int) (u1 u2 u3 u4 u5 v1 v2 v3 v4 v5 : Tok) (wg st so sh sho : Int) (news : Led) :
    Tell w 487 [.ref x, .ref g] news (fun h => BoxIn w h x its wd ht dt sg od up dn ∧ h.get? g = some (instObj 222 dg) ∧
      h.get? dg = some (dictOf [ent w "width" u1 (.int wg v1), ent w "stretch" u2 (.int st v2), ent w "stretch_order" u3 (.int so v3), ent w "shrink" u4 (.int sh v4), ent w "shrink_order" u5 (.int sho v5)] 5)) 1 16
      (fun r tl => tl = [] ∧ ∃ t, r = .int (flexI sg od (.glue wg st so sh sho)) t) := by
  w_top off
  intro p loose mean mg mb dp un gd cn cs a ccd cl outer A₀ base h₀ L m s Q E B F X N T hk hd hu hp hret
  tb_start
  rename GSub _ _ _ => zG
  obtain ⟨hb, hg1, hg2⟩ := hp
  replace hb := hb.mono (gsub_nil zG)
  replace hg1 := gsub_nil zG _ _ hg1
  replace hg2 := gsub_nil zG _ _ hg2
  cases hb
  k_steps
  all_goals (
    rename Fr h₀ L _ m => kF
    revert kF
    rename Fr _ _ _ _ => zF
    intro kF
    have z := frame_back (tl := []) zG N (frame_none N) zF News.nil News.nil
    refine hret _ [] _ _ kF z.1 z.2 ⟨rfl, ktn_int ?_⟩
    unfold flexI
    simp_all)

theorem tup_is {h : Heap} {q : Addr} {vs : List Value} (e : h.get? q = some (tupObj vs)) : IsTup h q vs.toArray := ⟨_, e, rfl, _, rfl⟩
set_option maxRecDepth 100000 in
set_option maxHeartbeats 8000000 in
theorem setpart_tell (w : World) (x its : Addr) (wd ht dt sg od up dn n : Int) (t : Tok) (news : Led) (hb1 : 0 < dn) (hb2 : dn < 2 ^ 20) (hu1 : 0 ≤ up) (hu2 : up < 1000000) (hn1 : -1000000 < n) (hn2 : n < 1000000) :
    Tell w 494 [.ref x, .int n t] news (fun h => BoxIn w h x its wd ht dt sg od up dn) 2 16 (fun r tl => tl = [] ∧ ∃ t, r = .int (roundI (up * n) dn) t) := by
  intro p loose mean mg mb dp un gd cn cs a ccd cl outer A₀ base h₀ L m s Q E B F X N T hk hd hu hp hret
  tb_start
  rename GSub _ _ _ => zG
  have hb := hp.mono (gsub_nil zG)
  cases hb
  rename _ = some (tupObj _) => hq
  have ht := tup_is hq
  k_steps
  all_goals (
    rename Fr h₀ L _ m => kF
    revert kF
    rename Fr _ _ _ _ => zF
    intro kF
    have z := frame_back (tl := []) zG N (frame_none N) zF News.nil News.nil
    refine hret _ [] _ _ kF z.1 z.2 ⟨rfl, ktn_int rfl⟩)

local macro_rules | `(tactic| walk_at "call ref") => `(tactic| ((with_reducible show wpAny _ _ (call (Value.ref 487) _) _ _ _); k_dflt (refine' Tell.useI (flex_tell _ _ _ _ _ _ _ _ _ _ _ _ _ _ _ _ _ _ _ _ _ _ _ _ _ _ _ _) ?k1 ?k2 ?k3 ?k4 ?k5 ?k6 ?k7 ?k8 ?kp ?_; (case kp => exact ⟨BoxIn.mono (Fr.keep (by k_asm)) (by assumption), Fr.keep (by k_asm) _ _ (by assumption), Fr.keep (by k_asm) _ _ (by assumption)⟩); ktn_open; intro r9 h9 tk9 F9 N9 e9; (obtain ⟨t9, e9⟩ := e9); subst e9; (try dsimp only); (try k_fold))))
local macro_rules | `(tactic| walk_at "call ref") => `(tactic| ((with_reducible show wpAny _ _ (call (Value.ref 494) _) _ _ _); k_dflt (refine' Tell.useI (setpart_tell _ _ _ _ _ _ _ _ _ _ _ _ _ ?k9 ?k10 ?k11 ?k12 ?k13 ?k14) ?k1 ?k2 ?k3 ?k4 ?k5 ?k6 ?k7 ?k8 ?kp ?_; (case k9 => assumption); (case k10 => assumption); (case k11 => assumption); (case k12 => assumption); (case k13 => omega); (case k14 => omega); (case kp => exact BoxIn.mono (Fr.keep (by k_asm)) (by assumption)); ktn_open; intro r9 h9 tk9 F9 N9 e9; (obtain ⟨t9, e9⟩ := e9); subst e9; (try dsimp only); (try k_fold))))

set_option maxRecDepth 100000 in
set_option maxHeartbeats 8000000 in
theorem partsize_tell (w : World) (x its : Addr) (wd ht dt sg od up dn : Int) (v : Value) (nd : Nd) (news : Led) :
    Tell w 501 [.ref x, v] news (fun h => BoxIn w h x its wd ht dt sg od up dn ∧ NodeIn w h v nd) 3 40 (fun r tl => tl = [] ∧ ∃ t, r = .int nd.wd t) := by
  intro p loose mean mg mb dp un gd cn cs a ccd cl outer A₀ base h₀ L m s Q E B F X N T hk hd hu hp hret
  tb_start
  rename GSub _ _ _ => zG
  obtain ⟨hb, hn⟩ := hp
  replace hb := hb.mono (gsub_nil zG)
  replace hn := hn.mono (gsub_nil zG)
  cases hb
  k_steps
  all_goals (
    rename Fr h₀ L _ m => kF
    revert kF
    rename Fr _ _ _ _ => zF
    intro kF
    have z := frame_back (tl := []) zG N (frame_none N) zF News.nil News.nil
    refine hret _ [] _ _ kF z.1 z.2 ⟨rfl, ktn_int rfl⟩)
local macro_rules | `(tactic| walk_at "call ref") => `(tactic| ((with_reducible show wpAny _ _ (call (Value.ref 501) _) _ _ _); k_dflt (refine' Tell.useI (partsize_tell _ _ _ _ _ _ _ _ _ _ _ _ _) ?k1 ?k2 ?k3 ?k4 ?k5 ?k6 ?k7 ?k8 ?kp ?_; (case kp => exact ⟨BoxIn.mono (Fr.keep (by k_asm)) (by assumption), NodeIn.mono (Fr.keep (by k_asm)) (by assumption)⟩); ktn_open; intro r9 h9 tk9 F9 N9 e9; (obtain ⟨t9, e9⟩ := e9); subst e9; (try dsimp only); (try k_fold))))
local macro_rules | `(tactic| size_fits) => `(tactic| (simp only [List.size_toArray, PySem.sizeLine_eq]; omega))

def PlJ (sg od up dn : Int) (nds : List Nd) (x D : Addr) (i : Nat) (m : Str → Option Value) (nx : Led) : Prop :=
  ∃ fv k fx fl t1 t2, nx = [(D, W.listOf (List.toArray fv) k)] ∧ IntsAre fv (0 :: (List.range i).map fun j => placeAt sg od up dn (nds.take (j + 1))) ∧ m (Str.ofString "found") = some (.ref D) ∧ m (Str.ofString "box") = some (.ref x) ∧
    m (Str.ofString "fixed") = some (.int fx t1) ∧ m (Str.ofString "flexed") = some (.int fl t2) ∧ fx = sumF Nd.wd (nds.take i) ∧ fl = sumF (flexI sg od) (nds.take i)
theorem ints_range_snoc {fv : List Value} {f : Nat → Int} {i : Nat} {x : Int} {t : Tok} (h : IntsAre fv (0 :: (List.range i).map f)) (e : x = f i) : IntsAre (fv.toArray.toList.concat (.int x t)) (0 :: (List.range (i + 1)).map f) := by
  rw [List.concat_eq_append]
  have := h.append (.cons x t .nil)
  rw [List.range_succ, List.map_append]
  subst e
  exact this

set_option maxRecDepth 100000 in
set_option maxHeartbeats 8000000 in
theorem places_tell (w : World) (x its : Addr) (wd ht dt sg od up dn : Int) (vs : List Value) (nds : List Nd) (news : Led) (hb1 : 0 < dn) (hb2 : dn < 2 ^ 20) (hu1 : 0 ≤ up) (hu2 : up < 1000000) (hfl : ∀ i, -1000000 < sumF (flexI sg od) (nds.take i) ∧ sumF (flexI sg od) (nds.take i) < 1000000) (hnl : nds.length ≤ 100) :
    Tell w 508 [.ref x] news (fun h => BoxIn w h x its wd ht dt sg od up dn ∧ h.IsList its vs.toArray ∧ NodesIn w h vs nds) 10 100 (fun r tl => ∃ D fv k, r = .ref D ∧ tl = [(D, W.listOf (List.toArray fv) k)] ∧ IntsAre fv (placesI sg od up dn nds)) := by
  intro p loose mean mg mb dp un gd cn cs a ccd cl outer A₀ base h₀ L m s Q E B F X N T hk hd hu hp hret
  tb_start
  rename GSub _ _ _ => zG
  obtain ⟨hb, hl, hns⟩ := hp
  replace hb := hb.mono (gsub_nil zG)
  replace hl := stays_list (gsub_nil zG) hl
  replace hns := hns.mono (gsub_nil zG)
  have hbk := hb
  cases hb
  k_steps
  rename Fr _ _ _ _ => zF
  rename News _ _ _ _ => zN
  refine' loop_list (PlJ sg od up dn nds x _) rfl hl zF (led_tail zN) ⟨_, _, _, _, _, _, rfl, ?_, rfl, rfl, rfl, rfl, ?_, ?_⟩ ?_ ?_
  · exact .cons _ _ .nil
  · rfl
  · rfl
  · intro i v m₁ nx h tk I oI hv hoff hJ F₁ N₁
    obtain ⟨fv, k, fx, fl, t1, t2, rfl, hI, e1, e0, e2, e3, e4, e5⟩ := hJ
    rw [fun_know e1, fun_know e0, fun_know e2, fun_know e3] at F₁
    have o1 := hoff _ (.head _)
    dsimp only at o1
    clear zF zN hoff e1 e0 e2 e3
    obtain ⟨nd, hnd, hN⟩ := hns.2 i v hv
    have hNk := hN
    obtain ⟨b1, b2⟩ := hfl i
    obtain ⟨b3, b4⟩ := hfl (i + 1)
    rw [take_snoc hnd, sumF_snoc] at b3 b4
    rw [← e5] at b1 b2 b3 b4
    have hfv : fv.length = i + 1 := by rw [hI.length]; simp
    have hin : i < nds.length := (List.getElem?_eq_some_iff.mp hnd).1
    cases hN
    all_goals (
      k_steps
      rename Fr _ _ _ _ => zF
      rename News _ _ _ _ => zN
      refine ⟨_, _, _, _, rfl, zF, zN, fun p hp => by rw [List.mem_singleton.mp hp]; exact o1, ⟨_, _, _, _, _, _, rfl, ints_range_snoc hI ?_, rfl, rfl, rfl, rfl, ?_, ?_⟩⟩
      · unfold placeAt
        rw [take_snoc hnd, sumF_snoc, sumF_snoc, ← e4, ← e5]
        first | rfl | (simp only [flexI, Int.add_zero] <;> rfl)
      · rw [take_snoc hnd, sumF_snoc, ← e4] <;> rfl
      · rw [take_snoc hnd, sumF_snoc, ← e5] <;> (simp only [flexI, Int.add_zero]))
  · intro m₁ nx h tk hJ F₁ N₁
    obtain ⟨fv, k, fx, fl, t1, t2, rfl, hI, e1, e0, e2, e3, e4, e5⟩ := hJ
    rw [fun_know e1, fun_know e0, fun_know e2, fun_know e3] at F₁
    clear zF zN e1 e0 e2 e3
    rw [hns.1] at hI
    dsimp only
    k_steps
    rename Fr h₀ L _ m => kF
    rename News h₀ L _ _ => kN
    revert kF kN
    rename Fr _ _ _ _ => zF
    rename News _ _ _ _ => zN
    intro kF kN
    have z := frame_back zG N (frame_none N) zF zN kN
    exact hret _ _ _ _ kF z.1 z.2 ⟨_, _, _, rfl, rfl, hI⟩

-- functions that draw from the heap list
theorem updF_mem {d : Addr} {o : Obj} {l : Led} {g : Obj → Led} (U : UpdF d o l g) : (d, o) ∈ l := by
  obtain ⟨pre, post, rfl, _, _, _⟩ := U.split
  exact List.mem_append_right _ (.head _)
theorem news_one {h₀ h : Heap} {L d : Addr} {o : Obj} {l : Led} {g : Obj → Led} (N : News h₀ L h l) (U : UpdF d o l g) : News h₀ L h [(d, o)] := fun p hp => by
  rw [List.mem_singleton.mp hp]
  exact N _ (updF_mem U)
theorem frame_backH {h₀ H g' H' : Heap} {L L' d : Addr} {o o' : Obj} {m' : Str → Option Value} {news tl : Led} {g : Obj → Led} (G : GSub H g' [d]) (N : News h₀ L H news) (U : UpdF d o news g) (F' : Fr g' L' H' m') (N' : News g' L' H' ((d, o') :: tl)) (kN : News h₀ L H' ((d, o') :: tl)) (off : ∀ p ∈ tl, @Ne Nat p.1 d) :
    News h₀ L H' (tl ++ g o') ∧ ∀ q ∈ news, ∀ p ∈ tl, @Ne Nat q.1 p.1 := by
  obtain ⟨pre, post, rfl, eg, a, b⟩ := U.split
  have inG : ∀ q ∈ pre ++ (d, o) :: post, q.1 ≠ d → g'.get? q.1 = some q.2 := fun q hq hn => G _ _ (N q hq).1 (fun hm => hn (List.mem_singleton.mp hm))
  refine ⟨fun p hp => ?_, fun q hq p hp e => ?_⟩
  · rcases List.mem_append.mp hp with hp | hp
    · exact kN p (.tail _ hp)
    · rw [eg] at hp
      rcases List.mem_append.mp hp with hp | hp
      · have hm : p ∈ pre ++ (d, o) :: post := List.mem_append_left _ hp
        exact ⟨F'.keep _ _ (inG p hm (a p hp)), (N p hm).2⟩
      · rcases List.mem_cons.mp hp with rfl | hp
        · exact kN _ (.head _)
        · have hm : p ∈ pre ++ (d, o) :: post := List.mem_append_right _ (.tail _ hp)
          exact ⟨F'.keep _ _ (inG p hm (b p hp)), (N p hm).2⟩
  · by_cases hd : q.1 = d
    · exact off p hp (e.symm.trans hd)
    · have h1 := inG q hq hd
      have h2 := (N' p (.tail _ hp)).2.2
      rw [e, h2] at h1
      cases h1

/-- as Tell, of what draws from the list at H, which is oH at the call -/
def TellH (w : World) (f : Addr) (args : List Value) (H : Addr) (oH : Obj) (dd uu : Nat) (Post : Value → Led → Obj → Prop) : Prop :=
  ∀ (p : Program) (loose : List Str) (mean : ExcName → Option Value) (mg mb : Str → Option Value) (dp un : Nat) (gd : Option (List Code)) (cn : Str) (cs : Scope) (a : Addr) (ccd : Value) (cl : List (Str × Addr)) (outer : List Env) (A₀ : Around) (base h₀ : Heap) (L : Addr) (m : Str → Option Value) (s : Shared) (Q E : Value → Shared → Prop) (news : Led) (g : Obj → Led),
    Below A₀ base outer h₀ → Fr h₀ L s.heap m → (hd.heap_39 w.params).In h₀ → News h₀ L s.heap news → Top p loose mean mg mb h₀ → cs.kind = .function → dp + dd < recursionLimit → un + uu < cLine → UpdF H oH news g →
    (∀ r tl o' h' tk', Fr h₀ L h' m → News h₀ L h' (tl ++ g o') → (∀ q ∈ news, ∀ p ∈ tl, @Ne Nat q.1 p.1) → Post r tl o' → Q r { s with heap := h', toks := tk' }) →
    wpAny (model prg w) (ktrTop dp un gd cn cs L a ccd cl outer) (call (.ref f) args) Q E s
section
variable {w : World} {f H : Addr} {oH : Obj} {args : List Value} {news : Led} {g : Obj → Led} {dd uu : Nat} {p : Program} {loose : List Str} {mean : ExcName → Option Value} {mg mb : Str → Option Value} {dp un : Nat} {gd : Option (List Code)} {cn : Str} {cs : Scope} {a : Addr} {ccd : Value} {cl : List (Str × Addr)} {outer : List Env} {A₀ : Around} {base h₀ : Heap} {L : Addr} {m : Str → Option Value} {s : Shared} {Q E : Value → Shared → Prop}
theorem TellH.use {Post : Value → Led → Obj → Prop} (T' : TellH w f args H oH dd uu Post) (B : Below A₀ base outer h₀) (F : Fr h₀ L s.heap m) (X : (hd.heap_39 w.params).In h₀) (N : News h₀ L s.heap news) (T : Top p loose mean mg mb h₀) (hk : cs.kind = .function) (hd : dp + dd < recursionLimit) (hu : un + uu < cLine) (U : UpdF H oH news g)
    (ret : ∀ r tl o' h' tk', Fr h₀ L h' m → News h₀ L h' (tl ++ g o') → (∀ q ∈ news, ∀ p ∈ tl, @Ne Nat q.1 p.1) → Post r tl o' → Q r { s with heap := h', toks := tk' }) :
    wpAny (model prg w) (ktrTop dp un gd cn cs L a ccd cl outer) (call (.ref f) args) Q E s := T' _ _ _ _ _ _ _ _ _ _ _ _ _ _ _ _ _ _ _ _ _ _ _ _ B F X N T hk hd hu U ret
/-- the same where nothing is made -/
theorem TellH.useI {Post : Value → Obj → Prop} (T' : TellH w f args H oH dd uu (fun r tl o' => tl = [] ∧ Post r o')) (B : Below A₀ base outer h₀) (F : Fr h₀ L s.heap m) (X : (hd.heap_39 w.params).In h₀) (N : News h₀ L s.heap news) (T : Top p loose mean mg mb h₀) (hk : cs.kind = .function) (hd : dp + dd < recursionLimit) (hu : un + uu < cLine) (U : UpdF H oH news g)
    (ret : ∀ r o' h' tk', Fr h₀ L h' m → News h₀ L h' (g o') → Post r o' → Q r { s with heap := h', toks := tk' }) :
    wpAny (model prg w) (ktrTop dp un gd cn cs L a ccd cl outer) (call (.ref f) args) Q E s := T'.use B F X N T hk hd hu U fun r tl o' h' tk' F' N' _ e => by
  obtain ⟨e, hP⟩ := e
  subst e
  exact ret r o' h' tk' F' N' hP
end
inductive HeapOk (n : Nat) : Obj → Prop where
  | mk {a b : Int} {t u : Tok} {k : Nat} : 0 ≤ b → b ≤ n → HeapOk n (W.listOf #[.int a t, .int b u] k)
local macro_rules | `(tactic| tb_start) => `(tactic| (refine wpAny_call ?_; k_dflt (refine' code_defG ?k1 ?k2 ?k3 ?k4 ?k5 ?kA ?kF ?kK ?k6 ?k7 ?k8 ?k9 ?kB ?_ ?c2 ?c3 ?c4 ?c5; (case kA => exact rfl); (case kF => exact rfl); (case kK => first | exact rfl | assumption); (case k1 => k_asm); (case k2 => k_asm); (case k3 => k_asm); (case k4 => (rename News _ _ _ [(_, _)] => zOne; exact zOne)); (case k5 => k_asm); (case k6 => k_is); (case k7 => k_is); (case k8 => ((try simp only [depth_under_make, depth_in1, depth_deeper]); (try dsimp only [ktrTop]); omega)); (case k9 => first | exact BindsTo.of_eq rfl | exact binds_K (by k_in) rfl (by k_is) rfl rfl rfl); (case c5 => decide); (case kB => exact locs rfl); (case c2 => exact rfl); (case c3 => exact rfl); (case c4 => exact rfl); k_whole; intro g' L' h' FG' F' N' B' X' T' kG'; (try dsimp only); (try k_fold))))

set_option maxRecDepth 100000 in
set_option maxHeartbeats 8000000 in
theorem take_tell (w : World) (H : Addr) (oH : Obj) (n : Nat) (many : Int) (t : Tok) (hm : 0 < many) (hm2 : many < 1000) (hn : n < 1000) (hO : HeapOk n oH) :
    TellH w 551 [.ref H, .int many t] H oH 1 16 (fun r tl o' => tl = [] ∧ HeapOk (n + 1) o' ∧ ∃ v u, r = .int v u ∧ 0 ≤ v ∧ v < many) := by
  cases hO with
  | @mk a0 b0 _ _ _ hb1 hb2 =>
  intro p loose mean mg mb dp un gd cn cs a ccd cl outer A₀ base h₀ L m s Q E news g B F X N T hk hd hu U hret
  have N1 := news_one N U
  have q1 : 0 ≤ [a0, [a0, b0].getD (Int.toNat 1) 0 + 1].getD (Int.toNat 1) 0 := by show 0 ≤ b0 + 1; omega
  have q2 : [a0, [a0, b0].getD (Int.toNat 1) 0 + 1].getD (Int.toNat 1) 0 < 2000 := by show b0 + 1 < 2000; omega
  tb_start
  rename GSub _ _ _ => zG
  k_steps
  all_goals (
    rename Fr h₀ L _ m => kF
    rename News h₀ L _ _ => kN
    revert kF kN
    rename Fr _ _ _ _ => zF
    rename News _ _ _ _ => zN
    intro kF kN
    have z := frame_backH zG N U zF zN kN (fun _ h => nomatch h)
    refine hret _ [] _ _ _ kF z.1 z.2 ⟨rfl, HeapOk.mk ?_ ?_, _, _, rfl, Int.fmod_nonneg_of_pos _ hm, Int.fmod_lt_of_pos _ hm⟩
    · show 0 ≤ b0 + 1
      omega
    · show b0 + 1 ≤ ((n + 1 : Nat) : Int)
      omega)
local macro_rules | `(tactic| walk_at "call ref") => `(tactic| ((with_reducible show wpAny _ _ (call (Value.ref 551) _) _ _ _); k_dflt (refine' TellH.useI (take_tell _ _ _ _ _ _ ?ka ?kb ?kc ?kd) ?k1 ?k2 ?k3 ?k4 ?k5 ?k6 ?k7 ?k8 ?kU ?_; (case k4 => k_asm); (case kU => k_updF); (case kd => assumption); (case ka => omega); (case kb => omega); (case kc => omega); (case k1 => k_asm); (case k2 => k_asm); (case k3 => k_asm); (case k5 => k_asm); (case k6 => first | exact rfl | assumption); (case k7 => ((try simp only [depth_under_make, depth_in1, depth_deeper]); (try dsimp only [ktrTop]); omega)); (case k8 => ((try simp only [units_under_make, units_in1, units_deeper, Around.mark_units]); (try dsimp only [ktrTop]); omega)); intro r9 o9 h9 tk9 F9 N9 e9; (obtain ⟨hk9, v9, u9, e9, b91, b92⟩ := e9); subst e9; (try dsimp only at N9); (try dsimp only); (try k_fold))))

set_option maxRecDepth 100000 in
set_option maxHeartbeats 8000000 in
theorem size_tell (w : World) (H : Addr) (oH : Obj) (n : Nat) (hn : n < 1000) (hO : HeapOk n oH) :
    TellH w 558 [.ref H] H oH 2 40 (fun r tl o' => tl = [] ∧ HeapOk (n + 1) o' ∧ ∃ v u, r = .int v u ∧ -6 ≤ v ∧ v < 34) := by
  w_top off
  intro p loose mean mg mb dp un gd cn cs a ccd cl outer A₀ base h₀ L m s Q E news g B F X N T hk hd hu U hret
  have N1 := news_one N U
  tb_start
  rename GSub _ _ _ => zG
  k_steps
  all_goals (
    rename Fr h₀ L _ m => kF
    rename News h₀ L _ _ => kN
    revert kF kN
    rename Fr _ _ _ _ => zF
    rename News _ _ _ _ => zN
    intro kF kN
    have z := frame_backH zG N U zF zN kN (fun _ h => nomatch h)
    refine hret _ [] _ _ _ kF z.1 z.2 ⟨rfl, by assumption, _, _, rfl, ?_, ?_⟩ <;> omega)
local macro_rules | `(tactic| walk_at "call ref") => `(tactic| ((with_reducible show wpAny _ _ (call (Value.ref 558) _) _ _ _); k_dflt (refine' TellH.useI (size_tell _ _ _ _ ?kc ?kd) ?k1 ?k2 ?k3 ?k4 ?k5 ?k6 ?k7 ?k8 ?kU ?_; (case k4 => k_asm); (case kU => k_updF); (case kd => assumption); (case kc => omega); (case k1 => k_asm); (case k2 => k_asm); (case k3 => k_asm); (case k5 => k_asm); (case k6 => first | exact rfl | assumption); (case k7 => ((try simp only [depth_under_make, depth_in1, depth_deeper]); (try dsimp only [ktrTop]); omega)); (case k8 => ((try simp only [units_under_make, units_in1, units_deeper, Around.mark_units]); (try dsimp only [ktrTop]); omega)); intro r9 o9 h9 tk9 F9 N9 e9; (obtain ⟨hk9, v9, u9, e9, b91, b92⟩ := e9); subst e9; (try dsimp only at N9); (try dsimp only); (try k_fold))))

inductive Pt where
  | glue (a b c d e : Int)
  | box (a b c d : Int)
  | rule (a b : Int)
  | kern (a : Int)
  | pen (a : Int)
inductive PtV : List Value → Pt → Prop where
  | glue {a b c d e : Int} {t0 t1 t2 t3 t4 t5 : Tok} : PtV [.str (Str.ofString "glue") t0, .int a t1, .int b t2, .int c t3, .int d t4, .int e t5] (.glue a b c d e)
  | box {a b c d : Int} {t0 t1 t2 t3 t4 : Tok} : PtV [.str (Str.ofString "box") t0, .int a t1, .int b t2, .int c t3, .int d t4] (.box a b c d)
  | rule {a b : Int} {t0 t1 t2 : Tok} : PtV [.str (Str.ofString "rule") t0, .int a t1, .int b t2] (.rule a b)
  | kern {a : Int} {t0 t1 : Tok} : PtV [.str (Str.ofString "kern") t0, .int a t1] (.kern a)
  | pen {a : Int} {t0 t1 : Tok} : PtV [.str (Str.ofString "penalty") t0, .int a t1] (.pen a)
def SzOk (a : Int) : Prop := -6 ≤ a ∧ a < 34
def PtOk (orders : Int) : Pt → Prop
  | .glue a b c d e => SzOk a ∧ (0 ≤ b ∧ b < 9) ∧ (0 ≤ c ∧ c < orders) ∧ (0 ≤ d ∧ d < 9) ∧ 0 ≤ e ∧ e < orders
  | .box a b c d => SzOk a ∧ SzOk b ∧ SzOk c ∧ -2 ≤ d ∧ d < 3
  | .rule a b => SzOk a ∧ SzOk b
  | .kern a => SzOk a
  | .pen a => 0 ≤ a ∧ a < 99
theorem HeapOk.le {n k : Nat} {o : Obj} (h : HeapOk n o) (e : n ≤ k) : HeapOk k o := by
  cases h with
  | mk a b => exact .mk a (Int.le_trans b (Int.ofNat_le.mpr e))
theorem news_swap {h₀ h : Heap} {L : Addr} {a b : Addr × Obj} (N : News h₀ L h [a, b]) : News h₀ L h [b, a] := fun p hp => N p (by
  rcases List.mem_cons.mp hp with rfl | hp
  · exact .tail _ (.head _)
  · rw [List.mem_singleton.mp hp]; exact .head _)

set_option maxRecDepth 100000 in
set_option maxHeartbeats 8000000 in
theorem part_tell (w : World) (H : Addr) (oH : Obj) (n : Nat) (orders : Int) (t : Tok) (ho : 0 < orders) (ho2 : orders < 1000) (hn : n < 900) (hO : HeapOk n oH) :
    TellH w 565 [.ref H, .int orders t] H oH 3 60 (fun r tl o' => HeapOk (n + 6) o' ∧ ∃ T vs pt, r = .ref T ∧ tl = [(T, tupObj vs)] ∧ PtV vs pt ∧ PtOk orders pt) := by
  intro p loose mean mg mb dp un gd cn cs a ccd cl outer A₀ base h₀ L m s Q E news g B F X N T hk hd hu U hret
  have N1 := news_one N U
  tb_start
  rename GSub _ _ _ => zG
  k_steps
  all_goals (
    rename Fr h₀ L _ m => kF
    rename News h₀ L _ _ => kN
    revert kF kN
    rename Fr _ _ _ _ => zF
    rename News _ _ _ _ => zN
    intro kF kN
    have z := frame_backH zG N U zF (news_swap zN) (news_swap kN) (fun p hp => by rw [List.mem_singleton.mp hp]; k_ne)
    refine hret _ _ _ _ _ kF z.1 z.2 ⟨HeapOk.le (by assumption) (by omega), _, _, _, rfl, rfl, by first | exact .glue | exact .box | exact .rule | exact .kern | exact .pen, ?_⟩
    simp only [PtOk, SzOk]
    omega)

section
variable {prog : Program} {w : World} {A : Around} {E : Value → Shared → Prop} {s : Shared} {env : Env} {h₀ : Heap} {x : Str} {body : List Stmt} {Q : Flow → Shared → Prop}
/-- a loop over a list that lies in the ledger, and that no turn changes -/
theorem loop_led {l : Addr} {its : Array Value} {k : Nat} {m₀ : Str → Option Value} {news : Led} (J : Nat → (Str → Option Value) → Led → Prop)
    (hh : A.handled = none) (F : Fr h₀ env.locals s.heap m₀) (N : News h₀ env.locals s.heap news) (hl : (l, W.listOf its k) ∈ news) (hj : J 0 m₀ news) (keep : ∀ i m₁ nx, J i m₁ nx → (l, W.listOf its k) ∈ nx)
    (turn : ∀ i v m₁ nx h tk I oI, its[i]? = some v → (∀ p ∈ nx, @Ne Nat p.1 I) → J i m₁ nx → Fr h₀ env.locals h (fun y => if y = x then some v else m₁ y) → News h₀ env.locals h ((I, oI) :: nx) →
      wpAny (model prog w) A (execs body env) (LpPost h₀ env.locals (J (i + 1)) I oI { s with heap := h, toks := tk } Q) E { s with heap := h, toks := tk })
    (done : ∀ m₁ nx h tk, J its.size m₁ nx → Fr h₀ env.locals h m₁ → News h₀ env.locals h nx → Q .next { s with heap := h, toks := tk }) :
    wpAny (model prog w) A (pyIter (.ref l)) (fun it s₂ => LoopAtV prog w A h₀ env x body Q E it s₂) E s := by
  have hls : s.heap.IsList l its := News.isList N hl
  have hol := (N _ hl).1
  have hlt : l < s.heap.objs.size := Heap.lt_size hol
  have hne : l ≠ s.heap.objs.size := Nat.ne_of_lt hlt
  have hnew : h₀.get? s.heap.objs.size = none := next_is_new F
  refine wpAny_pyIter_list hls ?_
  have Wk := Walks.list (prog := prog) (w := w) hh s.heap.objs.size l hne its
  refine ⟨_, _, _, its.size, _, _, m₀, news, J, rfl, Wk, ?_, ?_, ?_, ⟨⟨_, Heap.get?_push_size _ rfl, rfl, rfl⟩, hls.at fun o e => Heap.get?_push_of_some _ e⟩, F.push _, (fun p hp => ⟨Heap.get?_push_of_some _ (N p hp).1, (N p hp).2⟩), hj, ?_, ?_⟩
  · intro hm
    rcases List.mem_cons.mp hm with e | hm
    · exact absurd F.ns.lt (e ▸ Nat.lt_irrefl _)
    · exact (N _ hl).2.1 (List.mem_singleton.mp hm).symm
  · intro b hb
    rw [List.mem_singleton.mp hb]
    exact hnew
  · intro p hp hI
    exact absurd (Heap.lt_size (N p hp).1) ((List.mem_singleton.mp hI) ▸ Nat.lt_irrefl _)
  · rintro i v m₁ news₁ s₁ own ⟨hh', tk', rfl⟩ hin hP hJ hoff hown hget hmem hst F₁ N₁
    obtain ⟨⟨oi, hoi, _⟩, _⟩ := hst
    have hI : (s.heap.objs.size, oi) ∈ own := hmem _ (.head _) hnew oi hoi
    have N₂ : News h₀ env.locals hh' ((s.heap.objs.size, oi) :: news₁) := fun p hp => by
      rcases List.mem_cons.mp hp with rfl | hp
      · exact N₁ _ (List.mem_append_left _ hI)
      · exact N₁ _ (List.mem_append_right _ hp)
    refine wpAny_mono (turn i v m₁ news₁ hh' tk' s.heap.objs.size oi hP (fun p hp e => hoff p hp (List.mem_singleton.mpr e)) hJ F₁ N₂) (fun f s₂ p => ?_) fun _ _ e => e
    have fin : LpEnd h₀ env.locals (J (i + 1)) s.heap.objs.size oi { s with heap := hh', toks := tk' } s₂ → LoopStepU h₀ env.locals [s.heap.objs.size] own (J (i + 1)) { s with heap := hh', toks := tk' } .next s₂ := by
      rintro ⟨h', tk, m', nx, e, F', N', ha, hm⟩
      refine ⟨rfl, h', tk, m', nx, e, F', fun p hp => ?_, fun p hp hq => ha p hp (List.mem_singleton.mp hq), hm⟩
      rcases List.mem_append.mp hp with hp | hp
      · have hf := hown p hp
        rcases List.mem_cons.mp hf with e1 | e1
        · have h2 := hget p hp
          rw [e1, hoi] at h2
          have e2 : p = (s.heap.objs.size, oi) := Prod.ext e1 (Option.some.inj h2).symm
          rw [e2]; exact N' _ (.head _)
        · have e2 := List.mem_singleton.mp e1
          have h3 := (N₁ _ (List.mem_append_right _ (keep _ _ _ hJ))).1
          have h4 := hget p hp
          rw [e2] at h4
          have e5 : p = (l, W.listOf its k) := Prod.ext e2 (Option.some.inj (h4.symm.trans h3))
          rw [e5]; exact N' _ (.tail _ (keep _ _ _ hm))
      · exact N' _ (.tail _ hp)
    cases f with
    | ret v => exact .ret p
    | brk => exact .brk p
    | next => exact .next (fin p)
    | cont => exact .cont (fin p)
  · rintro h' tk m' news' F' N' _ hJ
    exact done m' news' h' tk hJ F' N'
end

theorem ints_at : ∀ {vs : List Value} {ns : List Int} {i : Nat} {v : Value}, IntsAre vs ns → vs[i]? = some v → ∃ n t, v = .int n t ∧ ns[i]? = some n
  | _, _, 0, _, .cons n t _, e => ⟨n, t, (Option.some.inj e).symm, rfl⟩
  | _ :: vs, _ :: ns, i + 1, _, .cons _ _ h, e => ints_at (vs := vs) (ns := ns) (i := i) h e
local macro_rules | `(tactic| walk_at "exec For Name Subscript cons nil") => `(tactic| (k_here; (rename Fr _ _ _ _ => lF'); (with_unfolding_all refine' For_invVF lF' ?k1 ?k2 ?_; (case k1 => exact rfl); (case k2 => exact rfl); k_whole)))
set_option maxRecDepth 100000 in
set_option maxHeartbeats 8000000 in
theorem heap_tell (w : World) (S : Addr) (vs : List Value) (ns : List Int) (news : Led) (hns : ns.length ≤ 2 ^ 20) :
    Tell w 544 [.ref S] news (fun h => h.IsList S vs.toArray ∧ IntsAre vs ns) 4 60 (fun r tl => ∃ D o, r = .ref D ∧ tl = [(D, o)] ∧ HeapOk 0 o) := by
  w_top off
  intro p loose mean mg mb dp un gd cn cs a ccd cl outer A₀ base h₀ L m s Q E B F X N T hk hd hu hp hret
  tb_start
  rename GSub _ _ _ => zG
  have hl := stays_list (gsub_nil zG) hp.1
  have hi := hp.2
  k_steps
  rename Fr h₀ L _ m => kF
  rename News h₀ L _ _ => kN
  revert kF kN
  rename Fr _ _ _ _ => zF
  rename News _ _ _ _ => zN
  intro kF kN
  have z := frame_back (tl := [_]) zG N (frame_none N) zF (fun p hp => zN p (by rw [List.mem_singleton.mp hp]; exact .head _)) (fun p hp => kN p (by rw [List.mem_singleton.mp hp]; exact .head _))
  exact hret _ _ _ _ kF z.1 z.2 ⟨_, _, rfl, rfl, HeapOk.mk (Int.le_refl _) (Int.le_refl _)⟩

-- list comprehensions over whatever can be walked
section
variable {prog : Program} {w : World} {A : Around} {E : Value → Shared → Prop} {s : Shared} {h₀ : Heap} {L : Addr} {m : Str → Option Value} {env : Env}
/-- what a comprehension without a test asks of the iterator made for it -/
def BlockAt (prog : Program) (w : World) (A : Around) (h₀ : Heap) (L : Addr) (m : Str → Option Value) (env : Env) (elt : Expr) (x : Str) (scope : Scope) (cl : List (Str × Addr)) (Fin : Shared → List Value → Led → Prop) (it : Value) (s₂ : Shared) : Prop :=
  ∃ (I : Addr) (fp : List Addr) (n : Nat) (P : Nat → Value → Prop) (St : Nat → Heap → Prop) (S : Led → Prop) (news : Led), it = .ref I ∧ Walks prog w A I fp [I] n P St ∧ n ≤ sizeLine ∧ (∀ i h, St i h → ∃ o, h.get? I = some o) ∧
    (∀ i h h' o nw, St i h → h.get? I = some o → h'.get? I = some o → (∀ b o, h₀.get? b = some o → h'.get? b = some o) → News h₀ L h' nw → S nw → St i h') ∧ St 0 s₂.heap ∧ (∀ b ∈ fp, b < s₂.heap.objs.size) ∧
    Fr h₀ L s₂.heap m ∧ News h₀ L s₂.heap news ∧ L ≠ I ∧ h₀.get? I = none ∧ (∀ p ∈ news, p.1 ≠ I) ∧ S news ∧ LCg.CompRest prog w A h₀ L m env elt x scope cl s₂ S P (Fin s₂) n 0 [] news
theorem ListComp_W {elt iter : Expr} {x : Str} {px : Pos} {scope : Scope} {cl : List (Str × Addr)} {pos : Pos} {Q : Value → Shared → Prop} (_F₀ : Fr h₀ L s.heap m)
    (hclos : closureFor scope env = pure cl) (hcell : ∀ y ∈ scope.names, y.2 ≠ .cell) (hkind : scope.kind = .function)
    (hnames : ∀ y ∈ scope.names, y.2 = .local → scope.names.lookup y.1 = some .local) (hx : scope.names.lookup x = some .local)
    (h : wpAny (model prog w) A (eval iter env) (fun xv s₁ => wpAny (model prog w) A (pyIter xv) (BlockAt prog w A h₀ L m env elt x scope cl (fun s₂ => LCg.FinE h₀ L m s₂ Q)) E s₁) E s)
    (hs : ∀ x, foldedSetIterable iter env x = pure x := by intro _; rfl) :
    wpAny (model prog w) A (eval (.ListComp elt [⟨.Name x px, iter, [], 0⟩] scope pos) env) Q E s := by
  rw [eval_ListComp]
  refine wpAny_comprehension_free (use := none) rfl hs hclos hkind hnames (wpAny_mono h (fun xv s₁ h₁ => ?_) fun _ _ e => e)
  refine wpAny_mono h₁ (fun it s₂ b => ?_) fun _ _ e => e
  obtain ⟨I, fp, n, P, St, S, news, rfl, Wk, hsz, hIo, hSt, hst, hfp, F, N, hIL, hI₀, off, hS, R⟩ := b
  refine LCg.block_U Wk hsz hIo hSt hcell hkind hx hst hfp F N hIL hI₀ off hS R ?_
  intro D C h tk m' ys news' F' N' o1 hn hC₀ hD₀ hCL hDL hCD offC fin
  refine ⟨m', hn, fun h'' hs'' => fin D h'' tk (F'.change hs'' hCL hC₀) (fun p hp => ⟨hs''.extBut _ _ ?_ (N' p hp).1, (N' p hp).2⟩) o1⟩
  rcases List.mem_cons.mp hp with rfl | hp
  · exact Ne.symm hCD
  · exact offC p hp
theorem Assign_ListComp_W {elt iter : Expr} {x y : Str} {px py : Pos} {scope : Scope} {cl : List (Str × Addr)} {pos spos : Pos} {Q : Flow → Shared → Prop} (_F₀ : Fr h₀ L s.heap m) (hLe : env.locals = L)
    (hsw : swapsWith (.ListComp elt [⟨.Name x px, iter, [], 0⟩] scope pos) (some (.Name y py)) spos.line env = pure true)
    (hclos : closureFor scope env = pure cl) (hcell : ∀ z ∈ scope.names, z.2 ≠ .cell) (hkind : scope.kind = .function)
    (hnames : ∀ z ∈ scope.names, z.2 = .local → scope.names.lookup z.1 = some .local) (hx : scope.names.lookup x = some .local)
    (hy : env.kindOf y = some .local) (hp : (env.scope.kind == .class || (env.scope.kind == .module && env.locals != env.globals)) = false)
    (h : wpAny (model prog w) A (eval iter env) (fun xv s₁ => wpAny (model prog w) A (pyIter xv) (BlockAt prog w A h₀ L m env elt x scope cl (fun s₂ => LCg.FinA h₀ L m s₂ y Q)) E s₁) E s)
    (hs : ∀ x, foldedSetIterable iter env x = pure x := by intro _; rfl) :
    wpAny (model prog w) A (exec (.Assign [.Name y py] (.ListComp elt [⟨.Name x px, iter, [], 0⟩] scope pos) spos) env) Q E s := by
  subst hLe
  rw [exec_Assign_Name_used _ _ _ _ hsw]
  refine wpAny_bind (wpAny_standAt (wpAny_bind ?_))
  show wpAny _ A (do let _ ← comprehension (.ListComp elt [⟨.Name x px, iter, [], 0⟩] scope pos) scope env _ (newList []) false (eval iter env) (some (assign (.Name y py) env))) _ _ s
  refine wpAny_bind (wpAny_mono (wpAny_comprehension_free (use := some (assign (.Name y py) env)) (Q := fun _ s' => Q .next s') rfl hs hclos hkind hnames
    (wpAny_mono h (fun xv s₁ h₁ => ?_) fun _ _ e => e)) (fun _ s' hq => wpAny_pure (wpAny_pure hq)) fun _ _ e => e)
  refine wpAny_mono h₁ (fun it s₂ b => ?_) fun _ _ e => e
  obtain ⟨I, fp, n, P, St, S, news, rfl, Wk, hsz, hIo, hSt, hst, hfp, F, N, hIL, hI₀, off, hS, R⟩ := b
  refine LCg.block_U Wk hsz hIo hSt hcell hkind hx hst hfp F N hIL hI₀ off hS R ?_
  intro D C h' tk m' ys news' F' N' o1 hn hC₀ hD₀ hCL hDL hCD offC fin
  show wpAny _ A (assign (.Name y py) env (.ref D)) _ _ _
  refine wpAny_assign_Name (wpAny_storeName_local hy F'.ns (fun h₂ hn₂ hs₂ => ?_) hp)
  have hL₀ : h₀.get? env.locals = none := Heap.get?_none_of_le F'.above
  have F₂ : Fr h₀ env.locals h₂ (fun z => if z = y then some (.ref D) else m z) := ⟨hn₂, fun b o e => hs₂.extBut b o (fun q => by rw [q, hL₀] at e; cases e) (F'.keep b o e), F'.above⟩
  refine ⟨m', hn.sameBut hs₂ hCL, fun h'' hs'' => fin D h'' _ (F₂.change hs'' hCL hC₀) (fun p hp => ?_) o1⟩
  have z : h₂.get? p.1 = some p.2 := hs₂.extBut _ _ (N' p hp).2.1 (N' p hp).1
  refine ⟨hs''.extBut _ _ ?_ z, (N' p hp).2⟩
  rcases List.mem_cons.mp hp with rfl | hp
  · exact Ne.symm hCD
  · exact offC p hp

/-- the turns of a comprehension by an invariant -/
theorem rest_inv {elt : Expr} {x : Str} {scope : Scope} {cl : List (Str × Addr)} {S : Led → Prop} {P : Nat → Value → Prop} {Fin : List Value → Led → Prop} {n : Nat} (J : Nat → List Value → Led → Prop)
    (step : ∀ i ys news v I oI C oC D m₂ h tk (E' : Value → Shared → Prop), i < n → J i ys news → P i v → LCg.NsObj oC m₂ → m₂ x = some v → Fr h₀ L h m → News h₀ L h ((I, oI) :: (C, oC) :: (D, LCg.lst ys) :: news) → LCg.Off3 I C D news → ((@Ne Nat I C) ∧ (@Ne Nat I D) ∧ (@Ne Nat C D)) →
      wpAny (model prog w) A (eval elt (compEnvC scope cl C env)) (LCg.CompEnd h₀ L m { s with heap := h, toks := tk } I oI C oC D (LCg.lst ys) S (fun y news' => J (i + 1) (ys ++ [y]) news')) E' { s with heap := h, toks := tk })
    (fin : ∀ ys news, J n ys news → Fin ys news) : ∀ (k i : Nat) (ys : List Value) (news : Led), i + k = n → J i ys news → LCg.CompRest prog w A h₀ L m env elt x scope cl s S P Fin k i ys news
  | 0, i, ys, news, e, j => by
    have : i = n := e
    subst this
    exact LCg.CompRest.zero (fin _ _ j)
  | k + 1, i, ys, news, e, j => LCg.CompRest.succ fun v I oI C oC D m₂ h tk E' hP hC hx F N off ne =>
    wpAny_mono (step i ys news v I oI C oC D m₂ h tk E' (by omega) j hP hC hx F N off ne) (fun y s₂ c => by
      obtain ⟨h', tk', news', e1, F', N', off', hS', r⟩ := c
      exact ⟨h', tk', news', e1, F', N', off', hS', rest_inv J step fin k (i + 1) (ys ++ [y]) news' (by omega) r⟩) fun _ _ e => e

/-- a tuple in the ledger as a source -/
def TupSrc (ax : Addr) (vs : List Value) (news : Led) : Prop := (ax, tupObj vs) ∈ news
theorem block_tuple {elt : Expr} {x : Str} {scope : Scope} {cl : List (Str × Addr)} {Fin : Shared → List Value → Led → Prop} {ax : Addr} {vs : List Value} {news : Led}
    (hh : A.handled = none) (F : Fr h₀ L s.heap m) (N : News h₀ L s.heap news) (hm : (ax, tupObj vs) ∈ news) (hsz : vs.length ≤ sizeLine)
    (R : ∀ g, LCg.CompRest prog w A h₀ L m env elt x scope cl { s with heap := g } (TupSrc ax vs) (fun i v => vs.toArray[i]? = some v) (Fin { s with heap := g }) vs.length 0 [] news) :
    wpAny (model prog w) A (pyIter (.ref ax)) (BlockAt prog w A h₀ L m env elt x scope cl Fin) E s := by
  have tupAt : ∀ {h : Heap} {nw : Led}, News h₀ L h nw → (ax, tupObj vs) ∈ nw → h.IsTuple ax vs.toArray := fun N' hm' => ⟨_, (N' _ hm').1, rfl, _, rfl⟩
  have hlt : ax < s.heap.objs.size := Heap.lt_size (N _ hm).1
  have Wk := Walks.tuple (prog := prog) (w := w) hh s.heap.objs.size ax (Nat.ne_of_lt hlt) vs.toArray
  rw [show vs.toArray.size = vs.length from List.size_toArray] at Wk
  refine wpAny_pyIter_tuple (tupAt N hm) ?_
  have up : ∀ b o, s.heap.get? b = some o → (s.heap.push { cls := .type "tuple_iterator", data := .fields #[.ref ax, .int 0 0] }).get? b = some o := fun b o e => Heap.get?_push_of_some _ e
  refine ⟨s.heap.objs.size, _, vs.length, _, _, TupSrc ax vs, news, rfl, Wk, hsz, fun i h st => ?_, fun i h h' o nw st e e' k N' S => ?_, ⟨⟨_, Heap.get?_push_size _ rfl, rfl, rfl⟩, tupAt (N.grown up) hm⟩, fun b hb => ?_,
    F.keeps up, N.grown up, Nat.ne_of_lt F.ns.lt, next_is_new F, fun p hp => Nat.ne_of_lt (Heap.lt_size (N p hp).1), hm, R _⟩
  · obtain ⟨o, e, _⟩ := st.1
    exact ⟨o, e⟩
  · refine ⟨?_, tupAt N' S⟩
    obtain ⟨o', q, r⟩ := st.1
    have e2 : o = o' := Option.some.inj (e.symm.trans q)
    exact ⟨o, e', e2 ▸ r⟩
  · show b < (s.heap.push _).objs.size
    rw [Heap.size_push]
    rcases List.mem_cons.mp hb with rfl | hb
    · exact Nat.lt_succ_self _
    · rw [List.mem_singleton.mp hb]; exact Nat.lt_succ_of_lt hlt
end

theorem compEnd_same {h₀ h' : Heap} {L I C D : Addr} {m : Str → Option Value} {s₁ : Shared} {oI oC oD : Obj} {S : Led → Prop} {rest : Value → Led → Prop} {y : Value} {tk : Nat} {news : Led}
    (F : Fr h₀ L h' m) (N : News h₀ L h' ((I, oI) :: (C, oC) :: (D, oD) :: news)) (off : LCg.Off3 I C D news) (hS : S news) (r : rest y news) : LCg.CompEnd h₀ L m s₁ I oI C oC D oD S rest y { s₁ with heap := h', toks := tk } :=
  .intro F N news (fun _ h => h) off hS r
theorem ints_take_snoc {ys : List Value} {ns : List Int} {f : Int → Int} {i : Nat} {n r : Int} {t : Tok} (h : IntsAre ys ((ns.take i).map f)) (hn : ns[i]? = some n) (e : r = f n) : IntsAre (ys ++ [.int r t]) ((ns.take (i + 1)).map f) := by
  have z := h.append (.cons r t .nil)
  rw [List.take_add_one, hn, List.map_append]
  subst e
  exact z
-- a comprehension's own walk: Assign
local macro_rules | `(tactic| walk_at "exec Assign cons ListComp") => `(tactic| (k_dflt (refine Assign_ListComp_W (by k_asm) (by rfl) (by with_unfolding_all rfl) (by with_unfolding_all rfl) (by decide) (by rfl) (by decide) (by rfl) (by rfl) (by rfl) ?_)))
-- the end of a turn that makes an int and keeps the ledger
local macro_rules | `(tactic| walk_at "CompEnd int") => `(tactic| (refine' compEnd_same ?a ?b ?c ?d ?e; (case a => k_asm); (case b => k_asm); (case c => assumption); (case d => first | exact List.Mem.head _ | exact True.intro | assumption); (case e => exact ⟨rfl, ints_take_snoc (by assumption) (by assumption) rfl⟩)))

-- comprehensions over a zip of two lists
abbrev IsZipF (h : Heap) (z TI TO : Addr) (f0 : Value) (b : Bool) : Prop :=
  h.get? z = some { cls := .type "zip", dict := none, data := .fields #[f0, .bool b, .bool false, .ref TI, .ref TO], slots := #[] }
section
variable {prog : Program} {w : World} {A : Around} {E : Value → Shared → Prop} {s : Shared}
theorem wpAny_alive {a : Addr} {Q : Option Obj → Shared → Prop} (h : Q (s.heap.get? a) s) : wpAny (model prog w) A (loadIfAlive a) Q E s := fun _ _ _ => h
/-- the owned tuple of a zip whose first tuple still lives is not free -/
theorem owned_kept {z TI TO T0 : Addr} {bb : Bool} {oT : Obj} {Q : Bool → Shared → Prop} (hz : IsZipF s.heap z TI TO (rawInt T0) bb) (hT0 : s.heap.get? T0 = some oT)
    (h : ∀ h', IsZipF h' z TI TO (rawInt T0) true → Heap.SameBut z s.heap h' → Q false { s with heap := h' }) :
    wpAny (model prog w) A (Builtin.SmallTypes.ownedTupleIsFree (.ref z)) Q E s := by
  unfold Builtin.SmallTypes.ownedTupleIsFree
  refine wpAny_bind (wpAny_field hz rfl (x := rawInt T0) rfl ?_)
  show wpAny _ _ (loadIfAlive (Int.toNat (T0 : Int)) >>= _) _ _ _
  rw [Int.toNat_natCast]
  refine wpAny_bind (wpAny_alive ?_)
  rw [hT0]
  show wpAny _ _ (field (.ref z) 1 >>= _) _ _ _
  refine wpAny_bind (wpAny_field hz rfl (x := .bool bb) rfl ?_)
  cases bb with
  | true =>
    show wpAny _ _ (pure false) _ _ _
    exact wpAny_pure (h s.heap hz ⟨rfl, fun _ _ => rfl⟩)
  | false =>
    show wpAny _ _ (setField (.ref z) 1 (.bool true) >>= _) _ _ _
    refine wpAny_bind (wpAny_setField_rec hz (by simp) fun h₁ hz₁ hs₁ => ?_)
    exact wpAny_pure (h h₁ hz₁ hs₁)
theorem zip_again {z TI TO T0 i1 i2 l1 l2 : Addr} {k1 k2 : Nat} {bb : Bool} {oT : Obj} {xs ys : Array Value} {x y : Value} {Q : Value → Shared → Prop} (D : ZipApart z TI TO i1 i2 l1 l2)
    (hz : IsZipF s.heap z TI TO (rawInt T0) bb) (hT0 : s.heap.get? T0 = some oT) (hTI : IsPair s.heap TI (.ref i1) (.ref i2))
    (h1 : s.heap.IsListIter i1 l1 k1) (h2 : s.heap.IsListIter i2 l2 k2) (hl1 : s.heap.IsList l1 xs) (hl2 : s.heap.IsList l2 ys) (hx : xs[k1]? = some x) (hy : ys[k2]? = some y)
    (hQ : ∀ h', IsZipF h' z TI TO (rawInt T0) true → h'.IsListIter i1 l1 (k1 + 1) → h'.IsListIter i2 l2 (k2 + 1) → IsPair h' s.heap.objs.size x y →
      (∀ c o, c ≠ z → c ≠ i1 → c ≠ i2 → s.heap.get? c = some o → h'.get? c = some o) → Q (.ref s.heap.objs.size) { s with heap := h' }) :
    wpAny (model prog w) A (Builtin.«zip.__next__» ⟨[.ref z], []⟩) (fun fin s' => ∃ v, fin = .done (.ret v) ∧ Q v s') E s := by
  show wpAny _ _ (field (.ref z) 2 >>= _) _ _ _
  refine wpAny_bind (wpAny_field hz rfl (x := .bool false) rfl ?_)
  show wpAny _ _ (field (.ref z) 3 >>= _) _ _ _
  refine wpAny_bind (wpAny_field hz rfl (x := .ref TI) rfl ?_)
  refine wpAny_bind (wpAny_seqItems hTI rfl ?_)
  show wpAny _ _ (Builtin.SmallTypes.ownedTupleIsFree (.ref z) >>= _) _ _ _
  refine wpAny_bind (owned_kept hz hT0 fun h₁ hz₁ hs₁ => ?_)
  simp only [Bool.false_eq_true, if_false]
  rw [← Array.forIn_toList]
  simp only [List.forIn_cons, List.forIn_nil]
  refine wpAny_bind (wpAny_bind (wpAny_bind (wpAny_holding ?_)))
  show wpAny _ _ (Builtin.SmallTypes.nextOf (.ref i1) >>= _) _ _ _
  refine wpAny_bind (wpAny_nextOf_list_item (h1.extBut hs₁.extBut D.i1z) (hl1.extBut hs₁.extBut D.l1z) hx fun h₂ h1₂ hs₂ => wpAny_pure (wpAny_pure ?_))
  refine wpAny_bind (wpAny_bind (wpAny_holding ?_))
  show wpAny _ _ (Builtin.SmallTypes.nextOf (.ref i2) >>= _) _ _ _
  refine wpAny_bind (wpAny_nextOf_list_item ((h2.extBut hs₁.extBut D.i2z).extBut hs₂.extBut D.i12.symm) ((hl2.extBut hs₁.extBut D.l2z).extBut hs₂.extBut D.l2i1) hy fun h₃ h2₃ hs₃ => wpAny_pure (wpAny_pure (wpAny_pure ?_)))
  refine wpAny_bind (wpAny_newTuple ?_ (hsz := by show 2 ≤ _; decide))
  have hsz : h₃.objs.size = s.heap.objs.size := by rw [hs₃.1, hs₂.1, hs₁.1]
  have hk : ∀ c o, c ≠ z → c ≠ i1 → c ≠ i2 → s.heap.get? c = some o → h₃.get? c = some o := fun c o c1 c3 c4 e => hs₃.extBut _ _ c4 (hs₂.extBut _ _ c3 (hs₁.extBut _ _ c1 e))
  refine wpAny_pure ⟨_, rfl, ?_⟩
  show Q (.ref h₃.objs.size) _
  rw [hsz]
  refine hQ _ (Heap.get?_push_of_some _ (hs₃.extBut _ _ D.i2z.symm (hs₂.extBut _ _ D.i1z.symm hz₁))) ((h1₂.extBut hs₃.extBut D.i12).at fun o e => Heap.get?_push_of_some _ e) (h2₃.at fun o e => Heap.get?_push_of_some _ e) ?_ fun c o c1 c3 c4 e => Heap.get?_push_of_some _ (hk c o c1 c3 c4 e)
  rw [← hsz]
  exact Heap.get?_push_size _ rfl
theorem zip_over {z TI TO T0 i1 i2 l1 l2 : Addr} {k1 : Nat} {bb : Bool} {oT : Obj} {xs : Array Value} {Q : Fin → Shared → Prop} (hh : A.handled = none) (D : ZipApart z TI TO i1 i2 l1 l2)
    (hz : IsZipF s.heap z TI TO (rawInt T0) bb) (hT0 : s.heap.get? T0 = some oT) (hTI : IsPair s.heap TI (.ref i1) (.ref i2))
    (h1 : s.heap.IsListIter i1 l1 k1) (hl1 : s.heap.IsList l1 xs) (hx : xs[k1]? = none)
    (hE : ∀ h' e, (∀ c o, c ≠ z → c ≠ i1 → s.heap.get? c = some o → h'.get? c = some o) → (∃ o, h'.get? e = some o ∧ o.cls = .type "StopIteration") → E (.ref e) { s with heap := h' }) :
    wpAny (model prog w) A (Builtin.«zip.__next__» ⟨[.ref z], []⟩) Q E s := by
  show wpAny _ _ (field (.ref z) 2 >>= _) _ _ _
  refine wpAny_bind (wpAny_field hz rfl (x := .bool false) rfl ?_)
  show wpAny _ _ (field (.ref z) 3 >>= _) _ _ _
  refine wpAny_bind (wpAny_field hz rfl (x := .ref TI) rfl ?_)
  refine wpAny_bind (wpAny_seqItems hTI rfl ?_)
  show wpAny _ _ (Builtin.SmallTypes.ownedTupleIsFree (.ref z) >>= _) _ _ _
  refine wpAny_bind (owned_kept hz hT0 fun h₁ hz₁ hs₁ => ?_)
  simp only [Bool.false_eq_true, if_false]
  rw [← Array.forIn_toList]
  simp only [List.forIn_cons, List.forIn_nil]
  refine wpAny_bind (wpAny_bind (wpAny_bind (wpAny_holding ?_)))
  show wpAny _ _ (Builtin.SmallTypes.nextOf (.ref i1) >>= _) _ _ _
  refine wpAny_bind (wpAny_nextOf_list_end hh (h1.extBut hs₁.extBut D.i1z) (hl1.extBut hs₁.extBut D.l1z) hx fun h₂ e hs₂ he => hE h₂ e (fun c o c1 c2 x => hs₂ _ _ c2 (hs₁.extBut _ _ c1 x)) he)

/-- a zip over two lists before its turn i -/
inductive ZipSt (ok : Addr → Prop) (z TI TO i1 i2 l1 l2 : Addr) (xs ys : Array Value) : Nat → Heap → Prop where
  | first {h : Heap} {a b : Value} : IsZipF h z TI TO .none false → IsPair h TI (.ref i1) (.ref i2) → IsPair h TO a b → h.IsListIter i1 l1 0 → h.IsListIter i2 l2 0 → h.IsList l1 xs → h.IsList l2 ys → ZipSt ok z TI TO i1 i2 l1 l2 xs ys 0 h
  | later {h : Heap} {i : Nat} {T0 : Addr} {bb : Bool} {oT : Obj} : ok T0 → IsZipF h z TI TO (rawInt T0) bb → h.get? T0 = some oT → IsPair h TI (.ref i1) (.ref i2) → h.IsListIter i1 l1 (i + 1) → h.IsListIter i2 l2 (i + 1) → h.IsList l1 xs → h.IsList l2 ys → ZipSt ok z TI TO i1 i2 l1 l2 xs ys (i + 1) h
theorem ZipSt.own {ok : Addr → Prop} {z TI TO i1 i2 l1 l2 : Addr} {xs ys : Array Value} {i : Nat} {h : Heap} (kz : ok z) (kTI : ok TI) (kTO : ok TO) (k1 : ok i1) (k2 : ok i2) (st : ZipSt ok z TI TO i1 i2 l1 l2 xs ys i h) :
    ∃ own : List (Addr × Obj), (∀ p ∈ own, h.get? p.1 = some p.2 ∧ ok p.1) ∧ ∀ h'' : Heap, (∀ p ∈ own, h''.get? p.1 = some p.2) → h''.IsList l1 xs → h''.IsList l2 ys → ZipSt ok z TI TO i1 i2 l1 l2 xs ys i h'' := by
  cases st with
  | @first _ va vb a b c d e f g =>
    obtain ⟨o1, d1, d2⟩ := d
    obtain ⟨o2, e1, e2⟩ := e
    refine ⟨[(z, _), (TI, _), (TO, _), (i1, o1), (i2, o2)], fun p hp => ?_, fun h'' k f' g' => @ZipSt.first ok z TI TO i1 i2 l1 l2 xs ys h'' va vb (k _ (.head _)) (k _ (.tail _ (.head _))) (k _ (.tail _ (.tail _ (.head _)))) ⟨o1, k _ (.tail _ (.tail _ (.tail _ (.head _)))), d2⟩ ⟨o2, k _ (.tail _ (.tail _ (.tail _ (.tail _ (.head _))))), e2⟩ f' g'⟩
    simp only [List.mem_cons, List.not_mem_nil, or_false] at hp
    rcases hp with rfl | rfl | rfl | rfl | rfl
    · exact ⟨a, kz⟩
    · exact ⟨b, kTI⟩
    · exact ⟨c, kTO⟩
    · exact ⟨d1, k1⟩
    · exact ⟨e1, k2⟩
  | @later _ ii T0 vbb oT u a a' b d e f g =>
    obtain ⟨o1, d1, d2⟩ := d
    obtain ⟨o2, e1, e2⟩ := e
    refine ⟨[(z, _), (TI, _), (i1, o1), (i2, o2), (T0, oT)], fun p hp => ?_, fun h'' k f' g' => @ZipSt.later ok z TI TO i1 i2 l1 l2 xs ys h'' ii T0 vbb oT u (k _ (.head _)) (k _ (.tail _ (.tail _ (.tail _ (.tail _ (.head _)))))) (k _ (.tail _ (.head _))) ⟨o1, k _ (.tail _ (.tail _ (.head _))), d2⟩ ⟨o2, k _ (.tail _ (.tail _ (.tail _ (.head _)))), e2⟩ f' g'⟩
    simp only [List.mem_cons, List.not_mem_nil, or_false] at hp
    rcases hp with rfl | rfl | rfl | rfl | rfl
    · exact ⟨a, kz⟩
    · exact ⟨b, kTI⟩
    · exact ⟨d1, k1⟩
    · exact ⟨e1, k2⟩
    · exact ⟨a', u⟩
theorem zip_item {ok : Addr → Prop} {z TI TO i1 i2 l1 l2 : Addr} {i : Nat} {xs ys : Array Value} {x y : Value} {Q : Option Value → Shared → Prop} (D : ZipApart z TI TO i1 i2 l1 l2) (hst : ZipSt ok z TI TO i1 i2 l1 l2 xs ys i s.heap) (hx : xs[i]? = some x) (hy : ys[i]? = some y)
    (hok : ok s.heap.objs.size)
    (hQ : ∀ h', ZipSt ok z TI TO i1 i2 l1 l2 xs ys (i + 1) h' → IsPair h' s.heap.objs.size x y →
      (∀ c o, c ≠ z → c ≠ TO → c ≠ i1 → c ≠ i2 → s.heap.get? c = some o → h'.get? c = some o) → Q (some (.ref s.heap.objs.size)) { s with heap := h' }) :
    wpAny (model prog w) A (pyNext (.ref z)) Q E s := by
  cases hst with
  | first a b c d e f g =>
    refine wpAny_pyNext_zip_item D a b c d e f g hx hy fun h' a1 a2 a3 a4 a5 a6 a7 => hQ h' (.later hok a1 a5 (a7 _ _ D.TIz D.TITO D.TIi1 D.TIi2 b) a3 a4 (f.at fun o e => a7 _ _ D.l1z D.l1TO D.l1i1 D.l1i2 e) (g.at fun o e => a7 _ _ D.l2z D.l2TO D.l2i1 D.l2i2 e)) a5 a7
  | @later _ _ T0 _ oT u a a' b d e f g =>
    have hT : s.TypeIs (.ref z) "zip" := ⟨_, a, rfl⟩
    unfold pyNext
    refine wpAny_bind (wpAny_attempt (wpAny_callSpecial?_slot (name := Str.ofString "__next__") hT F.slot_zip_next
      (wpAny_call_entry F.slot_zip_next hT F.entry_zip_next
        (zip_again D a a' b d e f g hx hy fun h' a1 a3 a4 a5 a7 => wpAny_pure (hQ h' ?_ a5 fun c o c1 _ c3 c4 => a7 c o c1 c3 c4)) (F.args_zip_next_1 _))))
    by_cases q : T0 = z ∨ T0 = i1 ∨ T0 = i2
    · obtain ⟨oT', e'⟩ : ∃ oT', h'.get? T0 = some oT' := by
        rcases q with q | q | q
        · exact q ▸ ⟨_, a1⟩
        · obtain ⟨o, e, _⟩ := a3; exact q ▸ ⟨o, e⟩
        · obtain ⟨o, e, _⟩ := a4; exact q ▸ ⟨o, e⟩
      exact .later u a1 e' (a7 _ _ D.TIz D.TIi1 D.TIi2 b) a3 a4 (f.at fun o e => a7 _ _ D.l1z D.l1i1 D.l1i2 e) (g.at fun o e => a7 _ _ D.l2z D.l2i1 D.l2i2 e)
    · exact .later u a1 (a7 _ _ (fun e => q (.inl e)) (fun e => q (.inr (.inl e))) (fun e => q (.inr (.inr e))) a') (a7 _ _ D.TIz D.TIi1 D.TIi2 b) a3 a4 (f.at fun o e => a7 _ _ D.l1z D.l1i1 D.l1i2 e) (g.at fun o e => a7 _ _ D.l2z D.l2i1 D.l2i2 e)
theorem zip_done {ok : Addr → Prop} {z TI TO i1 i2 l1 l2 : Addr} {i : Nat} {xs ys : Array Value} {Q : Option Value → Shared → Prop} (hh : A.handled = none) (D : ZipApart z TI TO i1 i2 l1 l2) (hst : ZipSt ok z TI TO i1 i2 l1 l2 xs ys i s.heap) (hi : 0 < i) (hx : xs[i]? = none)
    (hQ : ∀ h', (∀ c o, c ≠ z → c ≠ TO → c ≠ i1 → c ≠ i2 → s.heap.get? c = some o → h'.get? c = some o) → Q none { s with heap := h' }) :
    wpAny (model prog w) A (pyNext (.ref z)) Q E s := by
  cases hst with
  | first => exact absurd hi (Nat.lt_irrefl 0)
  | @later _ _ T0 _ oT u a a' b d e f g =>
    have hT : s.TypeIs (.ref z) "zip" := ⟨_, a, rfl⟩
    unfold pyNext
    refine wpAny_bind (wpAny_attempt (wpAny_callSpecial?_slot (name := Str.ofString "__next__") hT F.slot_zip_next
      (wpAny_call_entry F.slot_zip_next hT F.entry_zip_next (zip_over hh D a a' b d f hx fun h' e hk he => ?_) (F.args_zip_next_1 _))))
    obtain ⟨o, ho, hc⟩ := he
    refine wpAny_bind (wpAny_isInstance (T := "StopIteration") (b := true) ⟨o, ho, hc⟩ isSubtype_stop ?_)
    exact wpAny_pure (hQ _ fun c o c1 _ c3 _ => hk c o c1 c3)
end
abbrev ledLst (items : Array Value) (k : Nat) : Obj := W.listOf items k
section
variable {prog : Program} {w : World} {A : Around} {E : Value → Shared → Prop} {s : Shared} {h₀ : Heap} {L : Addr} {m : Str → Option Value} {env : Env}
/-- a turn of a zip's comprehension ends: the ledger stands -/
def ZTurn (h₀ : Heap) (L : Addr) (m : Str → Option Value) (s : Shared) (all : List (Addr × Obj)) (P : Prop) (s' : Shared) : Prop := ∃ h' tk', s' = { s with heap := h', toks := tk' } ∧ Fr h₀ L h' m ∧ News h₀ L h' all ∧ P
/-- what the turns of a comprehension over a zip are to show -/
def ZTurns (prog : Program) (w : World) (A : Around) (h₀ : Heap) (L : Addr) (m : Str → Option Value) (env : Env) (ifs : List Expr) (elt : Expr) (x : Str) (scope : Scope) (cl : List (Str × Addr)) (s : Shared) (xs ys : Array Value) (news : List (Addr × Obj)) (J : Nat → List Value → Prop) : Prop :=
  ∀ i xv yv acc C oC T rest m₂ h tk (E' : Value → Shared → Prop), xs[i]? = some xv → ys[i]? = some yv → J i acc → LCg.NsObj oC m₂ → m₂ x = some (.ref T) → Fr h₀ L h m →
    News h₀ L h ((C, oC) :: (T, { cls := .type "tuple", data := .seq [xv, yv].toArray }) :: (news ++ rest)) →
    wpAny (model prog w) A (forIn ifs true fun c r => if r = true then do let ok ← isTrue c (compEnvC scope cl C env) (eval c (compEnvC scope cl C env)); pure (ForInStep.yield ok) else pure (ForInStep.yield r)) (fun ok s₃ =>
      if ok = true then wpAny (model prog w) A (eval elt (compEnvC scope cl C env)) (fun y s₄ => ZTurn h₀ L m s ((C, oC) :: (T, { cls := .type "tuple", data := .seq [xv, yv].toArray }) :: (news ++ rest)) (J (i + 1) (acc ++ [y])) s₄) E' s₃
      else ZTurn h₀ L m s ((C, oC) :: (T, { cls := .type "tuple", data := .seq [xv, yv].toArray }) :: (news ++ rest)) (J (i + 1) acc) s₃) E' { s with heap := h, toks := tk }
theorem block_Z {elt iter : Expr} {ifs : List Expr} {x : Str} {px : Pos} {scope : Scope} {cl : List (Str × Addr)} {pos : Pos} {s₂ : Shared} {z TI TO i1 i2 l1 l2 : Addr} {xs ys : Array Value} {k1 k2 n : Nat} {news : List (Addr × Obj)} {J : Nat → List Value → Prop} {RR : Value → Addr → Result → Shared → Prop}
    (hh : A.handled = none) (Dp : ZipApart z TI TO i1 i2 l1 l2) (hxs : xs.size = n) (hys : ys.size = n) (hn0 : 0 < n) (hsz : n ≤ sizeLine)
    (hcell : ∀ y ∈ scope.names, y.2 ≠ .cell) (hkind : scope.kind = .function) (hx : scope.names.lookup x = some .local)
    (Z0 : ZipSt (fun _ => False) z TI TO i1 i2 l1 l2 xs ys 0 s₂.heap) (F : Fr h₀ L s₂.heap m) (N : News h₀ L s₂.heap news) (m1 : (l1, ledLst xs k1) ∈ news) (m2 : (l2, ledLst ys k2) ∈ news)
    (hnew : ∀ a, a = z ∨ a = TI ∨ a = TO ∨ a = i1 ∨ a = i2 → h₀.get? a = none ∧ a ≠ L ∧ a < s₂.heap.objs.size ∧ ∀ p ∈ news, p.1 ≠ a)
    (j0 : J 0 []) (turn : ∀ g, ZTurns prog w A h₀ L m env ifs elt x scope cl { s₂ with heap := g } xs ys news J)
    (hRR : ∀ D C h tk m' acc, Fr h₀ L h m → News h₀ L h ((D, LCg.lst acc) :: news) → LCg.Off1 D news → h.Ns C m' → h₀.get? C = none → h₀.get? D = none → C ≠ L → D ≠ L → C ≠ D → (∀ p ∈ news, p.1 ≠ C) → J n acc → RR (.ref D) C (.ok .next) { s₂ with heap := h, toks := tk }) :
    wpAny (model prog w) A (newList []) (fun acc s₃ => wpAny (model prog w) A (newFunctionEnv scope env.globals cl [] env.qual none .none (some env)) (fun cenv s₄ =>
      codeAny (model prog w) A (.compStart (.ListComp elt [⟨.Name x px, iter, ifs, 0⟩] scope pos) 0 (.ref z) acc { cenv with scope := relabel scope env }) (RR acc cenv.locals) s₄) E s₃) E s₂ := by
  refine wpAny_newObj_type (wpAny_newFunctionEnv hcell (by intro y hy; simp at hy) (fun h₁ hns₁ hsb₁ => ?_) hkind)
  dsimp only at hns₁ hsb₁ ⊢
  generalize hH2 : s₂.heap.push { cls := .type "list", dict := none, data := .seq ([] : List Value).toArray } = H2 at hns₁ hsb₁ ⊢
  have hC : H2.objs.size = s₂.heap.objs.size + 1 := by rw [← hH2, Heap.size_push]
  have hDC : s₂.heap.objs.size ≠ H2.objs.size := by rw [hC]; exact Nat.ne_of_lt (Nat.lt_succ_self _)
  have below : ∀ b, b < s₂.heap.objs.size → b ≠ H2.objs.size ∧ b ≠ s₂.heap.objs.size := fun b hb => ⟨by rw [hC]; exact Nat.ne_of_lt (Nat.lt_succ_of_lt hb), Nat.ne_of_lt hb⟩
  have old : ∀ b o, s₂.heap.get? b = some o → h₁.get? b = some o := fun b o e => hsb₁.extBut b o (below b (Heap.lt_size e)).1 (Heap.get?_push_of_some _ (hH2 ▸ Heap.get?_push_of_some _ e))
  have hacc : h₁.get? s₂.heap.objs.size = some (LCg.lst []) := hsb₁.extBut _ _ hDC (Heap.get?_push_of_some _ (hH2 ▸ Heap.get?_push_size _ rfl))
  have fresh : ∀ a, s₂.heap.objs.size ≤ a → h₀.get? a = none := fun a ha => by
    cases e : h₀.get? a with
    | none => rfl
    | some o' => exact absurd (Heap.lt_size (F.keep a o' e)) (Nat.not_lt.mpr ha)
  have hD₀ : h₀.get? s₂.heap.objs.size = none := fresh _ (Nat.le_refl _)
  have hC₀ : h₀.get? H2.objs.size = none := fresh _ (by rw [hC]; exact Nat.le_succ _)
  have hLlt : L < s₂.heap.objs.size := F.ns.lt
  have hDL : s₂.heap.objs.size ≠ L := Ne.symm (below L hLlt).2
  have hCL : H2.objs.size ≠ L := Ne.symm (below L hLlt).1
  have hn1 : ∀ p ∈ news, p.1 ≠ H2.objs.size ∧ p.1 ≠ s₂.heap.objs.size := fun p hp => below _ (Heap.lt_size (N p hp).1)
  let ok : Addr → Prop := fun a => h₀.get? a = none ∧ a ≠ L ∧ a ≠ H2.objs.size ∧ a ≠ s₂.heap.objs.size
  have okf : ∀ a, a = z ∨ a = TI ∨ a = TO ∨ a = i1 ∨ a = i2 → ok a := fun a ha => let ⟨b1, b2, b3, _⟩ := hnew a ha; ⟨b1, b2, below a b3⟩
  have kz := okf z (.inl rfl)
  have kTI := okf TI (.inr (.inl rfl))
  have kTO := okf TO (.inr (.inr (.inl rfl)))
  have k1' := okf i1 (.inr (.inr (.inr (.inl rfl))))
  have k2' := okf i2 (.inr (.inr (.inr (.inr rfl))))
  have lists : ∀ {h : Heap} {r : List (Addr × Obj)}, News h₀ L h (news ++ r) → h.IsList l1 xs ∧ h.IsList l2 ys := fun N' => ⟨⟨_, (N' _ (List.mem_append_left _ m1)).1, rfl, _, rfl⟩, ⟨_, (N' _ (List.mem_append_left _ m2)).1, rfl, _, rfl⟩⟩
  have Z1 : ZipSt ok z TI TO i1 i2 l1 l2 xs ys 0 h₁ := by
    cases Z0 with
    | first a b c d e f g => exact .first (old _ _ a) (old _ _ b) (old _ _ c) (d.at fun o e => old _ o e) (e.at fun o e => old _ o e) (f.at fun o e => old _ o e) (g.at fun o e => old _ o e)
  have loop : ∀ s₃ : Shared, s₃ = { s₂ with heap := h₁, toks := s₂.toks + ([] : List (Str × Value)).length } →
      codeAny (model prog w) A (.compLoop (.ListComp elt [⟨.Name x px, iter, ifs, 0⟩] scope pos) 0 (.ref z) (.ref s₂.heap.objs.size) (compEnvC scope cl H2.objs.size env))
        (RR (.ref s₂.heap.objs.size) H2.objs.size) s₃ := by
    rintro s₃ rfl
    refine codeAny_compLoop_tests
      (fun k s' => ∃ h' tk i acc m', s' = { s₂ with heap := h', toks := tk } ∧ i ≤ n ∧ k = n + 1 - i ∧ acc.length ≤ i ∧ ZipSt ok z TI TO i1 i2 l1 l2 xs ys i h' ∧ Fr h₀ L h' m ∧ h'.Ns H2.objs.size m' ∧ News h₀ L h' ((s₂.heap.objs.size, LCg.lst acc) :: news) ∧ J i acc) ?_ (n + 1)
      ⟨h₁, _, 0, [], _, rfl, Nat.zero_le _, rfl, Nat.le_refl _, Z1, F.keeps old, hns₁, fun p hp => ?_, j0⟩
    · rintro k s' ⟨h', tk, i, acc, m', rfl, hi, rfl, hal, hst', F', hn', N', hJ⟩
      have adv : ∀ h₂ : Heap, (∀ c o, c ≠ z → c ≠ TO → c ≠ i1 → c ≠ i2 → h'.get? c = some o → h₂.get? c = some o) → Fr h₀ L h₂ m ∧ h₂.Ns H2.objs.size m' ∧ News h₀ L h₂ ((s₂.heap.objs.size, LCg.lst acc) :: news) := by
        intro h₂ hk₂
        have kk : ∀ c o, (c ≠ z ∧ c ≠ TO ∧ c ≠ i1 ∧ c ≠ i2) → h'.get? c = some o → h₂.get? c = some o := fun c o a e => hk₂ c o a.1 a.2.1 a.2.2.1 a.2.2.2 e
        have apart : ∀ c, (h₀.get? c ≠ none ∨ c = L ∨ c = H2.objs.size ∨ c = s₂.heap.objs.size) → c ≠ z ∧ c ≠ TO ∧ c ≠ i1 ∧ c ≠ i2 := by
          intro c hc
          have key : ∀ a, ok a → c ≠ a := by
            rintro a ⟨q1, q2, q3, q4⟩ rfl
            rcases hc with e | e | e | e
            · exact e q1
            · exact q2 e
            · exact q3 e
            · exact q4 e
          exact ⟨key _ kz, key _ kTO, key _ k1', key _ k2'⟩
        have F₂ : Fr h₀ L h₂ m := ⟨F'.ns.at' fun o e => kk _ o (apart _ (.inr (.inl rfl))) e, fun b o e => kk b o (apart b (.inl (by rw [e]; exact fun q => nomatch q))) (F'.keep b o e), F'.above⟩
        have hn₂ : h₂.Ns H2.objs.size m' := hn'.at' fun o e => kk _ o (apart _ (.inr (.inr (.inl rfl)))) e
        have N₂ : News h₀ L h₂ ((s₂.heap.objs.size, LCg.lst acc) :: news) := fun p hp => by
          refine ⟨kk _ _ ?_ (N' p hp).1, (N' p hp).2⟩
          rcases List.mem_cons.mp hp with rfl | hp
          · exact apart _ (.inr (.inr (.inr rfl)))
          · exact ⟨(hnew z (.inl rfl)).2.2.2 p hp, (hnew TO (.inr (.inr (.inl rfl)))).2.2.2 p hp, (hnew i1 (.inr (.inr (.inr (.inl rfl))))).2.2.2 p hp, (hnew i2 (.inr (.inr (.inr (.inr rfl))))).2.2.2 p hp⟩
        exact ⟨F₂, hn₂, N₂⟩
      by_cases hlt : i < n
      · have ex : ∃ xv, xs[i]? = some xv := ⟨_, Array.getElem?_eq_getElem (hxs ▸ hlt)⟩
        have ey : ∃ yv, ys[i]? = some yv := ⟨_, Array.getElem?_eq_getElem (hys ▸ hlt)⟩
        obtain ⟨xv, hxv⟩ := ex
        obtain ⟨yv, hyv⟩ := ey
        have dlt : s₂.heap.objs.size < h'.objs.size := Heap.lt_size (N' _ List.mem_cons_self).1
        have clt : H2.objs.size < h'.objs.size := hn'.lt
        have okT : ok h'.objs.size := ⟨next_is_new F', Ne.symm (Nat.ne_of_lt F'.ns.lt), Ne.symm (Nat.ne_of_lt clt), Ne.symm (Nat.ne_of_lt dlt)⟩
        refine zip_item Dp hst' hxv hyv okT fun h₂ hst₂ hT₂ hk₂ => ?_
        obtain ⟨F₂, hn₂, N₂⟩ := adv h₂ hk₂
        refine wpAny_assign_Name (wpAny_storeName_local (lookup_relabel_local hx) hn₂ (fun h₃ hn₃ hs₃ => ?_) (by simp [compEnvC, relabel, hkind]))
        obtain ⟨own, hown, hback⟩ := hst₂.own kz kTI kTO k1' k2'
        obtain ⟨oC, heC, hoC⟩ := LCg.ns_obj hn₃
        have F₃ : Fr h₀ L h₃ m := F₂.change hs₃ hCL hC₀
        have N₃ : News h₀ L h₃ ((H2.objs.size, oC) :: (h'.objs.size, { cls := .type "tuple", data := .seq [xv, yv].toArray }) :: (news ++ ((s₂.heap.objs.size, LCg.lst acc) :: own))) := fun p hp => by
          rcases List.mem_cons.mp hp with rfl | hp
          · exact ⟨heC, hCL, hC₀⟩
          rcases List.mem_cons.mp hp with rfl | hp
          · exact ⟨hs₃.extBut _ _ okT.2.2.1 hT₂, okT.2.1, okT.1⟩
          rcases List.mem_append.mp hp with hp | hp
          · exact ⟨hs₃.extBut _ _ (hn1 p hp).1 (N₂ p (.tail _ hp)).1, (N₂ p (.tail _ hp)).2⟩
          rcases List.mem_cons.mp hp with rfl | hp
          · exact ⟨hs₃.extBut _ _ hDC (N₂ _ (.head _)).1, (N₂ _ (.head _)).2⟩
          · have q := hown p hp
            exact ⟨hs₃.extBut _ _ q.2.2.2.1 q.1, q.2.2.1, q.2.1⟩
        have fin : ∀ acc' s₄, acc'.length ≤ i + 1 → ZTurn h₀ L m { s₂ with heap := h₃ } ((H2.objs.size, oC) :: (h'.objs.size, { cls := .type "tuple", data := .seq [xv, yv].toArray }) :: (news ++ ((s₂.heap.objs.size, LCg.lst acc) :: own))) (J (i + 1) acc') s₄ →
            ∃ h₄ tk₄, s₄ = { s₂ with heap := h₄, toks := tk₄ } ∧ h₄.get? s₂.heap.objs.size = some (LCg.lst acc) ∧ ∀ h₅ : Heap, Heap.SameBut s₂.heap.objs.size h₄ h₅ ∨ h₅ = h₄ → h₅.get? s₂.heap.objs.size = some (LCg.lst acc') →
              ∃ mm, mm < n + 1 - i ∧ ∃ h' tk i acc m', ({ s₂ with heap := h₅, toks := tk₄ } : Shared) = { s₂ with heap := h', toks := tk } ∧ i ≤ n ∧ mm = n + 1 - i ∧ acc.length ≤ i ∧ ZipSt ok z TI TO i1 i2 l1 l2 xs ys i h' ∧ Fr h₀ L h' m ∧ h'.Ns H2.objs.size m' ∧ News h₀ L h' ((s₂.heap.objs.size, LCg.lst acc) :: news) ∧ J i acc := by
          rintro acc' s₄ hlen ⟨h₄, tk₄, rfl, F₄, N₄, J₄⟩
          refine ⟨h₄, tk₄, rfl, (N₄ _ (.tail _ (.tail _ (List.mem_append_right _ (.head _))))).1, fun h₅ hs₅ hD₅ => ?_⟩
          have k5 : ∀ b o, b ≠ s₂.heap.objs.size → h₄.get? b = some o → h₅.get? b = some o := fun b o nb e => by
            rcases hs₅ with q | q
            · exact q.extBut b o nb e
            · exact q ▸ e
          have N₅ : ∀ p ∈ news, h₅.get? p.1 = some p.2 := fun p hp => k5 _ _ (hn1 p hp).2 (N₄ p (.tail _ (.tail _ (List.mem_append_left _ hp)))).1
          refine ⟨n + 1 - (i + 1), by omega, h₅, tk₄, i + 1, acc', _, rfl, hlt, rfl, hlen, ?_, ?_, (hoC.ns (k5 _ _ (Ne.symm hDC) (N₄ _ (.head _)).1)), fun p hp => ?_, J₄⟩
          · exact hback h₅ (fun p hp => k5 _ _ (hown p hp).2.2.2.2 (N₄ p (.tail _ (.tail _ (List.mem_append_right _ (.tail _ hp))))).1) ⟨_, N₅ _ m1, rfl, _, rfl⟩ ⟨_, N₅ _ m2, rfl, _, rfl⟩
          · refine ⟨F₄.ns.at' fun o e => k5 _ o (Ne.symm hDL) e, fun b o e => k5 b o (fun q => by rw [q, hD₀] at e; cases e) (F₄.keep b o e), F₄.above⟩
          · rcases List.mem_cons.mp hp with rfl | hp
            · exact ⟨hD₅, hDL, hD₀⟩
            · exact ⟨N₅ p hp, (N' p (.tail _ hp)).2⟩
        have TT := fun E' => turn h₃ i xv yv acc H2.objs.size oC h'.objs.size ((s₂.heap.objs.size, LCg.lst acc) :: own) _ h₃ (tk + 1) E' hxv hyv hJ hoC (by simp) F₃ N₃
        dsimp only at TT ⊢
        refine wpAny_mono (TT _) (fun okb s₄ h₄ => ?_) fun _ _ e => e
        cases okb with
        | true =>
          simp only [if_true] at h₄ ⊢
          refine wpAny_mono h₄ (fun y s₅ h₅ => ?_) fun _ _ e => e
          obtain ⟨h₆, tk₆, rfl, zD, back⟩ := fin _ _ (by rw [List.length_append, List.length_singleton]; omega) h₅
          refine append_at (hsz := by show acc.toArray.size ≤ sizeLine; rw [List.size_toArray]; exact Nat.le_trans (Nat.le_trans hal hi) hsz) zD fun h₇ hs₇ hD₇ => ?_
          exact back h₇ (.inl hs₇) (hD₇.trans (congrArg some (LCg.lst_snoc acc y)))
        | false =>
          simp only [Bool.false_eq_true, if_false] at h₄ ⊢
          obtain ⟨h₆, tk₆, rfl, zD, back⟩ := fin _ _ (by omega) h₄
          exact back h₆ (.inr rfl) zD
      · obtain rfl : i = n := Nat.le_antisymm hi (Nat.not_lt.mp hlt)
        refine zip_done hh Dp hst' hn0 (Array.getElem?_eq_none (by omega)) fun h₂ hk₂ => ?_
        obtain ⟨F₂, hn₂, N₂⟩ := adv h₂ hk₂
        exact hRR _ _ h₂ tk _ acc F₂ N₂ (LCg.Off3.one (I := H2.objs.size) (C := H2.objs.size) (LCg.Off3.of fun p hp => ⟨(hn1 p hp).1, (hn1 p hp).1, (hn1 p hp).2⟩)) hn₂ hC₀ hD₀ hCL hDL (Ne.symm hDC) (fun p hp => (hn1 p hp).1) hJ
    · rcases List.mem_cons.mp hp with rfl | hp
      · exact ⟨hacc, hDL, hD₀⟩
      · exact ⟨old _ _ (N p hp).1, (N p hp).2⟩
  refine codeAny_compStart_list (loop _ rfl) ?_
  have hz₁ : IsZip h₁ z TI TO .none := by
    cases Z1 with
    | first a => exact a
  exact wpAny_pyIter_zip hz₁ (loop _ rfl)
/-- what is asked of the iterator of a comprehension over a zip -/
def BlockAtZ (prog : Program) (w : World) (A : Around) (h₀ : Heap) (L : Addr) (m : Str → Option Value) (env : Env) (ifs : List Expr) (elt : Expr) (x : Str) (scope : Scope) (cl : List (Str × Addr)) (Fin : Shared → List Value → List (Addr × Obj) → Prop) (it : Value) (s₂ : Shared) : Prop :=
  ∃ (z TI TO i1 i2 l1 l2 : Addr) (xs ys : Array Value) (k1 k2 n : Nat) (news : List (Addr × Obj)) (J : Nat → List Value → Prop), it = .ref z ∧ A.handled = none ∧ ZipApart z TI TO i1 i2 l1 l2 ∧ xs.size = n ∧ ys.size = n ∧ 0 < n ∧ n ≤ sizeLine ∧
    ZipSt (fun _ => False) z TI TO i1 i2 l1 l2 xs ys 0 s₂.heap ∧ Fr h₀ L s₂.heap m ∧ News h₀ L s₂.heap news ∧ (l1, ledLst xs k1) ∈ news ∧ (l2, ledLst ys k2) ∈ news ∧
    (∀ a, a = z ∨ a = TI ∨ a = TO ∨ a = i1 ∨ a = i2 → h₀.get? a = none ∧ a ≠ L ∧ a < s₂.heap.objs.size ∧ ∀ p ∈ news, p.1 ≠ a) ∧ J 0 [] ∧ (∀ g, ZTurns prog w A h₀ L m env ifs elt x scope cl { s₂ with heap := g } xs ys news J) ∧ ∀ acc, J n acc → Fin s₂ acc news
theorem ListComp_Z {elt iter : Expr} {ifs : List Expr} {x : Str} {px : Pos} {scope : Scope} {cl : List (Str × Addr)} {pos : Pos} {Q : Value → Shared → Prop} (_F₀ : Fr h₀ L s.heap m)
    (hclos : closureFor scope env = pure cl) (hcell : ∀ y ∈ scope.names, y.2 ≠ .cell) (hkind : scope.kind = .function)
    (hnames : ∀ y ∈ scope.names, y.2 = .local → scope.names.lookup y.1 = some .local) (hx : scope.names.lookup x = some .local)
    (h : wpAny (model prog w) A (eval iter env) (fun xv s₁ => wpAny (model prog w) A (pyIter xv) (BlockAtZ prog w A h₀ L m env ifs elt x scope cl (fun s₂ => LCg.FinE h₀ L m s₂ Q)) E s₁) E s)
    (hs : ∀ x, foldedSetIterable iter env x = pure x := by intro _; rfl) :
    wpAny (model prog w) A (eval (.ListComp elt [⟨.Name x px, iter, ifs, 0⟩] scope pos) env) Q E s := by
  rw [eval_ListComp]
  refine wpAny_comprehension_free (use := none) rfl hs hclos hkind hnames (wpAny_mono h (fun xv s₁ h₁ => ?_) fun _ _ e => e)
  refine wpAny_mono h₁ (fun it s₂ b => ?_) fun _ _ e => e
  obtain ⟨z, TI, TO, i1, i2, l1, l2, xs, ys, k1, k2, n, news, J, rfl, hh, Dp, hxs, hys, hn0, hsz, Z0, F, N, m1, m2, hnew, j0, turn, fin⟩ := b
  refine block_Z hh Dp hxs hys hn0 hsz hcell hkind hx Z0 F N m1 m2 hnew j0 turn ?_
  intro D C h tk m' acc F' N' o1 hn hC₀ hD₀ hCL hDL hCD offC hJ
  refine ⟨m', hn, fun h'' hs'' => fin acc hJ D h'' tk (F'.change hs'' hCL hC₀) (fun p hp => ⟨hs''.extBut _ _ ?_ (N' p hp).1, (N' p hp).2⟩) o1⟩
  rcases List.mem_cons.mp hp with rfl | hp
  · exact Ne.symm hCD
  · exact offC p hp
theorem Assign_ListComp_Z {elt iter : Expr} {ifs : List Expr} {x y : Str} {px py : Pos} {scope : Scope} {cl : List (Str × Addr)} {pos spos : Pos} {Q : Flow → Shared → Prop} (_F₀ : Fr h₀ L s.heap m) (hLe : env.locals = L)
    (hsw : swapsWith (.ListComp elt [⟨.Name x px, iter, ifs, 0⟩] scope pos) (some (.Name y py)) spos.line env = pure true)
    (hclos : closureFor scope env = pure cl) (hcell : ∀ z ∈ scope.names, z.2 ≠ .cell) (hkind : scope.kind = .function)
    (hnames : ∀ z ∈ scope.names, z.2 = .local → scope.names.lookup z.1 = some .local) (hx : scope.names.lookup x = some .local)
    (hy : env.kindOf y = some .local) (hp : (env.scope.kind == .class || (env.scope.kind == .module && env.locals != env.globals)) = false)
    (h : wpAny (model prog w) A (eval iter env) (fun xv s₁ => wpAny (model prog w) A (pyIter xv) (BlockAtZ prog w A h₀ L m env ifs elt x scope cl (fun s₂ => LCg.FinA h₀ L m s₂ y Q)) E s₁) E s)
    (hs : ∀ x, foldedSetIterable iter env x = pure x := by intro _; rfl) :
    wpAny (model prog w) A (exec (.Assign [.Name y py] (.ListComp elt [⟨.Name x px, iter, ifs, 0⟩] scope pos) spos) env) Q E s := by
  subst hLe
  rw [exec_Assign_Name_used _ _ _ _ hsw]
  refine wpAny_bind (wpAny_standAt (wpAny_bind ?_))
  show wpAny _ A (do let _ ← comprehension (.ListComp elt [⟨.Name x px, iter, ifs, 0⟩] scope pos) scope env _ (newList []) false (eval iter env) (some (assign (.Name y py) env))) _ _ s
  refine wpAny_bind (wpAny_mono (wpAny_comprehension_free (use := some (assign (.Name y py) env)) (Q := fun _ s' => Q .next s') rfl hs hclos hkind hnames
    (wpAny_mono h (fun xv s₁ h₁ => ?_) fun _ _ e => e)) (fun _ s' hq => wpAny_pure (wpAny_pure hq)) fun _ _ e => e)
  refine wpAny_mono h₁ (fun it s₂ b => ?_) fun _ _ e => e
  obtain ⟨z, TI, TO, i1, i2, l1, l2, xs, ys, k1, k2, n, news, J, rfl, hh, Dp, hxs, hys, hn0, hsz, Z0, F, N, m1, m2, hnew, j0, turn, fin⟩ := b
  refine block_Z hh Dp hxs hys hn0 hsz hcell hkind hx Z0 F N m1 m2 hnew j0 turn ?_
  intro D C h' tk m' acc F' N' o1 hn hC₀ hD₀ hCL hDL hCD offC hJ
  show wpAny _ A (assign (.Name y py) env (.ref D)) _ _ _
  refine wpAny_assign_Name (wpAny_storeName_local hy F'.ns (fun h₂ hn₂ hs₂ => ?_) hp)
  have hL₀ : h₀.get? env.locals = none := Heap.get?_none_of_le F'.above
  have F₂ : Fr h₀ env.locals h₂ (fun z => if z = y then some (.ref D) else m z) := ⟨hn₂, fun b o e => hs₂.extBut b o (fun q => by rw [q, hL₀] at e; cases e) (F'.keep b o e), F'.above⟩
  refine ⟨m', hn.sameBut hs₂ hCL, fun h'' hs'' => fin acc hJ D h'' _ (F₂.change hs'' hCL hC₀) (fun p hp => ?_) o1⟩
  have z : h₂.get? p.1 = some p.2 := hs₂.extBut _ _ (N' p hp).2.1 (N' p hp).1
  refine ⟨hs''.extBut _ _ ?_ z, (N' p hp).2⟩
  rcases List.mem_cons.mp hp with rfl | hp
  · exact Ne.symm hCD
  · exact offC p hp
/-- the call of zip on two lists of the ledger, as a comprehension's source -/
theorem zip_src {elt : Expr} {ifs : List Expr} {x : Str} {scope : Scope} {cl : List (Str × Addr)} {Fin : Shared → List Value → List (Addr × Obj) → Prop} {l1 l2 : Addr} {xs ys : Array Value} {k1 k2 n : Nat} {news : List (Addr × Obj)} (J : Nat → List Value → Prop)
    (hh : A.handled = none) (F : Fr h₀ L s.heap m) (N : News h₀ L s.heap news) (m1 : (l1, ledLst xs k1) ∈ news) (m2 : (l2, ledLst ys k2) ∈ news) (hxs : xs.size = n) (hys : ys.size = n) (hn0 : 0 < n) (hsz : n ≤ sizeLine) (j0 : J 0 [])
    (turn : ∀ g, ZTurns prog w A h₀ L m env ifs elt x scope cl { s with heap := g } xs ys news J) (fin : ∀ g acc, J n acc → Fin { s with heap := g } acc news) :
    wpAny (model prog w) A (call (.type "zip") [.ref l1, .ref l2]) (fun xv s₁ => wpAny (model prog w) A (pyIter xv) (BlockAtZ prog w A h₀ L m env ifs elt x scope cl Fin) E s₁) E s := by
  have hl1 : s.heap.IsList l1 xs := ⟨_, (N _ m1).1, rfl, _, rfl⟩
  have hl2 : s.heap.IsList l2 ys := ⟨_, (N _ m2).1, rfl, _, rfl⟩
  have a1 : l1 < s.heap.objs.size := Heap.lt_size (N _ m1).1
  have a2 : l2 < s.heap.objs.size := Heap.lt_size (N _ m2).1
  refine call_zip_2 hl1 hl2 fun h' hz hTI hTO hi1 hi2 hs5 hk => ?_
  refine wpAny_pyIter_zip hz ?_
  refine ⟨_, _, _, _, _, l1, l2, xs, ys, k1, k2, n, news, J, rfl, hh, zipApart_new a1 a2, hxs, hys, hn0, hsz, .first hz hTI hTO hi1 hi2 (hl1.at fun o e => hk _ o e) (hl2.at fun o e => hk _ o e), F.keeps hk, N.grown hk, m1, m2, ?_, j0, turn, fin _⟩
  intro a ha
  have big : s.heap.objs.size ≤ a ∧ a < s.heap.objs.size + 5 := by
    rcases ha with rfl | rfl | rfl | rfl | rfl <;> exact ⟨by first | exact Nat.le_refl _ | exact Nat.le_add_right _ _, by first | exact Nat.add_lt_add_left (by decide) _ | exact Nat.lt_add_of_pos_right (by decide)⟩
  refine ⟨?_, fun e => absurd F.ns.lt (e ▸ Nat.not_lt.mpr big.1), hs5 ▸ big.2, fun p hp e => absurd (Heap.lt_size (N p hp).1) (e ▸ Nat.not_lt.mpr big.1)⟩
  cases e : h₀.get? a with
  | none => rfl
  | some o' => exact absurd (Heap.lt_size (F.keep a o' e)) (Nat.not_lt.mpr big.1)
end
section
variable {prog : Program} {w : World} {A : Around} {E : Value → Shared → Prop} {s : Shared} {h₀ : Heap} {L : Addr} {m : Str → Option Value} {env : Env}
/-- the turns of a comprehension with a test, by an invariant -/
theorem restT_inv {ct elt : Expr} {x : Str} {scope : Scope} {cl : List (Str × Addr)} {S : Led → Prop} {P : Nat → Value → Prop} {Fin : List Value → Led → Prop} {n : Nat} (J : Nat → List Value → Led → Prop)
    (step : ∀ i ys news v I oI C oC D m₂ h tk (E' : Value → Shared → Prop), i < n → J i ys news → P i v → LCg.NsObj oC m₂ → m₂ x = some v → Fr h₀ L h m → News h₀ L h ((I, oI) :: (C, oC) :: (D, LCg.lst ys) :: news) → LCg.Off3 I C D news → ((@Ne Nat I C) ∧ (@Ne Nat I D) ∧ (@Ne Nat C D)) →
      wpAny (model prog w) A (isTrue ct (compEnvC scope cl C env) (eval ct (compEnvC scope cl C env))) (fun ok s' => if ok = true then
        wpAny (model prog w) A (eval elt (compEnvC scope cl C env)) (LCg.CompEnd h₀ L m { s with heap := h, toks := tk } I oI C oC D (LCg.lst ys) S (fun y news' => J (i + 1) (ys ++ [y]) news')) E' s'
        else LCg.CompEnd h₀ L m { s with heap := h, toks := tk } I oI C oC D (LCg.lst ys) S (fun _ news' => J (i + 1) ys news') Value.none s') E' { s with heap := h, toks := tk })
    (fin : ∀ ys news, J n ys news → Fin ys news) : ∀ (k i : Nat) (ys : List Value) (news : Led), i + k = n → J i ys news → LCt.CompRestT prog w A h₀ L m env ct elt x scope cl s S P Fin k i ys news
  | 0, i, ys, news, e, j => by
    have : i = n := e
    subst this
    exact LCt.CompRestT.zero (fin _ _ j)
  | k + 1, i, ys, news, e, j => LCt.CompRestT.succ fun v I oI C oC D m₂ h tk E' hP hC hx F N off ne =>
    wpAny_mono (step i ys news v I oI C oC D m₂ h tk E' (by omega) j hP hC hx F N off ne) (fun ok s₂ c => by
      cases ok with
      | true =>
        simp only [if_true] at c ⊢
        refine wpAny_mono c (fun y s₃ c => ?_) fun _ _ e => e
        obtain ⟨h', tk', news', e1, F', N', off', hS', r⟩ := c
        exact ⟨h', tk', news', e1, F', N', off', hS', restT_inv J step fin k (i + 1) (ys ++ [y]) news' (by omega) r⟩
      | false =>
        simp only [Bool.false_eq_true, if_false] at c ⊢
        obtain ⟨h', tk', news', e1, F', N', off', hS', r⟩ := c
        exact ⟨h', tk', news', e1, F', N', off', hS', restT_inv J step fin k (i + 1) ys news' (by omega) r⟩) fun _ _ e => e
/-- a turn's end that keeps the ledger, of a zip -/
theorem zturn_same {h' : Heap} {tk : Nat} {all : Led} {P : Prop} (F : Fr h₀ L h' m) (N : News h₀ L h' all) (r : P) : ZTurn h₀ L m s all P { s with heap := h', toks := tk } := ⟨h', tk, rfl, F, N, r⟩
end

section
variable {prog : Program} {w : World} {A : Around} {E : Value → Shared → Prop} {s : Shared} {h₀ : Heap} {L : Addr} {m : Str → Option Value} {news : Led}
/-- a tuple without its first item -/
theorem slice_rest {value slice : Expr} {t : Addr} {v : Value} {vs : List Value} {u : Tok} {Q : Value → Shared → Prop} (F : Fr h₀ L s.heap m) (N : News h₀ L s.heap news) (ht : IsTup s.heap t (List.toArray (v :: vs)))
    (h : ∀ D h', Fr h₀ L h' m → News h₀ L h' ((D, tupObj vs) :: news) → (∀ p ∈ news, p.1 < D) → Q (.ref D) { s with heap := h' })
    (hs : subscripted slice false (.ref t) (.ref s.heap.objs.size) = operate [.ref s.heap.objs.size, .ref t] (getItem (.ref t) (.ref s.heap.objs.size)))
    (hg : ∀ r, letTemporaryGo value (.ref t) r = pure ()) (hsz : (List.toArray (v :: vs)).size ≤ sizeLine) :
    wpAny (model prog w) A (subscriptTail value slice (.ref t) (.ref s.heap.objs.size)) Q E { s with heap := s.heap.push { cls := .type "slice", data := .fields #[.int 1 u, .none, .none] } } := by
  refine slice_tuple_from (a := 1) F N ht (Nat.le_refl _) (by simp) (fun h' F' N' => h _ h' F' N' fun p hp => Nat.lt_succ_of_lt (Heap.lt_size (N p hp).1)) hs hg hsz
end
local macro_rules | `(tactic| walk_at "subscriptTail Name Slice ref ref") => `(tactic| (k_dflt (refine' slice_rest ?F ?N ?l ?_ ?s ?t ?z; (case F => k_asm); (case N => k_asm); (case l => exact stays_tup (Fr.keep (by k_asm)) (by assumption)); (case s => with_unfolding_all rfl); (case t => (intro _; with_unfolding_all rfl)); (case z => (simp only [List.size_toArray, List.length_cons, List.length_nil, PySem.sizeLine_eq]; omega))); intro D' h' F' N' l1; (try k_lt l1); (try k_sweep)))
section
variable {prog : Program} {w : World} {A₀ A : Around} {s : Shared} {base h₀ : Heap} {outer : List Env} {L : Addr} {m : Str → Option Value} {env : Env} {news : Led} {K : Frag} {p : Program} {loose : List Str} {mean : ExcName → Option Value} {mg mb : Str → Option Value}
/-- the way into a def with cells; what lay in the heap lies in the callee's ground -/
theorem enterC {R : Result → Shared → Prop} {name qual : Str} {params : Arguments} {body : List Stmt} {scope : Scope} {dV kV doc pm cdv ct oc : Value} {an od : Option Addr} {osl : Array (Option Value)} {f : Addr} {args : Args} {binds : List (Str × Value)}
    (B : Below A₀ base outer h₀) (F : Fr h₀ L s.heap m) (X₀ : K.In h₀) (N : News h₀ L s.heap news) (T : Top p loose mean mg mb h₀) (hA : A.frames = some (env :: outer)) (hf : env.frame = some L) (hke : env.scope.kind = .function)
    (ho : K.lookup f = some ⟨oc, od, .func (fnOf name qual params body scope dV kV doc pm an cdv ct), osl⟩) (hcd : codeIn K cdv qual = true) (hroom : A.depth < recursionLimit)
    (hbind : BindsTo s (fnOf name qual params body scope dV kV doc pm an cdv ct) args binds) (hkind : (binds.all fun y => scope.names.lookup y.1 == some .local || scope.names.lookup y.1 == some .cell) = true)
    (hnd : ((cellsFrom 0 scope.names []).map (·.1)).Nodup)
    (h : ∀ g L' h₁ tk cells, Fr h₀ L g m → Fr g L' h₁ (bindL (envOfC qual scope L' f cdv).kindOf binds fun _ => none) → News g L' h₁ (cells ++ news) →
      CellsAre (bindC (envOfC qual scope L' f cdv).kindOf binds fun _ => none) (cellsFrom (L' + 1) scope.names []) cells → Below A base (env :: outer) g → K.In g → Top p loose mean mg mb g → GSub s.heap g (news.map (·.1)) →
      (∀ p ∈ news, p.1 < L') →
      wpAny (model prog w) (A.deeper (envOfC qual scope L' f cdv)) (execs body (envOfC qual scope L' f cdv))
        (fun fl s' => LeaveK h₀ L m g R (match fl with | .ret v => v | _ => .none) s')
        (fun e s' => wpAny (model prog w) (A.deeper (envOfC qual scope L' f cdv)) (leaving (envOfC qual scope L' f cdv) e) (fun _ s'' => R (.error e) s'') (fun e' s'' => R (.error e') s'') s')
        { s with heap := h₁, toks := tk })
    (hco : scope.isCoroutine = false) (hgen : scope.isGenerator = false) (hk : scope.kind = .function) : codeAny (model prog w) A (.call (.ref f) args) R s := by
  obtain ⟨FG, BG, st, back⟩ := groundX (R := R) B F N hA hf hke
  refine codeAny_call_function hroom ((X₀.keeps F.keep) _ _ ho) rfl hco hgen rfl (codeRec_of (X₀.keeps F.keep) hcd) (hbind _ _ _ _ ?_)
  refine wpAny_newFunctionEnv_cells hk (kindsX hkind _) fun env' he s' x => ?_
  subst he
  refine ⟨(T.nolimit.keeps F.keep).keeps x.toInCall.keep, codeAny_func ?_⟩
  obtain ⟨h₁, tk, rfl, _⟩ := x.done
  have kp := x.toInCall.keep
  obtain ⟨cells, NC, Y⟩ := Cl.news (h₀ := s.heap) (Nat.le_refl _) fun n c hm => ⟨x.cell n c (lookup_of_mem_nodup (cellsFrom_names scope.names 0 (s.heap.objs.size + 1) [] [] rfl ▸ hnd) hm), x.above n c hm⟩
  have fr : Fr (hideAll s.heap (news.map (·.1))) s.heap.objs.size h₁ _ := ⟨x.toInCall.ns, fun b o e => kp b o (of_hideAll _ e), Nat.le_of_eq (hideAll_size _ _)⟩
  refine wpAny_mono (h _ s.heap.objs.size h₁ tk cells FG fr ?_ Y BG (X₀.keeps st) (T.keeps st) (fun b o e n => hideAll_get _ e n) fun p hp => Heap.lt_size (N p hp).1) (fun fl s' hl => back _ _ hl) fun _ _ y => y
  intro p hp
  rcases List.mem_append.mp hp with hp | hp
  · refine ⟨(NC p hp).1, (NC p hp).2.1, ?_⟩
    cases q : (hideAll s.heap (news.map (·.1))).get? p.1 with
    | none => rfl
    | some o =>
      have z := of_hideAll _ q
      rw [(NC p hp).2.2] at z
      cases z
  · exact ⟨kp _ _ (N p hp).1, Nat.ne_of_lt (Heap.lt_size (N p hp).1), hideAll_none _ (List.mem_map_of_mem hp)⟩
end
local macro_rules | `(tactic| tb_rel) => `(tactic| (refine wpAny_call ?_; k_dflt (refine' enterC ?k1 ?k2 ?k3 ?k4 ?k5 ?kA ?kF ?kK ?k6 ?k7 ?k8 ?k9 ?kB ?kD ?_ ?c2 ?c3 ?c4; (case kA => exact rfl); (case kF => exact rfl); (case kK => first | exact rfl | assumption); (case k1 => k_asm); (case k2 => k_asm); (case k3 => k_asm); (case k4 => exact News.nil); (case k5 => k_asm); (case k6 => k_is); (case k7 => k_is); (case k8 => ((try simp only [depth_under_make, depth_in1, depth_deeper]); (try dsimp only [ktrTop]); omega)); (case k9 => first | exact BindsTo.of_eq rfl | exact binds_K (by k_in) rfl (by k_is) rfl rfl rfl); (case kB => exact rfl); (case kD => decide +kernel); (case c2 => exact rfl); (case c3 => exact rfl); (case c4 => exact rfl); k_whole; intro g' L' h' tk' cells' FG' F' N' Y' B' X' T' kG' l1; k_cells Y'; (try simp only [List.cons_append, List.nil_append] at N'); (try dsimp only); (try k_fold))))

theorem off_two {news : Led} {a b : Addr} {oa ob : Obj} (O : ∀ q ∈ news, ∀ p ∈ [(a, oa), (b, ob)], @Ne Nat q.1 p.1) : (∀ q ∈ news, q.1 ≠ a) ∧ (∀ q ∈ news, q.1 ≠ b) := ⟨fun q hq => O q hq _ (.head _), fun q hq => O q hq _ (.tail _ (.head _))⟩
theorem off_three {news : Led} {a b c : Addr} {oa ob oc : Obj} (O : ∀ q ∈ news, ∀ p ∈ [(a, oa), (b, ob), (c, oc)], @Ne Nat q.1 p.1) : (∀ q ∈ news, q.1 ≠ a) ∧ (∀ q ∈ news, q.1 ≠ b) ∧ (∀ q ∈ news, q.1 ≠ c) := ⟨fun q hq => O q hq _ (.head _), fun q hq => O q hq _ (.tail _ (.head _)), fun q hq => O q hq _ (.tail _ (.tail _ (.head _)))⟩
theorem ne_off {news : Led} {a d : Addr} {o : Obj} (h : ∀ q ∈ news, q.1 ≠ a) (m : (d, o) ∈ news) : a ≠ d := fun e => h _ m e.symm
theorem off_ne {news : Led} {a d : Addr} {o : Obj} (h : ∀ q ∈ news, q.1 ≠ a) (m : (d, o) ∈ news) : d ≠ a := h _ m
local macro_rules | `(tactic| k_ne) => `(tactic| (refine' off_ne ?zO ?zm; (case zO => assumption); (case zm => k_mem)))
local macro_rules | `(tactic| k_ne) => `(tactic| (refine' ne_off ?zO ?zm; (case zO => assumption); (case zm => k_mem)))
local macro_rules | `(tactic| walk_at "eval Name") => `(tactic| ((with_reducible show wpAny _ _ (eval (Expr.Name _ _) (compEnvC _ _ _ _)) _ _ _); k_dflt (refine kcf_cell (by k_asm) (by rfl) (by k_mem) (by k_asm) ?_)))
local macro_rules | `(tactic| walk_at "pyIter ref") => `(tactic| (refine' block_tuple rfl ?bF ?bN ?bM ?bZ ?_; (case bF => k_asm); (case bN => k_asm); (case bM => k_mem); (case bZ => (simp only [PySem.sizeLine_eq]; omega))))
local macro_rules | `(tactic| walk_at "call ref") => `(tactic| ((with_reducible show wpAny _ _ (call (Value.ref 368) _) _ _ _); k_dflt (refine' Tell.use (kern_tell _ _ _ _ _ ?kb1) ?k1 ?k2 ?k3 ?k4 ?k5 ?k6 ?k7 ?k8 True.intro ?_; (case kb1 => omega); ktn_open; intro r9 tl9 h9 tk9 F9 N9 O9 e9; (obtain ⟨x9, dx9, t91, t92, er9, et9⟩ := e9); subst er9; subst et9; (obtain ⟨P91, P92⟩ := off_two O9); (simp only [List.cons_append, List.nil_append] at N9); (try dsimp only); (try k_fold))))
local macro_rules | `(tactic| walk_at "call ref") => `(tactic| ((with_reducible show wpAny _ _ (call (Value.ref 347) _) _ _ _); k_dflt (refine' Tell.use (rule_tell _ _ _ _ _ _ ?kb1 ?kb2) ?k1 ?k2 ?k3 ?k4 ?k5 ?k6 ?k7 ?k8 True.intro ?_; (case kb1 => omega); (case kb2 => omega); ktn_open; intro r9 tl9 h9 tk9 F9 N9 O9 e9; (obtain ⟨x9, dx9, t91, t92, t93, er9, et9⟩ := e9); subst er9; subst et9; (obtain ⟨P91, P92⟩ := off_two O9); (simp only [List.cons_append, List.nil_append] at N9); (try dsimp only); (try k_fold))))
local macro_rules | `(tactic| walk_at "call ref") => `(tactic| ((with_reducible show wpAny _ _ (call (Value.ref 411) _) _ _ _); k_dflt (refine' Tell.use (penalty_tell _ _ _ _ ?kb1) ?k1 ?k2 ?k3 ?k4 ?k5 ?k6 ?k7 ?k8 True.intro ?_; (case kb1 => omega); ktn_open; intro r9 tl9 h9 tk9 F9 N9 O9 e9; (obtain ⟨x9, dx9, t91, er9, et9⟩ := e9); subst er9; subst et9; (obtain ⟨P91, P92⟩ := off_two O9); (simp only [List.cons_append, List.nil_append] at N9); (try dsimp only); (try k_fold))))
local macro_rules | `(tactic| walk_at "call ref") => `(tactic| ((with_reducible show wpAny _ _ (call (Value.ref 390) _) _ _ _); k_dflt (refine' Tell.use (skip_tell _ _ _ _) ?k1 ?k2 ?k3 ?k4 ?k5 ?k6 ?k7 ?k8 True.intro ?_; ktn_open; intro r9 tl9 h9 tk9 F9 N9 O9 e9; (obtain ⟨x9, dx9, t91, t92, t93, er9, et9⟩ := e9); subst er9; subst et9; (obtain ⟨P91, P92⟩ := off_two O9); (simp only [List.cons_append, List.nil_append] at N9); (try dsimp only); (try k_fold))))
local macro_rules | `(tactic| walk_at "call ref") => `(tactic| ((with_reducible show wpAny _ _ (call (Value.ref 222) _) _ _ _); k_dflt (refine' Tell.use (glue_tell _ _ _ _ _ _ _ _ _ _ _ _ ?kb1 ?kb2 ?kb3 ?kb4 ?kb5) ?k1 ?k2 ?k3 ?k4 ?k5 ?k6 ?k7 ?k8 True.intro ?_; (case kb1 => omega); (case kb2 => omega); (case kb3 => omega); (case kb4 => omega); (case kb5 => omega); ktn_open; intro r9 tl9 h9 tk9 F9 N9 O9 e9; (obtain ⟨x9, dx9, u91, u92, u93, u94, u95, v93, v95, so9, sho9, er9, eso9, esho9, et9⟩ := e9); subst er9; subst et9; subst eso9; subst esho9; (obtain ⟨P91, P92⟩ := off_two O9); (simp only [List.cons_append, List.nil_append] at N9); (try dsimp only); (try k_fold))))

local macro_rules | `(tactic| walk_at "call ref") => `(tactic| ((with_reducible show wpAny _ _ (call (Value.ref 326) _) _ _ _); k_dflt (refine' Tell.use (box_tell _ _ _ _ _ _ _ _ _ _ ?kb1 ?kb2 ?kb3) ?k1 ?k2 ?k3 ?k4 ?k5 ?k6 ?k7 ?k8 True.intro ?_; (case kb1 => omega); (case kb2 => omega); (case kb3 => omega); ktn_open; intro r9 tl9 h9 tk9 F9 N9 O9 e9; (obtain ⟨x9, dx9, q9, u91, u92, u93, u94, u95, u96, u97, u98, u99, v96, v97, v98, v99, v90, er9, l91, l92, et9⟩ := e9); subst er9; subst et9; (obtain ⟨P91, P92, P93⟩ := off_three O9); (replace l91 := ltN l91); (replace l92 := ltN l92); (simp only [List.cons_append, List.nil_append] at N9); (try dsimp only); (try k_fold))))
local macro_rules | `(tactic| k_all) => `(tactic| assumption)
theorem mul_bd {a k : Int} (h1 : -100 < a) (h2 : a < 100) (k1 : 1 ≤ k) (k2 : k < 40) : -4000 < a * k ∧ a * k < 4000 := by
  have z1 := Int.mul_le_mul_of_nonneg_right (show a ≤ 99 by omega) (show 0 ≤ k by omega)
  have z2 := Int.mul_le_mul_of_nonneg_right (show -99 ≤ a by omega) (show 0 ≤ k by omega)
  omega
theorem mul_bd0 {a k : Int} (h1 : 0 ≤ a) (h2 : a < 100) (k1 : 1 ≤ k) (k2 : k < 40) : 0 ≤ a * k ∧ a * k < 4000 :=
  ⟨Int.mul_nonneg h1 (by omega), (mul_bd (by omega) h2 k1 k2).2⟩
def ndOf (k : Int) (mir : Bool) : Pt → Nd
  | .glue a b c d e => if mir then .glue (a * k) (d * k) (if d * k = 0 then 0 else e) (b * k) (if b * k = 0 then 0 else c) else .glue (a * k) (b * k) (if b * k = 0 then 0 else c) (d * k) (if d * k = 0 then 0 else e)
  | .box a b c d => .box (a * k) (b * k) (c * k) (d * k)
  | .rule a b => .rule (a * k) (b * k)
  | .kern a => .kern (a * k)
  | .pen a => .pen a
/-- the heap bears the parts pts as a list's items -/
def PartsIn (h : Heap) (vs : List Value) (pts : List Pt) : Prop := vs.length = pts.length ∧ ∀ (i : Nat) (v : Value), vs[i]? = some v → ∃ T tvs pt, v = .ref T ∧ h.get? T = some (tupObj tvs) ∧ PtV tvs pt ∧ pts[i]? = some pt
theorem PartsIn.mono {h h' : Heap} {vs : List Value} {pts : List Pt} (k : ∀ b o, h.get? b = some o → h'.get? b = some o) (n : PartsIn h vs pts) : PartsIn h' vs pts :=
  ⟨n.1, fun i v e => let ⟨T, tvs, pt, a, b, c, d⟩ := n.2 i v e; ⟨T, tvs, pt, a, k _ _ b, c, d⟩⟩
/-- the ledger bears the nodes nds -/
def NodesM (w : World) (tl : Led) (vs : List Value) (nds : List Nd) : Prop := ∀ h : Heap, (∀ p ∈ tl, h.get? p.1 = some p.2) → NodesIn w h vs nds
def ptNs : Pt → List Int
  | .glue a b c d e => [a, b, c, d, e]
  | .box a b c d => [a, b, c, d]
  | .rule a b => [a, b]
  | .kern a => [a]
  | .pen a => [a]
theorem PtV.rest {tvs : List Value} {pt : Pt} (h : PtV tvs pt) : ∃ nm t0 rst, tvs = .str nm t0 :: rst ∧ rst.length ≤ 5 ∧ IntsAre rst (ptNs pt) := by
  cases h
  · exact ⟨_, _, _, rfl, Nat.le_refl _, .cons _ _ (.cons _ _ (.cons _ _ (.cons _ _ (.cons _ _ .nil))))⟩
  · exact ⟨_, _, _, rfl, by simp only [List.length_cons, List.length_nil]; omega, .cons _ _ (.cons _ _ (.cons _ _ (.cons _ _ .nil)))⟩
  · exact ⟨_, _, _, rfl, by simp only [List.length_cons, List.length_nil]; omega, .cons _ _ (.cons _ _ .nil)⟩
  · exact ⟨_, _, _, rfl, by simp only [List.length_cons, List.length_nil]; omega, .cons _ _ .nil⟩
  · exact ⟨_, _, _, rfl, by simp only [List.length_cons, List.length_nil]; omega, .cons _ _ .nil⟩
def NoJ (w : World) (k : Int) (mir : Bool) (pts : List Pt) (D c : Addr) (oc : Obj) (i : Nat) (m : Str → Option Value) (nx : Led) : Prop :=
  ∃ fv n rest, nx = (D, W.listOf (List.toArray fv) n) :: (c, oc) :: rest ∧ (∀ p ∈ rest, p.1 ≠ D) ∧ NodesM w rest fv ((pts.take i).map (ndOf k mir)) ∧ fv.length = i ∧ m (Str.ofString "found") = some (.ref D) ∧ m (Str.ofString "is_mirrored") = some (.bool mir)
theorem NodesM.snoc {w : World} {pre rest : Led} {fv : List Value} {pts : List Pt} {k : Int} {mir : Bool} {i : Nat} {pt : Pt} {v : Value} (hM : NodesM w rest fv ((pts.take i).map (ndOf k mir))) (hpt : pts[i]? = some pt) (hv : ∀ h : Heap, (∀ p ∈ pre, h.get? p.1 = some p.2) → NodeIn w h v (ndOf k mir pt)) :
    NodesM w (pre ++ rest) (fv.toArray.toList.concat v) ((pts.take (i + 1)).map (ndOf k mir)) := by
  intro h hh
  rw [show fv.toArray.toList = fv from rfl, List.take_add_one, hpt, List.map_append, List.concat_eq_append]
  obtain ⟨a, b⟩ := hM h fun p hp => hh p (List.mem_append_right _ hp)
  have c := hv h fun p hp => hh p (List.mem_append_left _ hp)
  refine ⟨by simp only [List.length_append, List.length_cons, List.length_nil, Option.toList, List.map_cons, List.map_nil] at a ⊢; omega, fun j u e => ?_⟩
  rcases Nat.lt_or_ge j fv.length with q | q
  · rw [List.getElem?_append_left (show j < fv.length from q)] at e
    obtain ⟨nd, e1, e2⟩ := b j u e
    exact ⟨nd, by rw [List.getElem?_append_left (by rw [← a]; exact q)]; exact e1, e2⟩
  · rw [List.getElem?_append_right (show fv.length ≤ j from q)] at e
    have ej : j - fv.length = 0 := by
      have := (List.getElem?_eq_some_iff.mp e).1
      simp only [List.length_cons, List.length_nil] at this
      omega
    rw [ej] at e
    cases e
    refine ⟨ndOf k mir pt, ?_, c⟩
    rw [List.getElem?_append_right (by rw [← a]; exact q), show j - (List.map (ndOf k mir) (List.take i pts)).length = 0 by rw [← a]; exact ej]
    rfl
theorem led_pick {h₀ h : Heap} {L I l c : Addr} {oI o oc : Obj} {all pre rest : Led} (N : News h₀ L h all) (e : all = pre ++ (I, oI) :: (l, o) :: (c, oc) :: rest) : News h₀ L h ((I, oI) :: (l, o) :: (c, oc) :: (pre ++ rest)) := fun p hp => N p (by
  rw [e]
  rcases List.mem_cons.mp hp with rfl | hp
  · exact List.mem_append_right _ (.head _)
  rcases List.mem_cons.mp hp with rfl | hp
  · exact List.mem_append_right _ (.tail _ (.head _))
  rcases List.mem_cons.mp hp with rfl | hp
  · exact List.mem_append_right _ (.tail _ (.tail _ (.head _)))
  rcases List.mem_append.mp hp with hp | hp
  · exact List.mem_append_left _ hp
  · exact List.mem_append_right _ (.tail _ (.tail _ (.tail _ hp))))
theorem off_pick {I l c : Addr} {o oc : Obj} {pre rest : Led} (h1 : @Ne Nat l I) (h2 : @Ne Nat c I) (h3 : ∀ p ∈ pre, @Ne Nat p.1 I) (h4 : ∀ p ∈ rest, @Ne Nat p.1 I) : ∀ p ∈ (l, o) :: (c, oc) :: (pre ++ rest), @Ne Nat p.1 I := fun p hp => by
  rcases List.mem_cons.mp hp with rfl | hp
  · exact h1
  rcases List.mem_cons.mp hp with rfl | hp
  · exact h2
  rcases List.mem_append.mp hp with hp | hp
  · exact h3 p hp
  · exact h4 p hp
theorem off_app {l : Addr} {pre rest : Led} (h3 : ∀ p ∈ pre, p.1 ≠ l) (h4 : ∀ p ∈ rest, p.1 ≠ l) : ∀ p ∈ pre ++ rest, p.1 ≠ l := fun p hp => by
  rcases List.mem_append.mp hp with hp | hp
  · exact h3 p hp
  · exact h4 p hp
theorem nodesM_nil {w : World} : NodesM w [] [] [] := fun _ _ => ⟨rfl, fun i v e => by cases e⟩

set_option maxRecDepth 100000 in
set_option maxHeartbeats 0 in
theorem nodes_tell (w : World) (l : Addr) (vs : List Value) (pts : List Pt) (k orders : Int) (t1 t2 : Tok) (mir : Bool) (news : Led) (hk1 : 1 ≤ k) (hk2 : k < 40) (ho : orders ≤ 4) (hok : ∀ pt ∈ pts, PtOk orders pt) (hn : pts.length ≤ 100) :
    Tell w 570 [.ref l, .int k t1, .bool mir] news (fun h => h.IsList l vs.toArray ∧ PartsIn h vs pts) 10 100 (fun r tl => ∃ D fv n rest, r = .ref D ∧ tl = (D, W.listOf (List.toArray fv) n) :: rest ∧ NodesM w rest fv (pts.map (ndOf k mir))) := by
  w_top off
  intro p loose mean mg mb dp un gd cn cs a ccd cl outer A₀ base h₀ L m s Q E B F X N T hk hd hu hp hret
  tb_rel
  rename GSub _ _ _ => zG
  obtain ⟨hl, hps⟩ := hp
  replace hl := stays_list (gsub_nil zG) hl
  replace hps := hps.mono (gsub_nil zG)
  k_steps
  rename Fr _ _ _ _ => zF
  rename News _ _ _ _ => zN
  rename Obj.data _ = _ => hoc
  refine' loop_list (NoJ w k mir pts _ _ _) rfl hl zF zN ⟨[], _, [], rfl, fun _ h => (nomatch h), nodesM_nil, rfl, rfl, rfl⟩ ?_ ?_
  · intro i v m₁ nx h tk I oI hv hoff hJ F₁ N₁
    obtain ⟨fv, n, rest, rfl, hr, hM, hfl, e1, e2⟩ := hJ
    rw [fun_know e1, fun_know e2] at F₁
    have o1 := hoff _ (.head _)
    have o2 := hoff _ (.tail _ (.head _))
    dsimp only at o1 o2
    clear zF zN e1 e2
    obtain ⟨T, tvs, pt, rfl, hT, hV, hpt⟩ := hps.2 i v hv
    have ht := tup_is hT
    have hno := hok pt (List.mem_of_getElem? hpt)
    obtain ⟨nm, t0, rst, rfl, hI5, hI⟩ := hV.rest
    k_steps
    refine' rest_inv (fun i ys nw => nw = _ ∧ IntsAre ys (((ptNs pt).take i).map (· * k))) ?st ?fi _ 0 [] _ (Nat.zero_add _) ⟨rfl, .nil⟩
    case st =>
      intro j ys nw v I2 oI2 C2 oC2 D2 m2 h2 tk2 E2 hj hJ hP hC hx F2 N2 off2 ne2
      obtain ⟨rfl, hys⟩ := hJ
      obtain ⟨q, tq, rfl, hq⟩ := ints_at hI (by simpa using hP)
      have off2' := off2
      simp only [LCg.Off3] at off2
      k_steps
    case fi =>
      intro ys nw hJ
      obtain ⟨rfl, hys⟩ := hJ
      have hfv : fv.length ≤ 100 := by
        have := (List.getElem?_eq_some_iff.mp hpt).1
        omega
      have ho0 : ∀ p ∈ rest, @Ne Nat p.1 I := fun p hp => hoff p (.tail _ (.tail _ hp))
      clear hoff
      cases pt
      case kern a =>
        cases hV
        simp only [ptNs, List.take, List.length, List.map] at hys
        simp only [PtOk, SzOk] at hno
        clear hI
        obtain ⟨y1, y2⟩ : -4000 < [a * k].getD (Int.toNat 0) 0 ∧ [a * k].getD (Int.toNat 0) 0 < 4000 := mul_bd (a := a) (by omega) (by omega) hk1 hk2
        k_steps
        rename Fr _ _ _ _ => zF
        rename News _ _ _ _ => zN
        refine ⟨_, _, _, _, rfl, zF, led_pick (pre := [_, _, _, _]) zN rfl, off_pick (by first | k_ne | skip) (by first | k_ne | skip) (by first | k_all | skip) ho0, ⟨_, _, _, rfl, off_app (by first | k_all | skip) hr, hM.snoc hpt fun h hh => .kern (hh _ (.head _)) (hh _ (.tail _ (.head _))), ?_, rfl, rfl⟩⟩
        rw [List.length_concat, ← hfl]
      case pen a =>
        cases hV
        simp only [ptNs, List.take, List.length, List.map] at hys
        simp only [PtOk, SzOk] at hno
        clear hI
        k_steps
        rename Fr _ _ _ _ => zF
        rename News _ _ _ _ => zN
        refine ⟨_, _, _, _, rfl, zF, led_pick (pre := [_, _, _, _]) zN rfl, off_pick (by first | k_ne | skip) (by first | k_ne | skip) (by first | k_all | skip) ho0, ⟨_, _, _, rfl, off_app (by first | k_all | skip) hr, hM.snoc hpt fun h hh => .pen (hh _ (.head _)) (hh _ (.tail _ (.head _))), ?_, rfl, rfl⟩⟩
        rw [List.length_concat, ← hfl]
      case rule a b =>
        cases hV
        simp only [ptNs, List.take, List.length, List.map] at hys
        simp only [PtOk, SzOk] at hno
        clear hI
        obtain ⟨y1, y2⟩ : -4000 < [a * k, b * k].getD (Int.toNat 0) 0 ∧ [a * k, b * k].getD (Int.toNat 0) 0 < 4000 := mul_bd (a := a) (by omega) (by omega) hk1 hk2
        obtain ⟨y3, y4⟩ : -4000 < [a * k, b * k].getD (Int.toNat 1) 0 ∧ [a * k, b * k].getD (Int.toNat 1) 0 < 4000 := mul_bd (a := b) (by omega) (by omega) hk1 hk2
        k_steps
        rename Fr _ _ _ _ => zF
        rename News _ _ _ _ => zN
        refine ⟨_, _, _, _, rfl, zF, led_pick (pre := [_, _, _, _]) zN rfl, off_pick (by first | k_ne | skip) (by first | k_ne | skip) (by first | k_all | skip) ho0, ⟨_, _, _, rfl, off_app (by first | k_all | skip) hr, hM.snoc hpt fun h hh => .rule (hh _ (.head _)) (hh _ (.tail _ (.head _))), ?_, rfl, rfl⟩⟩
        rw [List.length_concat, ← hfl]
      case box a b c d =>
        cases hV
        simp only [ptNs, List.take, List.length, List.map] at hys
        simp only [PtOk, SzOk] at hno
        clear hI
        obtain ⟨y1, y2⟩ : -4000 < [a * k, b * k, c * k, d * k].getD (Int.toNat 0) 0 ∧ [a * k, b * k, c * k, d * k].getD (Int.toNat 0) 0 < 4000 := mul_bd (a := a) (by omega) (by omega) hk1 hk2
        obtain ⟨y3, y4⟩ : -4000 < [a * k, b * k, c * k, d * k].getD (Int.toNat 1) 0 ∧ [a * k, b * k, c * k, d * k].getD (Int.toNat 1) 0 < 4000 := mul_bd (a := b) (by omega) (by omega) hk1 hk2
        obtain ⟨y5, y6⟩ : -4000 < [a * k, b * k, c * k, d * k].getD (Int.toNat 2) 0 ∧ [a * k, b * k, c * k, d * k].getD (Int.toNat 2) 0 < 4000 := mul_bd (a := c) (by omega) (by omega) hk1 hk2
        k_steps
        rename Fr _ _ _ _ => zF
        rename News _ _ _ _ => zN
        refine ⟨_, _, _, _, rfl, zF, led_pick (pre := [_, _, _, _, _, _]) zN rfl, off_pick (by first | k_ne | skip) (by first | k_ne | skip) (by first | k_all | skip) ho0, ⟨_, _, _, rfl, off_app (by first | k_all | skip) hr, hM.snoc hpt fun h hh => .box (hh _ (.tail _ (.head _))) (hh _ (.tail _ (.tail _ (.head _)))), ?_, rfl, rfl⟩⟩
        rw [List.length_concat, ← hfl]
      case glue a b c d e =>
        cases hV
        simp only [ptNs, List.take, List.length, List.map] at hys
        simp only [PtOk, SzOk] at hno
        clear hI
        obtain ⟨y1, y2⟩ : -4000 < [a * k, b * k, c * k, d * k, e * k].getD (Int.toNat 0) 0 ∧ [a * k, b * k, c * k, d * k, e * k].getD (Int.toNat 0) 0 < 4000 := mul_bd (a := a) (by omega) (by omega) hk1 hk2
        obtain ⟨y3, y4⟩ : 0 ≤ [a * k, b * k, c * k, d * k, e * k].getD (Int.toNat 1) 0 ∧ [a * k, b * k, c * k, d * k, e * k].getD (Int.toNat 1) 0 < 4000 := mul_bd0 (a := b) (by omega) (by omega) hk1 hk2
        obtain ⟨y5, y6⟩ : 0 ≤ [a * k, b * k, c * k, d * k, e * k].getD (Int.toNat 3) 0 ∧ [a * k, b * k, c * k, d * k, e * k].getD (Int.toNat 3) 0 < 4000 := mul_bd0 (a := d) (by omega) (by omega) hk1 hk2
        cases mir with
        | true =>
          k_steps
          rename Fr _ _ _ _ => zF
          rename News _ _ _ _ => zN
          refine ⟨_, _, _, _, rfl, zF, led_pick (pre := [_, _, _, _, _, _, _, _, _, _]) zN rfl, off_pick (by first | k_ne | skip) (by first | k_ne | skip) (by first | k_all | skip) ho0, ⟨_, _, _, rfl, off_app (by first | k_all | skip) hr, hM.snoc hpt fun h hh => .glue (hh _ (.head _)) (hh _ (.tail _ (.head _))) (hh _ (.tail _ (.tail _ (.head _)))) (hh _ (.tail _ (.tail _ (.tail _ (.head _))))), ?_, rfl, rfl⟩⟩
          rw [List.length_concat, ← hfl]
        | false =>
          k_steps
          rename Fr _ _ _ _ => zF
          rename News _ _ _ _ => zN
          refine ⟨_, _, _, _, rfl, zF, led_pick (pre := [_, _, _, _, _, _, _, _, _]) zN rfl, off_pick (by first | k_ne | skip) (by first | k_ne | skip) (by first | k_all | skip) ho0, ⟨_, _, _, rfl, off_app (by first | k_all | skip) hr, hM.snoc hpt fun h hh => .glue (hh _ (.head _)) (hh _ (.tail _ (.head _))) (hh _ (.tail _ (.tail _ (.head _)))) (hh _ (.tail _ (.tail _ (.tail _ (.head _))))), ?_, rfl, rfl⟩⟩
          rw [List.length_concat, ← hfl]
  · intro m₁ nx h tk hJ F₁ N₁
    obtain ⟨fv, n, rest, rfl, hr, hM, hfl, e1, e2⟩ := hJ
    rw [fun_know e1, fun_know e2] at F₁
    clear zF zN e1 e2
    have hM' : NodesM w rest fv (pts.map (ndOf k mir)) := by
      have := hM
      first | rwa [List.take_of_length_le (show pts.length ≤ vs.length from Nat.le_of_eq hps.1.symm)] at this | rwa [List.take_of_length_le (show pts.length ≤ vs.toArray.size from Nat.le_of_eq hps.1.symm)] at this
    dsimp only
    k_steps
    rename Fr h₀ L _ m => kF
    rename News h₀ L _ _ => kN
    revert kF kN
    rename Fr _ _ _ _ => zF
    rename News _ _ _ _ => zN
    intro kF kN
    have z := frame_back zG N (frame_none N) zF zN kN
    exact hret _ _ _ _ kF z.1 z.2 ⟨_, _, _, _, rfl, rfl, fun h hh => hM' h fun p hp => hh p (.tail _ hp)⟩
-- comprehensions whose variable is a cell
section
variable {M : Model} {A : Around} {E : Value → Shared → Prop} {s : Shared}
theorem newEnv_one {scope : Scope} {globals : Addr} {closure : List (Str × Addr)} {qual : Str} {func : Option Addr} {code : Value} {outer : Env} {builtins : Addr} {Q : Env → Shared → Prop} {y0 x : Str} {k0 : NameKind} {rest : List (Str × NameKind)}
    (hn : scope.names = (y0, k0) :: (x, .cell) :: rest) (h0 : (k0 == NameKind.cell) = false) (hr : ∀ y ∈ rest, y.2 ≠ .cell)
    (hQ : Q (newEnv scope s.heap.objs.size globals ((x, s.heap.objs.size + 1) :: closure) qual func code (some outer) builtins) { s with heap := (s.heap.push { cls := .type "dict", data := .dict #[] }).push { cls := .type "cell", data := .cell none } }) :
    wpAny M A (newFunctionEnv scope globals closure [] qual func code (some outer) builtins) Q E s := by
  simp only [newFunctionEnv, Option.isSome_some, if_true]
  refine wpAny_bind (wpAny_alloc ?_)
  rw [hn]
  simp only [List.forIn_cons, h0, Bool.false_eq_true, if_false]
  refine wpAny_bind (wpAny_bind (wpAny_pure ?_))
  refine wpAny_bind (wpAny_bind (wpAny_alloc (wpAny_pure ?_)))
  dsimp only
  rw [forIn_yield_id _ (fun y hy c => by
    have : (y.2 == NameKind.cell) = false := by simpa using hr _ hy
    simp only [this, Bool.false_eq_true, if_false])]
  refine wpAny_pure ?_
  rw [List.forIn_nil]
  refine wpAny_bind (wpAny_pure (wpAny_pure ?_))
  rw [Heap.size_push]
  exact hQ
end
section
variable {prog : Program} {w : World} {A : Around} {E : Value → Shared → Prop} {s : Shared} {h₀ : Heap} {L : Addr} {m : Str → Option Value} {env : Env}
/-- what the turns of a comprehension whose variable is a cell are to show -/
def CTurns (prog : Program) (w : World) (A : Around) (h₀ : Heap) (L : Addr) (m : Str → Option Value) (env : Env) (elt : Expr) (x : Str) (scope : Scope) (cl : List (Str × Addr)) (s : Shared) (n : Nat) (P : Nat → Value → Prop) (news : List (Addr × Obj)) (J : Nat → List Value → Prop) : Prop :=
  ∀ i v acc C oC c oc rest m₂ h tk (E' : Value → Shared → Prop), i < n → P i v → J i acc → LCg.NsObj oC m₂ → oc.data = .cell (some v) → Fr h₀ L h m → News h₀ L h ((C, oC) :: (c, oc) :: (news ++ rest)) → (∀ p ∈ news, p.1 ≠ C) → (∀ p ∈ news, p.1 ≠ c) →
    wpAny (model prog w) A (eval elt (compEnvC scope ((x, c) :: cl) C env)) (fun y s₄ => ZTurn h₀ L m s ((C, oC) :: (c, oc) :: (news ++ rest)) (J (i + 1) (acc ++ [y])) s₄) E' { s with heap := h, toks := tk }
theorem block_C {elt iter : Expr} {x y0 : Str} {px : Pos} {scope : Scope} {cl : List (Str × Addr)} {pos : Pos} {k0 : NameKind} {nrest : List (Str × NameKind)} {s₂ : Shared} {I : Addr} {n : Nat} {P : Nat → Value → Prop} {St : Nat → Heap → Prop} {news : List (Addr × Obj)} {J : Nat → List Value → Prop} {RR : Value → Addr → Result → Shared → Prop}
    (W : Walks prog w A I [I] [I] n P St) (hsz : n ≤ sizeLine) (hIo : ∀ i h, St i h → ∃ o, h.get? I = some o)
    (hnm : scope.names = (y0, k0) :: (x, .cell) :: nrest) (h0 : (k0 == NameKind.cell) = false) (hr : ∀ y ∈ nrest, y.2 ≠ .cell) (hkind : scope.kind = .function) (hx : ∀ c C, (compEnvC scope ((x, c) :: cl) C env).kindOf x = some .cell) (hst : St 0 s₂.heap) (hIs : I < s₂.heap.objs.size)
    (F : Fr h₀ L s₂.heap m) (N : News h₀ L s₂.heap news) (hIL : L ≠ I) (hI₀ : h₀.get? I = none) (off : ∀ p ∈ news, p.1 ≠ I) (j0 : J 0 [])
    (turn : ∀ g, CTurns prog w A h₀ L m env elt x scope cl { s₂ with heap := g } n P news J)
    (hRR : ∀ D C h tk m' acc, Fr h₀ L h m → News h₀ L h ((D, LCg.lst acc) :: news) → LCg.Off1 D news → h.Ns C m' → h₀.get? C = none → h₀.get? D = none → C ≠ L → D ≠ L → C ≠ D → (∀ p ∈ news, p.1 ≠ C) → J n acc → RR (.ref D) C (.ok .next) { s₂ with heap := h, toks := tk }) :
    wpAny (model prog w) A (newList []) (fun acc s₃ => wpAny (model prog w) A (newFunctionEnv scope env.globals cl [] env.qual none .none (some env)) (fun cenv s₄ =>
      codeAny (model prog w) A (.compStart (.ListComp elt [⟨.Name x px, iter, [], 0⟩] scope pos) 0 (.ref I) acc { cenv with scope := relabel scope env }) (RR acc cenv.locals) s₄) E s₃) E s₂ := by
  refine wpAny_newObj_type (newEnv_one hnm h0 hr ?_)
  dsimp only
  generalize hH2 : s₂.heap.push { cls := .type "list", dict := none, data := .seq ([] : List Value).toArray } = H2
  have hC : H2.objs.size = s₂.heap.objs.size + 1 := by rw [← hH2, Heap.size_push]
  generalize hcA : H2.objs.size + 1 = c
  have hc2 : c = s₂.heap.objs.size + 2 := by rw [← hcA, hC]
  generalize hH3 : (H2.push { cls := .type "dict", data := .dict #[] }).push { cls := .type "cell", data := .cell none } = h₁
  have up2 : ∀ b o, s₂.heap.get? b = some o → H2.get? b = some o := fun b o e => hH2 ▸ Heap.get?_push_of_some _ e
  have up3 : ∀ b o, H2.get? b = some o → h₁.get? b = some o := fun b o e => hH3 ▸ Heap.get?_push_of_some _ (Heap.get?_push_of_some _ e)
  have old : ∀ b o, s₂.heap.get? b = some o → h₁.get? b = some o := fun b o e => up3 b o (up2 b o e)
  have hacc : h₁.get? s₂.heap.objs.size = some (LCg.lst []) := up3 _ _ (hH2 ▸ Heap.get?_push_size _ rfl)
  have hns₁ : h₁.Ns H2.objs.size (fun _ => none) := by
    rw [← hH3]
    exact (Heap.Ns.new H2 (.type "dict")).at' fun o e => Heap.get?_push_of_some _ e
  have hce₁ : h₁.IsCell c none := by
    have z := Heap.get?_push_size (H2.push { cls := .type "dict", data := .dict #[] }) (o := { cls := .type "cell", data := .cell none }) rfl
    rw [Heap.size_push, hcA, hH3] at z
    exact ⟨_, z, rfl⟩
  have hDC : s₂.heap.objs.size ≠ H2.objs.size := by rw [hC]; exact Nat.ne_of_lt (Nat.lt_succ_self _)
  have hDc : s₂.heap.objs.size ≠ c := by rw [hc2]; exact Nat.ne_of_lt (Nat.lt_add_of_pos_right (by decide))
  have hCc : H2.objs.size ≠ c := by rw [← hcA]; exact Nat.ne_of_lt (Nat.lt_succ_self _)
  have below : ∀ b, b < s₂.heap.objs.size → b ≠ H2.objs.size ∧ b ≠ s₂.heap.objs.size ∧ b ≠ c := fun b hb => ⟨by rw [hC]; exact Nat.ne_of_lt (Nat.lt_succ_of_lt hb), Nat.ne_of_lt hb, by rw [hc2]; exact Nat.ne_of_lt (Nat.lt_succ_of_lt (Nat.lt_succ_of_lt hb))⟩
  have fresh : ∀ a, s₂.heap.objs.size ≤ a → h₀.get? a = none := fun a ha => by
    cases e : h₀.get? a with
    | none => rfl
    | some o' => exact absurd (Heap.lt_size (F.keep a o' e)) (Nat.not_lt.mpr ha)
  have hD₀ : h₀.get? s₂.heap.objs.size = none := fresh _ (Nat.le_refl _)
  have hC₀ : h₀.get? H2.objs.size = none := fresh _ (by rw [hC]; exact Nat.le_succ _)
  have hc₀ : h₀.get? c = none := fresh _ (by rw [hc2]; exact Nat.le_add_right _ _)
  have hLlt : L < s₂.heap.objs.size := F.ns.lt
  have hDL : s₂.heap.objs.size ≠ L := Ne.symm (below L hLlt).2.1
  have hCL : H2.objs.size ≠ L := Ne.symm (below L hLlt).1
  have hcL : c ≠ L := Ne.symm (below L hLlt).2.2
  have hIC := below I hIs
  have hn1 : ∀ p ∈ news, p.1 ≠ H2.objs.size ∧ p.1 ≠ s₂.heap.objs.size ∧ p.1 ≠ c := fun p hp => below _ (Heap.lt_size (N p hp).1)
  have hst₁ : St 0 h₁ := W.frame _ _ _ hst fun b _ o e => old b o e
  have loop : ∀ s₃ : Shared, s₃ = { s₂ with heap := h₁ } →
      codeAny (model prog w) A (.compLoop (.ListComp elt [⟨.Name x px, iter, [], 0⟩] scope pos) 0 (.ref I) (.ref s₂.heap.objs.size) (compEnvC scope ((x, c) :: cl) H2.objs.size env))
        (RR (.ref s₂.heap.objs.size) H2.objs.size) s₃ := by
    rintro s₃ rfl
    refine codeAny_compLoop_tests
      (fun k s' => ∃ h' tk i acc m' v', s' = { s₂ with heap := h', toks := tk } ∧ i ≤ n ∧ k = n + 1 - i ∧ acc.length ≤ i ∧ St i h' ∧ Fr h₀ L h' m ∧ h'.Ns H2.objs.size m' ∧ h'.IsCell c v' ∧ News h₀ L h' ((s₂.heap.objs.size, LCg.lst acc) :: news) ∧ J i acc) ?_ (n + 1)
      ⟨h₁, _, 0, [], _, _, rfl, Nat.zero_le _, rfl, Nat.le_refl _, hst₁, F.keeps old, hns₁, hce₁, fun p hp => ?_, j0⟩
    · rintro k s' ⟨h', tk, i, acc, m', v', rfl, hi, rfl, hal, hst', F', hn', hce', N', hJ⟩
      have nwI : ∀ p ∈ ((s₂.heap.objs.size, LCg.lst acc) :: news), p.1 ≠ I := fun p hp => by
        rcases List.mem_cons.mp hp with rfl | hp
        · exact Ne.symm hIC.2.1
        · exact off p hp
      by_cases hlt : i < n
      · refine W.item i _ _ _ hlt hst' fun v h₂ tk₂ hPv hst₂ hk₂ => ?_
        have F₂ : Fr h₀ L h₂ m := LCg.fr_but F' hk₂ hIL hI₀
        have N₂ := LCg.news_but N' hk₂ nwI
        have hn₂ : h₂.Ns H2.objs.size m' := hn'.at' fun o e => hk₂ _ o (by simpa using Ne.symm hIC.1) e
        have hce₂ : h₂.IsCell c v' := by
          obtain ⟨o, e, r⟩ := hce'
          exact ⟨o, hk₂ _ o (by simpa using Ne.symm hIC.2.2) e, r⟩
        refine wpAny_assign_Name (wpAny_storeName_cell (c := c) hkind (hx c _) (by simp [compEnvC]) hce₂ (fun h₃ hce₃ hs₃ => ?_))
        rw [List.forIn_nil]
        refine wpAny_pure ?_
        simp only [if_true]
        obtain ⟨oc, hoc, hdc⟩ := hce₃
        have hst₃ : St (i + 1) h₃ := W.frame _ _ _ hst₂ fun b hb o e => hs₃.extBut b o (fun q => hIC.2.2 (by rw [← q]; exact (List.mem_singleton.mp hb).symm)) e
        obtain ⟨oI, heI⟩ := hIo _ _ hst₃
        obtain ⟨oC, heC, hoC⟩ := LCg.ns_obj (hn₂.sameBut hs₃ hCc)
        have F₃ : Fr h₀ L h₃ m := F₂.change hs₃ hcL hc₀
        have N₃ : News h₀ L h₃ ((H2.objs.size, oC) :: (c, oc) :: (news ++ [(s₂.heap.objs.size, LCg.lst acc), (I, oI)])) := fun p hp => by
          rcases List.mem_cons.mp hp with rfl | hp
          · exact ⟨heC, hCL, hC₀⟩
          rcases List.mem_cons.mp hp with rfl | hp
          · exact ⟨hoc, hcL, hc₀⟩
          rcases List.mem_append.mp hp with hp | hp
          · exact ⟨hs₃.extBut _ _ (hn1 p hp).2.2 (N₂ p (.tail _ hp)).1, (N₂ p (.tail _ hp)).2⟩
          rcases List.mem_cons.mp hp with rfl | hp
          · exact ⟨hs₃.extBut _ _ hDc (N₂ _ (.head _)).1, (N₂ _ (.head _)).2⟩
          · rw [List.mem_singleton.mp hp]
            exact ⟨heI, Ne.symm hIL, hI₀⟩
        refine wpAny_mono (turn h₃ i v acc H2.objs.size oC c oc _ _ h₃ _ _ hlt hPv hJ hoC hdc F₃ N₃ (fun p hp => (hn1 p hp).1) (fun p hp => (hn1 p hp).2.2)) (fun y s₅ h₅ => ?_) fun _ _ e => e
        obtain ⟨h₄, tk₄, rfl, F₄, N₄, J₄⟩ := h₅
        have zD := (N₄ (s₂.heap.objs.size, LCg.lst acc) (.tail _ (.tail _ (List.mem_append_right _ (.head _))))).1
        have zI := (N₄ (I, oI) (.tail _ (.tail _ (List.mem_append_right _ (.tail _ (.head _)))))).1
        refine append_at (hsz := by show acc.toArray.size ≤ sizeLine; rw [List.size_toArray]; exact Nat.le_trans (Nat.le_trans hal hi) hsz) zD fun h₅ hs₅ hD₅ => ?_
        refine ⟨n + 1 - (i + 1), by omega, h₅, tk₄, i + 1, acc ++ [y], _, some v, rfl, hlt, rfl, by rw [List.length_append, List.length_singleton]; omega, ?_, F₄.change hs₅ hDL hD₀, (hoC.ns (N₄ _ (.head _)).1).sameBut hs₅ (Ne.symm hDC), ⟨oc, hs₅.extBut _ _ (Ne.symm hDc) (N₄ _ (.tail _ (.head _))).1, hdc⟩, fun p hp => ?_, J₄⟩
        · refine W.frame _ _ _ hst₃ fun b hb o e => ?_
          rw [List.mem_singleton.mp hb] at e ⊢
          rw [heI] at e
          cases e
          exact hs₅.extBut _ _ hIC.2.1 zI
        · rcases List.mem_cons.mp hp with rfl | hp
          · exact ⟨hD₅.trans (congrArg some (LCg.lst_snoc acc y)), hDL, hD₀⟩
          · have q := N₄ p (.tail _ (.tail _ (List.mem_append_left _ hp)))
            exact ⟨hs₅.extBut _ _ (hn1 p hp).2.1 q.1, q.2⟩
      · obtain rfl : i = n := Nat.le_antisymm hi (Nat.not_lt.mp hlt)
        refine W.done _ _ _ hst' fun h₂ tk₂ hk₂ => ?_
        exact hRR _ _ h₂ tk₂ _ acc (LCg.fr_but F' hk₂ hIL hI₀) (LCg.news_but N' hk₂ nwI) (LCg.Off3.one (I := H2.objs.size) (C := H2.objs.size) (LCg.Off3.of fun p hp => ⟨(hn1 p hp).1, (hn1 p hp).1, (hn1 p hp).2.1⟩))
          (hn'.at' fun o e => hk₂ _ o (by simpa using Ne.symm hIC.1) e) hC₀ hD₀ hCL hDL (Ne.symm hDC) (fun p hp => (hn1 p hp).1) hJ
    · rcases List.mem_cons.mp hp with rfl | hp
      · exact ⟨hacc, hDL, hD₀⟩
      · exact ⟨old _ _ (N p hp).1, (N p hp).2⟩
  exact codeAny_compStart_list (loop _ rfl) (W.self 0 _ _ _ hst₁ (loop _ rfl))
/-- what is asked of the iterator of a comprehension whose variable is a cell -/
def BlockAtC (prog : Program) (w : World) (A : Around) (h₀ : Heap) (L : Addr) (m : Str → Option Value) (env : Env) (elt : Expr) (x : Str) (scope : Scope) (cl : List (Str × Addr)) (Fin : Shared → List Value → List (Addr × Obj) → Prop) (it : Value) (s₂ : Shared) : Prop :=
  ∃ (I : Addr) (n : Nat) (P : Nat → Value → Prop) (St : Nat → Heap → Prop) (news : List (Addr × Obj)) (J : Nat → List Value → Prop), it = .ref I ∧ Walks prog w A I [I] [I] n P St ∧ n ≤ sizeLine ∧ (∀ i h, St i h → ∃ o, h.get? I = some o) ∧ St 0 s₂.heap ∧ I < s₂.heap.objs.size ∧
    Fr h₀ L s₂.heap m ∧ News h₀ L s₂.heap news ∧ L ≠ I ∧ h₀.get? I = none ∧ (∀ p ∈ news, p.1 ≠ I) ∧ J 0 [] ∧ (∀ g, CTurns prog w A h₀ L m env elt x scope cl { s₂ with heap := g } n P news J) ∧ ∀ acc, J n acc → Fin s₂ acc news
theorem ListComp_C {elt iter : Expr} {x y0 : Str} {px : Pos} {k0 : NameKind} {nrest : List (Str × NameKind)} {scope : Scope} {cl : List (Str × Addr)} {pos : Pos} {Q : Value → Shared → Prop} (_F₀ : Fr h₀ L s.heap m)
    (hclos : closureFor scope env = pure cl) (hnm : scope.names = (y0, k0) :: (x, .cell) :: nrest) (h0 : (k0 == NameKind.cell) = false) (hr : ∀ y ∈ nrest, y.2 ≠ .cell) (hkind : scope.kind = .function)
    (hnames : ∀ y ∈ scope.names, y.2 = .local → scope.names.lookup y.1 = some .local) (hx : ∀ c C, (compEnvC scope ((x, c) :: cl) C env).kindOf x = some .cell)
    (h : wpAny (model prog w) A (eval iter env) (fun xv s₁ => wpAny (model prog w) A (pyIter xv) (BlockAtC prog w A h₀ L m env elt x scope cl (fun s₂ => LCg.FinE h₀ L m s₂ Q)) E s₁) E s)
    (hs : ∀ x, foldedSetIterable iter env x = pure x := by intro _; rfl) :
    wpAny (model prog w) A (eval (.ListComp elt [⟨.Name x px, iter, [], 0⟩] scope pos) env) Q E s := by
  rw [eval_ListComp]
  refine wpAny_comprehension_free (use := none) rfl hs hclos hkind hnames (wpAny_mono h (fun xv s₁ h₁ => ?_) fun _ _ e => e)
  refine wpAny_mono h₁ (fun it s₂ b => ?_) fun _ _ e => e
  obtain ⟨I, n, P, St, news, J, rfl, W, hsz, hIo, hst, hIs, F, N, hIL, hI₀, off, j0, turn, fin⟩ := b
  refine block_C W hsz hIo hnm h0 hr hkind hx hst hIs F N hIL hI₀ off j0 turn ?_
  intro D C h tk m' acc F' N' o1 hn hC₀ hD₀ hCL hDL hCD offC hJ
  refine ⟨m', hn, fun h'' hs'' => fin acc hJ D h'' tk (F'.change hs'' hCL hC₀) (fun p hp => ⟨hs''.extBut _ _ ?_ (N' p hp).1, (N' p hp).2⟩) o1⟩
  rcases List.mem_cons.mp hp with rfl | hp
  · exact Ne.symm hCD
  · exact offC p hp
theorem range_C {elt : Expr} {x : Str} {scope : Scope} {cl : List (Str × Addr)} {Fin : Shared → List Value → List (Addr × Obj) → Prop} {r : Addr} {a b : Int} {t u v : Tok} {n : Nat} {news : List (Addr × Obj)} (J : Nat → List Value → Prop)
    (hh : A.handled = none) (F : Fr h₀ L s.heap m) (N : News h₀ L s.heap news) (hr : IsRange s.heap r a b 1 t u v) (hsm : Builtin.Range.small a b 1 = true) (hn : Builtin.Range.rangeSize a b 1 = ((n : Nat) : Int)) (hsz : n ≤ sizeLine) (j0 : J 0 [])
    (turn : ∀ g, CTurns prog w A h₀ L m env elt x scope cl { s with heap := g } n (fun i v => ∃ t, v = .int (a + (i : Int)) t) news J) (fin : ∀ g acc, J n acc → Fin { s with heap := g } acc news) :
    wpAny (model prog w) A (pyIter (.ref r)) (BlockAtC prog w A h₀ L m env elt x scope cl Fin) E s := by
  refine wpAny_pyIter_range hr hsm ?_
  refine ⟨_, n, _, _, news, J, rfl, LCg.range_walks hh a n, hsz, fun i h st => ⟨_, st⟩, (by show IsRangeIter _ _ _ _ _; rw [hn]; simpa using Heap.get?_push_size _ rfl), ?_, F.keeps fun _ _ e => Heap.get?_push_of_some _ e, N.grown fun _ _ e => Heap.get?_push_of_some _ e, Nat.ne_of_lt F.ns.lt, next_is_new F, fun p hp => Nat.ne_of_lt (Heap.lt_size (N p hp).1), j0, turn, fin _⟩
  show s.heap.objs.size < (s.heap.push _).objs.size
  rw [Heap.size_push]; exact Nat.lt_succ_self _
/-- a goal that the walk is to leave -/
def Pause (p : Prop) : Prop := p
theorem pause_intro {p : Prop} (h : Pause p) : p := h
end
local macro_rules | `(tactic| walk_at "eval ListComp") => `(tactic| ((with_reducible show wpAny _ _ (eval (Expr.ListComp _ [⟨_, _, [_], 0⟩] _ _) _) _ _ _); k_dflt (refine LCt.ListComp_T (by k_asm) (by with_unfolding_all rfl) (by decide) (by rfl) (by decide) (by rfl) ?_)))
local macro_rules | `(tactic| walk_at "eval ListComp") => `(tactic| ((with_reducible show wpAny _ _ (eval (Expr.ListComp _ [⟨_, _, [], 0⟩] _ _) _) _ _ _); k_dflt (refine ListComp_C (by k_asm) (by with_unfolding_all rfl) (by rfl) (by rfl) (by decide) (by rfl) (by decide) (by intros; rfl) ?_)))
local macro_rules | `(tactic| walk_at "CompSrcT ref") => `(tactic| (refine pause_intro ?_))
local macro_rules | `(tactic| walk_at "pyIter ref") => `(tactic| ((with_reducible show wpAny _ _ (pyIter _) (BlockAtC _ _ _ _ _ _ _ _ _ _ _ _) _ _); refine pause_intro ?_))
local macro_rules | `(tactic| walk_at "CompEnd") => `(tactic| (refine pause_intro ?_))
local macro_rules | `(tactic| walk_at "CompEnd none") => `(tactic| (refine pause_intro ?_))
local macro_rules | `(tactic| walk_at "CompEnd int") => `(tactic| (refine pause_intro ?_))
local macro_rules | `(tactic| walk_at "ZTurn cons") => `(tactic| (refine pause_intro ?_))
-- two lists of ints of the ledger, one behind the other
local macro_rules | `(tactic| walk_at "binaryOp Add ref ref") => `(tactic| (k_dflt (refine' kmk_add_ints ?F ?N ?a ?b ?i ?j ?_ ?z; (case F => k_asm); (case N => k_asm); (case a => exact News.isList (by k_asm) (by k_mem)); (case b => exact News.isList (by k_asm) (by k_mem)); (case i => first | assumption | exact .cons _ _ .nil); (case j => assumption); (case z => (simp only [PySem.sizeLine_eq, List.length_cons, List.length_nil]; omega))); intro D' ws' h' F' N' l1 hI'; (try k_lt l1)))
def ptSel (str : Bool) (o : Int) : Pt → Option Int
  | .glue _ b c d e => if str then (if c = o then some b else none) else (if e = o then some d else none)
  | _ => none
def selSum (str : Bool) (o : Int) (pts : List Pt) : Int := (pts.filterMap (ptSel str o)).sum
def CanP (pts : List Pt) (gap : Int) : Prop := (∃ o, 0 < o ∧ o < 4 ∧ selSum (decide (0 < gap)) o pts ≠ 0) ∨ (gap ≤ selSum (decide (0 < gap)) 0 pts ∧ -gap ≤ selSum (decide (0 < gap)) 0 pts)

theorem sel_some {ys : List Value} {pts : List Pt} {f : Pt → Option Int} {j : Nat} {pt : Pt} {b : Int} {t : Tok} (h : IntsAre ys ((pts.take j).filterMap f)) (hpt : pts[j]? = some pt) (e : f pt = some b) : IntsAre (ys ++ [.int b t]) ((pts.take (j + 1)).filterMap f) := by
  rw [List.take_add_one, hpt, List.filterMap_append]
  have z : List.filterMap f (some pt).toList = [b] := by simp [e]
  rw [z]
  exact h.append (.cons _ _ .nil)
theorem sel_none {ys : List Value} {pts : List Pt} {f : Pt → Option Int} {j : Nat} {pt : Pt} (h : IntsAre ys ((pts.take j).filterMap f)) (hpt : pts[j]? = some pt) (e : f pt = none) : IntsAre ys ((pts.take (j + 1)).filterMap f) := by
  rw [List.take_add_one, hpt, List.filterMap_append]
  have z : List.filterMap f (some pt).toList = [] := by simp [e]
  rw [z, List.append_nil]
  exact h
theorem rsel_some {ys : List Value} {f : Nat → Option Int} {j : Nat} {b : Int} {t : Tok} (h : IntsAre ys ((List.range j).filterMap f)) (e : f j = some b) : IntsAre (ys ++ [.int b t]) ((List.range (j + 1)).filterMap f) := by
  rw [List.range_succ, List.filterMap_append]
  have z : List.filterMap f [j] = [b] := by simp [e]
  rw [z]
  exact h.append (.cons _ _ .nil)
theorem rsel_none {ys : List Value} {f : Nat → Option Int} {j : Nat} (h : IntsAre ys ((List.range j).filterMap f)) (e : f j = none) : IntsAre ys ((List.range (j + 1)).filterMap f) := by
  rw [List.range_succ, List.filterMap_append]
  have z : List.filterMap f [j] = [] := by simp [e]
  rw [z, List.append_nil]
  exact h
theorem map_snoc {acc : List Value} {f : Nat → Int} {i : Nat} {r : Int} {t : Tok} (h : IntsAre acc ((List.range i).map f)) (e : r = f i) : IntsAre (acc ++ [.int r t]) ((List.range (i + 1)).map f) := by
  rw [List.range_succ, List.map_append]
  subst e
  exact h.append (.cons _ _ .nil)
theorem four_sel {s0 s1 s2 s3 : Int} : ∀ o ∈ (List.range 4).filterMap (fun (o : Nat) => if [s0, s1, s2, s3].getD o 0 = 0 then none else some (o : Int)), 0 < o → ∃ q : Nat, o = q ∧ 0 < q ∧ q < 4 ∧ [s0, s1, s2, s3].getD q 0 ≠ 0 := by
  intro o ho hp
  obtain ⟨q, hq, e⟩ := List.mem_filterMap.mp ho
  by_cases hz : [s0, s1, s2, s3].getD q 0 = 0
  · rw [if_pos hz] at e; cases e
  · rw [if_neg hz] at e
    cases e
    exact ⟨q, rfl, by omega, List.mem_range.mp hq, hz⟩
theorem can_left {pts : List Pt} {gap : Int} {BB : Bool} {s0 s1 s2 s3 M : Int} {os : List Int} (hb : decide (0 < gap) = BB) (h0 : selSum BB 0 pts = s0) (h1 : selSum BB 1 pts = s1) (h2 : selSum BB 2 pts = s2) (h3 : selSum BB 3 pts = s3)
    (hos : ∀ o ∈ os, 0 < o → ∃ q : Nat, o = q ∧ 0 < q ∧ q < 4 ∧ [s0, s1, s2, s3].getD q 0 ≠ 0) (hm : M ∈ [0] ++ os) (hp : 0 < M) : CanP pts gap := by
  subst hb
  rcases List.mem_cons.mp hm with rfl | hm
  · omega
  obtain ⟨q, rfl, a, b, c⟩ := hos M hm hp
  refine .inl ⟨q, by omega, by omega, ?_⟩
  rcases (show q = 1 ∨ q = 2 ∨ q = 3 by omega) with rfl | rfl | rfl
  · exact fun e => c (h1.symm.trans e)
  · exact fun e => c (h2.symm.trans e)
  · exact fun e => c (h3.symm.trans e)
theorem can_right {pts : List Pt} {gap : Int} {BB : Bool} {s0 s1 s2 s3 : Int} (hb : decide (0 < gap) = BB) (h0 : selSum BB 0 pts = s0) (h : (if gap < 0 then -gap else gap) ≤ [s0, s1, s2, s3].getD (Int.toNat 0) 0) : CanP pts gap := by
  subst hb
  replace h : (if gap < 0 then -gap else gap) ≤ s0 := h
  refine .inr ?_
  rw [h0]
  split at h <;> omega
local macro_rules | `(tactic| walk_at "eval Name") => `(tactic| ((with_reducible show wpAny _ _ (eval (Expr.Name _ _) (envOfC _ _ _ _ _)) _ _ _); k_dflt (refine' nameX_C ?N ?c ?m ?d ?_ ?a ?b; (case a => rfl); (case b => rfl); (case N => k_asm); (case c => rfl); (case m => k_mem); (case d => k_asm); k_whole)))

set_option maxRecDepth 100000 in
set_option maxHeartbeats 0 in
theorem can_tell (w : World) (l : Addr) (vs : List Value) (pts : List Pt) (gap orders : Int) (t : Tok) (news : Led) (hg1 : -10000 < gap) (hg2 : gap < 10000) (ho : orders ≤ 4) (hok : ∀ pt ∈ pts, PtOk orders pt) (hn : pts.length ≤ 100) :
    Tell w 580 [.ref l, .int gap t] news (fun h => h.IsList l vs.toArray ∧ PartsIn h vs pts) 10 100 (fun r tl => tl = [] ∧ ∃ b, r = .bool b ∧ (b = true → CanP pts gap)) := by
  w_top off
  intro p loose mean mg mb dp un gd cn cs a ccd cl outer A₀ base h₀ L m s Q E B F X N T hk hd hu hp hret
  by_cases hgp : 0 < gap
  · tb_rel
    rename GSub _ _ _ => zG
    obtain ⟨hl, hps⟩ := hp
    replace hl := stays_list (gsub_nil zG) hl
    replace hps := hps.mono (gsub_nil zG)
    have hvl : vs.length ≤ 100 := hps.1 ▸ hn
    k_steps
    rename Fr _ _ _ _ => zF
    rename News _ _ _ _ => zN
    refine range_C (n := 4) (fun i acc => IntsAre acc ((List.range i).map fun (o : Nat) => selSum true (o : Int) pts)) rfl zF zN (by assumption) (by decide) (by decide) (by decide) .nil ?tu ?fi
    case tu =>
      intro g9 i v acc C oC c oc rest m₂ h9 tk9 E9 hi hP hJ hC hoc F9 N9 of1 of2
      obtain ⟨t9, rfl⟩ := hP
      simp only [List.cons_append, List.nil_append] at N9
      clear zF zN
      k_steps
      rename Fr _ _ _ _ => zF
      rename News _ _ _ _ => zN
      refine LCt.CompSrcT.base rfl zF zN hl (by simp only [PySem.sizeLine_eq, List.size_toArray]; omega) fun g8 => ?_
      refine restT_inv (fun j ys nw => nw = _ ∧ IntsAre ys ((pts.take j).filterMap (ptSel true (0 + (i : Int))))) ?st ?fi2 _ 0 [] _ (Nat.zero_add _) ⟨rfl, .nil⟩
      case st =>
        intro j ys nw v I2 oI2 C2 oC2 D2 m2 h2 tk2 E2 hj hJ hP hC hx F2 N2 off2 ne2
        obtain ⟨rfl, hys⟩ := hJ
        obtain ⟨T, tvs, pt, rfl, hT, hV, hpt⟩ := hps.2 j v (by simpa using hP)
        have ht := tup_is hT
        clear zF zN
        cases hV
        all_goals k_steps
        all_goals rename Fr _ _ _ _ => zF
        all_goals rename News _ _ _ _ => zN
        all_goals refine compEnd_same zF zN off2 (.inl hl) ⟨rfl, ?_⟩
        · exact sel_some hys hpt (if_pos (by assumption))
        · exact sel_none hys hpt (if_neg (by assumption))
        all_goals exact sel_none hys hpt rfl
      case fi2 =>
        intro ys nw hJ
        obtain ⟨rfl, hys⟩ := hJ
        clear zF zN
        rw [show pts.take vs.toArray.size = pts from List.take_of_length_le (Nat.le_of_eq hps.1.symm)] at hys
        k_steps
        rename Fr _ _ _ _ => zF
        rename News _ _ _ _ => zN
        refine zturn_same zF (led_tail zN) (map_snoc hJ ?_)
        show (List.filterMap (ptSel true (0 + (i : Int))) pts).sum = selSum true (i : Int) pts
        rw [Int.zero_add]
        rfl
    case fi =>
      intro g9 acc hJ
      clear zF zN
      replace hJ : IntsAre acc [selSum true 0 pts, selSum true 1 pts, selSum true 2 pts, selSum true 3 pts] := hJ
      generalize hs0 : selSum true 0 pts = s0 at hJ
      generalize hs1 : selSum true 1 pts = s1 at hJ
      generalize hs2 : selSum true 2 pts = s2 at hJ
      generalize hs3 : selSum true 3 pts = s3 at hJ
      cases hJ with | cons _ _ hJ
      cases hJ with | cons _ _ hJ
      cases hJ with | cons _ _ hJ
      cases hJ with | cons _ _ hJ
      cases hJ
      k_steps
      rename Fr _ _ _ _ => zF
      rename News _ _ _ _ => zN
      refine LCt.CompSrcT.range (n := 4) rfl zF zN (by assumption) (by decide) (by decide) (by decide) fun g7 => ?_
      refine restT_inv (fun j ys nw => nw = _ ∧ IntsAre ys ((List.range j).filterMap fun (o : Nat) => if [s0, s1, s2, s3].getD o 0 = 0 then none else some (o : Int))) ?st ?fi3 _ 0 [] _ (Nat.zero_add _) ⟨rfl, .nil⟩
      case st =>
        intro j ys nw v I2 oI2 C2 oC2 D2 m2 h2 tk2 E2 hj hJ hP hC hx F2 N2 off2 ne2
        obtain ⟨rfl, hys⟩ := hJ
        obtain ⟨t9, rfl⟩ := hP
        clear zF zN
        rcases (show j = 0 ∨ j = 1 ∨ j = 2 ∨ j = 3 by omega) with rfl | rfl | rfl | rfl
        all_goals k_steps
        all_goals rename Fr _ _ _ _ => zF
        all_goals rename News _ _ _ _ => zN
        all_goals refine compEnd_same zF zN off2 True.intro ⟨rfl, ?_⟩
        all_goals first | exact rsel_some hys (if_neg (by assumption)) | exact rsel_none hys (if_pos (by assumption)) | exact rsel_none hys (if_pos (Decidable.of_not_not (by assumption)))
      case fi3 =>
        intro ys nw hJ
        obtain ⟨rfl, hys⟩ := hJ
        clear zF zN
        have hos := @four_sel s0 s1 s2 s3
        have hol : ((List.range 4).filterMap fun (o : Nat) => if [s0, s1, s2, s3].getD o 0 = 0 then none else some (o : Int)).length ≤ 4 := List.length_filterMap_le _ _
        generalize ((List.range 4).filterMap fun (o : Nat) => if [s0, s1, s2, s3].getD o 0 = 0 then none else some (o : Int)) = os at hys hos hol
        k_steps
        · rename Fr h₀ L _ m => kF
          revert kF
          rename Fr _ _ _ _ => zF
          intro kF
          have z := frame_back (tl := []) zG N (frame_none N) zF News.nil News.nil
          exact hret _ [] _ _ kF z.1 z.2 ⟨rfl, _, rfl, fun _ => can_left (BB := true) (decide_eq_true hgp) hs0 hs1 hs2 hs3 hos (by assumption) (by assumption)⟩
        · rename Fr h₀ L _ m => kF
          revert kF
          rename Fr _ _ _ _ => zF
          intro kF
          have z := frame_back (tl := []) zG N (frame_none N) zF News.nil News.nil
          exact hret _ [] _ _ kF z.1 z.2 ⟨rfl, _, rfl, fun e => can_right (BB := true) (decide_eq_true hgp) hs0 (of_decide_eq_true e)⟩
  · tb_rel
    rename GSub _ _ _ => zG
    obtain ⟨hl, hps⟩ := hp
    replace hl := stays_list (gsub_nil zG) hl
    replace hps := hps.mono (gsub_nil zG)
    have hvl : vs.length ≤ 100 := hps.1 ▸ hn
    k_steps
    rename Fr _ _ _ _ => zF
    rename News _ _ _ _ => zN
    refine range_C (n := 4) (fun i acc => IntsAre acc ((List.range i).map fun (o : Nat) => selSum false (o : Int) pts)) rfl zF zN (by assumption) (by decide) (by decide) (by decide) .nil ?tu ?fi
    case tu =>
      intro g9 i v acc C oC c oc rest m₂ h9 tk9 E9 hi hP hJ hC hoc F9 N9 of1 of2
      obtain ⟨t9, rfl⟩ := hP
      simp only [List.cons_append, List.nil_append] at N9
      clear zF zN
      k_steps
      rename Fr _ _ _ _ => zF
      rename News _ _ _ _ => zN
      refine LCt.CompSrcT.base rfl zF zN hl (by simp only [PySem.sizeLine_eq, List.size_toArray]; omega) fun g8 => ?_
      refine restT_inv (fun j ys nw => nw = _ ∧ IntsAre ys ((pts.take j).filterMap (ptSel false (0 + (i : Int))))) ?st ?fi2 _ 0 [] _ (Nat.zero_add _) ⟨rfl, .nil⟩
      case st =>
        intro j ys nw v I2 oI2 C2 oC2 D2 m2 h2 tk2 E2 hj hJ hP hC hx F2 N2 off2 ne2
        obtain ⟨rfl, hys⟩ := hJ
        obtain ⟨T, tvs, pt, rfl, hT, hV, hpt⟩ := hps.2 j v (by simpa using hP)
        have ht := tup_is hT
        clear zF zN
        cases hV
        all_goals k_steps
        all_goals rename Fr _ _ _ _ => zF
        all_goals rename News _ _ _ _ => zN
        all_goals refine compEnd_same zF zN off2 (.inl hl) ⟨rfl, ?_⟩
        · exact sel_some hys hpt (if_pos (by assumption))
        · exact sel_none hys hpt (if_neg (by assumption))
        all_goals exact sel_none hys hpt rfl
      case fi2 =>
        intro ys nw hJ
        obtain ⟨rfl, hys⟩ := hJ
        clear zF zN
        rw [show pts.take vs.toArray.size = pts from List.take_of_length_le (Nat.le_of_eq hps.1.symm)] at hys
        k_steps
        rename Fr _ _ _ _ => zF
        rename News _ _ _ _ => zN
        refine zturn_same zF (led_tail zN) (map_snoc hJ ?_)
        show (List.filterMap (ptSel false (0 + (i : Int))) pts).sum = selSum false (i : Int) pts
        rw [Int.zero_add]
        rfl
    case fi =>
      intro g9 acc hJ
      clear zF zN
      replace hJ : IntsAre acc [selSum false 0 pts, selSum false 1 pts, selSum false 2 pts, selSum false 3 pts] := hJ
      generalize hs0 : selSum false 0 pts = s0 at hJ
      generalize hs1 : selSum false 1 pts = s1 at hJ
      generalize hs2 : selSum false 2 pts = s2 at hJ
      generalize hs3 : selSum false 3 pts = s3 at hJ
      cases hJ with | cons _ _ hJ
      cases hJ with | cons _ _ hJ
      cases hJ with | cons _ _ hJ
      cases hJ with | cons _ _ hJ
      cases hJ
      k_steps
      rename Fr _ _ _ _ => zF
      rename News _ _ _ _ => zN
      refine LCt.CompSrcT.range (n := 4) rfl zF zN (by assumption) (by decide) (by decide) (by decide) fun g7 => ?_
      refine restT_inv (fun j ys nw => nw = _ ∧ IntsAre ys ((List.range j).filterMap fun (o : Nat) => if [s0, s1, s2, s3].getD o 0 = 0 then none else some (o : Int))) ?st ?fi3 _ 0 [] _ (Nat.zero_add _) ⟨rfl, .nil⟩
      case st =>
        intro j ys nw v I2 oI2 C2 oC2 D2 m2 h2 tk2 E2 hj hJ hP hC hx F2 N2 off2 ne2
        obtain ⟨rfl, hys⟩ := hJ
        obtain ⟨t9, rfl⟩ := hP
        clear zF zN
        rcases (show j = 0 ∨ j = 1 ∨ j = 2 ∨ j = 3 by omega) with rfl | rfl | rfl | rfl
        all_goals k_steps
        all_goals rename Fr _ _ _ _ => zF
        all_goals rename News _ _ _ _ => zN
        all_goals refine compEnd_same zF zN off2 True.intro ⟨rfl, ?_⟩
        all_goals first | exact rsel_some hys (if_neg (by assumption)) | exact rsel_none hys (if_pos (by assumption)) | exact rsel_none hys (if_pos (Decidable.of_not_not (by assumption)))
      case fi3 =>
        intro ys nw hJ
        obtain ⟨rfl, hys⟩ := hJ
        clear zF zN
        have hos := @four_sel s0 s1 s2 s3
        have hol : ((List.range 4).filterMap fun (o : Nat) => if [s0, s1, s2, s3].getD o 0 = 0 then none else some (o : Int)).length ≤ 4 := List.length_filterMap_le _ _
        generalize ((List.range 4).filterMap fun (o : Nat) => if [s0, s1, s2, s3].getD o 0 = 0 then none else some (o : Int)) = os at hys hos hol
        k_steps
        · rename Fr h₀ L _ m => kF
          revert kF
          rename Fr _ _ _ _ => zF
          intro kF
          have z := frame_back (tl := []) zG N (frame_none N) zF News.nil News.nil
          exact hret _ [] _ _ kF z.1 z.2 ⟨rfl, _, rfl, fun _ => can_left (BB := false) (decide_eq_false hgp) hs0 hs1 hs2 hs3 hos (by assumption) (by assumption)⟩
        · rename Fr h₀ L _ m => kF
          revert kF
          rename Fr _ _ _ _ => zF
          intro kF
          have z := frame_back (tl := []) zG N (frame_none N) zF News.nil News.nil
          exact hret _ [] _ _ kF z.1 z.2 ⟨rfl, _, rfl, fun e => can_right (BB := false) (decide_eq_false hgp) hs0 (of_decide_eq_true e)⟩

local macro_rules | `(tactic| walk_at "call ref") => `(tactic| ((with_reducible show wpAny _ _ (call (Value.ref 508) _) _ _ _); k_dflt (refine' Tell.use (places_tell _ _ _ _ _ _ _ _ _ _ _ _ _ ?q1 ?q2 ?q3 ?q4 ?q5 ?q6) ?k1 ?k2 ?k3 ?k4 ?k5 ?k6 ?k7 ?k8 ?kp ?_; (case kp => exact ⟨BoxIn.mono (Fr.keep (by k_asm)) (by assumption), stays_list (Fr.keep (by k_asm)) (by assumption), NodesIn.mono (Fr.keep (by k_asm)) (by assumption)⟩); (case q1 => assumption); (case q2 => assumption); (case q3 => assumption); (case q4 => assumption); (case q5 => assumption); (case q6 => assumption); ktn_open; intro r9 tl9 h9 tk9 F9 N9 O9 e9; (obtain ⟨D9, fv9, k9, er9, et9, hP9⟩ := e9); subst er9; subst et9; (simp only [List.cons_append, List.nil_append] at N9); (try dsimp only); (try k_fold))))
local macro_rules | `(tactic| walk_at "call type:zip") => `(tactic| (refine pause_intro ?_))
local macro_rules | `(tactic| walk_at "eval ListComp") => `(tactic| ((with_reducible show wpAny _ _ (eval (Expr.ListComp _ [⟨_, Expr.Call (Expr.Name _ _) [_, _] _ _, _, 0⟩] _ _) _) _ _ _); k_dflt (refine ListComp_Z (by k_asm) (by with_unfolding_all rfl) (by decide) (by rfl) (by decide) (by rfl) ?_)))
local macro_rules | `(tactic| walk_at "spliced") => `(tactic| (dsimp only; walk_at "spliced"))
local macro_rules | `(tactic| walk_at "execs cons") => `(tactic| (dsimp only; walk_at "execs cons"))
local macro_rules | `(tactic| walk_at "exec Return some") => `(tactic| (exact absurd (by with_reducible assumption) ‹_ * _ ≠ _ * _›))

theorem placesI_len (sg od up dn : Int) (nds : List Nd) : (placesI sg od up dn nds).length = nds.length + 1 := by
  unfold placesI
  rw [List.length_cons, List.length_map, List.length_range]
set_option maxRecDepth 100000 in
set_option maxHeartbeats 0 in
theorem scaled_tell (w : World) (xf itf rf xo ito ro : Addr) (wd ht dt sg od up dn wd' ht' dt' up' dn' c b c' b' k : Int) (vf vo : List Value) (nf no : List Nd) (t t1 t2 t3 t4 : Tok) (news : Led) (hk1 : 1 ≤ k) (hk2 : k < 40)
    (e1 : wd' = k * wd) (e2 : ht' = k * ht) (e3 : dt' = k * dt) (e4 : up' * dn = up * dn') (e5 : c' = c) (e6 : c = 3 → b' = k * b) (e7 : c ≠ 3 → b' = b)
    (w1 : -1000000 < wd ∧ wd < 1000000) (w2 : -1000000 < ht ∧ ht < 1000000) (w3 : -1000000 < dt ∧ dt < 1000000) (w4 : 0 ≤ b ∧ b < 1000000) (w5 : 0 ≤ c ∧ c < 4)
    (d1 : 0 < dn) (d2 : dn < 2 ^ 20) (d3 : 0 ≤ up) (d4 : up < 1000000) (d5 : ∀ i, -1000000 < sumF (flexI sg od) (nf.take i) ∧ sumF (flexI sg od) (nf.take i) < 1000000) (d6 : nf.length ≤ 100)
    (o1 : 0 < dn') (o2 : dn' < 2 ^ 20) (o3 : 0 ≤ up') (o4 : up' < 1000000) (o5 : ∀ i, -1000000 < sumF (flexI sg od) (no.take i) ∧ sumF (flexI sg od) (no.take i) < 1000000) (o6 : no.length ≤ 100)
    (hlen : no.length = nf.length) (hbd : ∀ p ∈ placesI sg od up dn nf, -100000000 < p ∧ p < 100000000) (hbd' : ∀ p ∈ placesI sg od up' dn' no, -100000000 < p ∧ p < 100000000) (hpl : ∀ (i : Nat) (p' p : Int), (placesI sg od up' dn' no)[i]? = some p' → (placesI sg od up dn nf)[i]? = some p → 2 * (p' - k * p) ≤ k + 1 ∧ -(k + 1) ≤ 2 * (p' - k * p)) :
    Tell w 575 [.ref xf, .ref rf, .ref xo, .ref ro, .int k t] news (fun h => BoxIn w h xf itf wd ht dt sg od up dn ∧ h.IsList itf vf.toArray ∧ NodesIn w h vf nf ∧ h.get? rf = some (tupObj [.int c t1, .int b t2]) ∧
      BoxIn w h xo ito wd' ht' dt' sg od up' dn' ∧ h.IsList ito vo.toArray ∧ NodesIn w h vo no ∧ h.get? ro = some (tupObj [.int c' t3, .int b' t4])) 20 200 (fun r tl => tl = [] ∧ r = .bool true) := by
  w_top off
  intro p loose mean mg mb dp un gd cn cs a ccd cl outer A₀ base h₀ L m s Q E B F X N T hk hd hu hp hret
  tb_rel
  rename GSub _ _ _ => zG
  obtain ⟨hbf, hlf, hnf, htf, hbo, hlo, hno, hto⟩ := hp
  replace hbf := hbf.mono (gsub_nil zG)
  replace hbo := hbo.mono (gsub_nil zG)
  replace hlf := stays_list (gsub_nil zG) hlf
  replace hlo := stays_list (gsub_nil zG) hlo
  replace hnf := hnf.mono (gsub_nil zG)
  replace hno := hno.mono (gsub_nil zG)
  have rtf := reads_tuple_at (gsub_nil zG _ _ htf) rfl rfl (.cons (.int _ _) (.cons (.int _ _) .nil))
  have rto := reads_tuple_at (gsub_nil zG _ _ hto) rfl rfl (.cons (.int _ _) (.cons (.int _ _) .nil))
  replace htf := tup_is (gsub_nil zG _ _ htf)
  replace hto := tup_is (gsub_nil zG _ _ hto)
  have hbf' := hbf
  have hbo' := hbo
  cases hbf
  cases hbo
  subst e1 e2 e3 e5
  rename _ = some (tupObj [.int up _, .int dn _]) => hqf
  rename _ = some (tupObj [.int up' _, .int dn' _]) => hqo
  replace hqf := tup_is hqf
  replace hqo := tup_is hqo
  k_steps
  · skip
    rename Fr _ _ _ _ => zF
    rename News _ _ _ _ => zN
    rename IntsAre _ (placesI sg od up dn nf) => hPf
    rename IntsAre _ (placesI sg od up' dn' no) => hPo
    refine zip_src (n := no.length + 1) (fun i acc => acc = []) rfl zF zN (by k_mem) (by k_mem) (by rw [List.size_toArray, hPo.length, placesI_len]) (by rw [List.size_toArray, hPf.length, placesI_len, hlen]) (Nat.succ_pos _) (by simp only [PySem.sizeLine_eq]; omega) rfl ?turn ?fin
    case turn =>
      intro g7 i xv yv acc C oC T rest m₂ h7 tk7 E7 hx hy hJ hC hm F7 N7
      obtain ⟨p', tp', rfl, hp'⟩ := ints_at hPo (by simpa using hx)
      obtain ⟨p, tp, rfl, hp⟩ := ints_at hPf (by simpa using hy)
      obtain ⟨z1, z2⟩ := hpl i p' p hp' hp
      obtain ⟨z3, z4⟩ := hbd p (List.mem_of_getElem? hp)
      obtain ⟨z5, z6⟩ := hbd' p' (List.mem_of_getElem? hp')
      simp only [List.cons_append, List.nil_append] at N7
      clear zF zN
      refine wpAny_tests_one ?_
      k_steps
      rename Fr _ _ _ _ => zF
      rename News _ _ _ _ => zN
      exact zturn_same zF zN hJ
    case fin =>
      intro g7 acc hJ
      subst hJ
      clear zF zN
      k_steps
      rename Fr h₀ L _ m => kF
      revert kF
      rename Fr _ _ _ _ => zF
      intro kF
      have z := frame_back (tl := []) zG N (frame_none N) zF News.nil News.nil
      exact hret _ [] _ _ kF z.1 z.2 ⟨rfl, rfl⟩
  · exact absurd (e6 (by assumption)) (by assumption)
  · skip
    rename Fr _ _ _ _ => zF
    rename News _ _ _ _ => zN
    rename IntsAre _ (placesI sg od up dn nf) => hPf
    rename IntsAre _ (placesI sg od up' dn' no) => hPo
    refine zip_src (n := no.length + 1) (fun i acc => acc = []) rfl zF zN (by k_mem) (by k_mem) (by rw [List.size_toArray, hPo.length, placesI_len]) (by rw [List.size_toArray, hPf.length, placesI_len, hlen]) (Nat.succ_pos _) (by simp only [PySem.sizeLine_eq]; omega) rfl ?turn ?fin
    case turn =>
      intro g7 i xv yv acc C oC T rest m₂ h7 tk7 E7 hx hy hJ hC hm F7 N7
      obtain ⟨p', tp', rfl, hp'⟩ := ints_at hPo (by simpa using hx)
      obtain ⟨p, tp, rfl, hp⟩ := ints_at hPf (by simpa using hy)
      obtain ⟨z1, z2⟩ := hpl i p' p hp' hp
      obtain ⟨z3, z4⟩ := hbd p (List.mem_of_getElem? hp)
      obtain ⟨z5, z6⟩ := hbd' p' (List.mem_of_getElem? hp')
      simp only [List.cons_append, List.nil_append] at N7
      clear zF zN
      refine wpAny_tests_one ?_
      k_steps
      rename Fr _ _ _ _ => zF
      rename News _ _ _ _ => zN
      exact zturn_same zF zN hJ
    case fin =>
      intro g7 acc hJ
      subst hJ
      clear zF zN
      k_steps
      rename Fr h₀ L _ m => kF
      revert kF
      rename Fr _ _ _ _ => zF
      intro kF
      have z := frame_back (tl := []) zG N (frame_none N) zF News.nil News.nil
      exact hret _ [] _ _ kF z.1 z.2 ⟨rfl, rfl⟩
  · exact absurd (e7 (by assumption)) (by assumption)

-- the plain laws: what the walk computes answers as the statement says
theorem fdiv_bd (x c : Int) (hc : 0 < c) : c * Int.fdiv x c ≤ x ∧ x < c * Int.fdiv x c + c := by
  have h1 := Int.mul_fdiv_add_fmod x c
  have h2 := Int.fmod_nonneg_of_pos x hc
  have h3 := Int.fmod_lt_of_pos x hc
  omega
theorem roundI_half (n b : Int) (hb : 0 < b) : 2 * (b * roundI n b) ≤ 2 * n + b ∧ 2 * n - b ≤ 2 * (b * roundI n b) := by
  unfold roundI
  split
  · have z := fdiv_bd (b - 2 * n) (2 * b) (by omega)
    have e : 2 * b * Int.fdiv (b - 2 * n) (2 * b) = 2 * (b * Int.fdiv (b - 2 * n) (2 * b)) := Int.mul_assoc _ _ _
    rw [e] at z
    rw [Int.mul_neg]
    omega
  · have z := fdiv_bd (2 * n + b) (2 * b) (by omega)
    have e : 2 * b * Int.fdiv (2 * n + b) (2 * b) = 2 * (b * Int.fdiv (2 * n + b) (2 * b)) := Int.mul_assoc _ _ _
    rw [e] at z
    omega
theorem roundI_mul (g t : Int) (ht : 0 < t) : roundI (g * t) t = g := by
  obtain ⟨a, b⟩ := roundI_half (g * t) t ht
  generalize roundI (g * t) t = r at a b
  have a' : 2 * (r - g) * t ≤ 1 * t := by grind
  have b' : -1 * t ≤ 2 * (r - g) * t := by grind
  have a2 := Int.le_of_mul_le_mul_right a' ht
  have b2 := Int.le_of_mul_le_mul_right b' ht
  omega
theorem roundI_zero (b : Int) (hb : 0 < b) : roundI 0 b = 0 := by
  have := roundI_mul 0 b hb
  rwa [Int.zero_mul] at this
theorem roundI_neg (n b : Int) (hb : 0 < b) : roundI (-n) b = -roundI n b := by
  by_cases h0 : n = 0
  · subst h0
    rw [Int.neg_zero, roundI_zero b hb]
    rfl
  · unfold roundI
    by_cases h : n < 0
    · rw [if_pos h, if_neg (by omega), Int.neg_neg, show 2 * -n + b = b - 2 * n by omega]
    · rw [if_neg h, if_pos (by omega), show b - 2 * -n = 2 * n + b by omega]
theorem roundI_nonneg (n b : Int) (hb : 0 < b) (hn : 0 ≤ n) : 0 ≤ roundI n b := by
  obtain ⟨_, h⟩ := roundI_half n b hb
  by_cases q : 0 ≤ roundI n b
  · exact q
  · have : b * roundI n b ≤ b * (-1) := Int.mul_le_mul_of_nonneg_left (by omega) (Int.le_of_lt hb)
    omega
theorem roundI_nonpos (n b : Int) (hb : 0 < b) (hn : n ≤ 0) : roundI n b ≤ 0 := by
  have := roundI_nonneg (-n) b hb (by omega)
  rw [roundI_neg n b hb] at this
  omega
/-- rounding follows a scale by half a unit of each -/
theorem roundI_scale {k n n' b b' : Int} (hk : 0 < k) (hb : 0 < b) (hb' : 0 < b') (e : n' * b = k * n * b') :
    2 * (roundI n' b' - k * roundI n b) ≤ k + 1 ∧ -(k + 1) ≤ 2 * (roundI n' b' - k * roundI n b) := by
  obtain ⟨a1, a2⟩ := roundI_half n b hb
  obtain ⟨b1, b2⟩ := roundI_half n' b' hb'
  generalize roundI n b = r at *
  generalize roundI n' b' = r' at *
  have P : 0 < b * b' := Int.mul_pos hb hb'
  have kb := Int.le_of_lt (Int.mul_pos hk hb')
  constructor
  · refine Int.le_of_mul_le_mul_right ?_ P
    have A := Int.mul_le_mul_of_nonneg_left b1 (Int.le_of_lt hb)
    have B := Int.mul_le_mul_of_nonneg_left a2 kb
    grind
  · refine Int.le_of_mul_le_mul_right ?_ P
    have A := Int.mul_le_mul_of_nonneg_left b2 (Int.le_of_lt hb)
    have B := Int.mul_le_mul_of_nonneg_left a1 kb
    grind
theorem badI_scale {k e t : Int} (hk : 0 < k) (ht : 0 ≤ t) : badI (k * e) (k * t) = badI e t := by
  unfold badI
  by_cases he : e = 0
  · subst he
    simp
  · rw [if_neg he, if_neg (by intro h; rcases Int.mul_eq_zero.mp h with h | h <;> omega)]
    by_cases h0 : t ≤ 0
    · have : t = 0 := by omega
      subst this
      simp
    · rw [if_neg h0, if_neg (by have := Int.mul_pos hk (show 0 < t by omega); omega)]
      have q : Int.fdiv (k * e * 297) (k * t) = Int.fdiv (e * 297) t := by
        rw [Int.mul_assoc]
        exact Int.mul_fdiv_mul_of_pos _ _ hk
      rw [q]
theorem topI_scale {k b c d : Int} (hk : 0 < k) : topI (k * b) (k * c) (k * d) = topI b c d := by
  have z : ∀ x : Int, k * x ≠ 0 ↔ x ≠ 0 := fun x => ⟨fun h e => h (by rw [e, Int.mul_zero]), fun h e => by rcases Int.mul_eq_zero.mp e with h' | h' <;> omega⟩
  unfold topI
  simp only [z]
theorem getD4_scale {k a b c d : Int} (n : Nat) : [k * a, k * b, k * c, k * d].getD n 0 = k * [a, b, c, d].getD n 0 := by
  match n with
  | 0 => rfl
  | 1 => rfl
  | 2 => rfl
  | 3 => rfl
  | n + 4 => simp
theorem getD4_nonneg {a b c d : Int} (n : Nat) (ha : 0 ≤ a) (hb : 0 ≤ b) (hc : 0 ≤ c) (hd : 0 ≤ d) : 0 ≤ [a, b, c, d].getD n 0 := by
  match n with
  | 0 => exact ha
  | 1 => exact hb
  | 2 => exact hc
  | 3 => exact hd
  | n + 4 => simp
theorem setG_scale {k s0 s1 s2 s3 z0 z1 z2 z3 e sg od up dn r0 r1 sg' od' up' dn' r0' r1' : Int} (hk : 0 < k) (hs0 : 0 ≤ s0) (hs1 : 0 ≤ s1) (hs2 : 0 ≤ s2) (hs3 : 0 ≤ s3) (hz0 : 0 ≤ z0) (hz1 : 0 ≤ z1) (hz2 : 0 ≤ z2) (hz3 : 0 ≤ z3)
    (h : (sg, od, up, dn, r0, r1) = setG s0 s1 s2 s3 z0 z1 z2 z3 e) (h' : (sg', od', up', dn', r0', r1') = setG (k * s0) (k * s1) (k * s2) (k * s3) (k * z0) (k * z1) (k * z2) (k * z3) (k * e)) :
    sg' = sg ∧ od' = od ∧ up' * dn = up * dn' ∧ r0' = r0 ∧ (r0 = 3 → r1' = k * r1) ∧ (r0 ≠ 3 → r1' = r1) := by
  have zk : ∀ x : Int, k * x = 0 ↔ x = 0 := fun x => ⟨fun h => by rcases Int.mul_eq_zero.mp h with h' | h' <;> omega, fun h => by rw [h, Int.mul_zero]⟩
  have pk : ∀ x : Int, 0 < k * x ↔ 0 < x := fun x => ⟨fun h => Int.pos_of_mul_pos_right h hk, fun h => Int.mul_pos hk h⟩
  have lk : ∀ x y : Int, k * x < -(k * y) ↔ x < -y := fun x y => by
    have := pk (-y - x)
    rw [Int.mul_sub, Int.mul_neg] at this
    omega
  unfold setG at h h'
  simp only [topI_scale hk, getD4_scale, zk, pk, lk] at h'
  have T := getD4_nonneg (topI s1 s2 s3).toNat hs0 hs1 hs2 hs3
  have U := getD4_nonneg (topI z1 z2 z3).toNat hz0 hz1 hz2 hz3
  generalize [s0, s1, s2, s3].getD (topI s1 s2 s3).toNat 0 = t at *
  generalize [z0, z1, z2, z3].getD (topI z1 z2 z3).toNat 0 = u at *
  generalize topI s1 s2 s3 = a at *
  generalize topI z1 z2 z3 = b at *
  have b1 : badI (k * e) (k * t) = badI e t := badI_scale hk T
  have b2 : badI (-(k * e)) (k * u) = badI (-e) u := by rw [← Int.mul_neg]; exact badI_scale hk U
  rw [b1, b2] at h'
  generalize badI e t = x at *
  generalize badI (-e) u = y at *
  clear b1 b2 zk pk lk hs0 hs1 hs2 hs3 hz0 hz1 hz2 hz3
  split at h
  · rw [if_pos (by assumption)] at h'
    cases h; cases h'
    simp
  rw [if_neg (by assumption)] at h'
  split at h
  · rw [if_pos (by assumption)] at h'
    split at h
    · rw [if_pos (by assumption)] at h'
      cases h; cases h'
      refine ⟨rfl, rfl, rfl, rfl, ?_, fun _ => rfl⟩
      intro q; split at q <;> omega
    · rw [if_neg (by assumption)] at h'
      cases h; cases h'
      refine ⟨rfl, rfl, by grind, rfl, ?_, fun _ => rfl⟩
      intro q; split at q <;> omega
  rw [if_neg (by assumption)] at h'
  split at h
  · rw [if_pos (by assumption)] at h'
    split at h
    · rw [if_pos (by assumption)] at h'
      cases h; cases h'
      exact ⟨rfl, rfl, rfl, rfl, fun _ => by grind, fun q => absurd rfl q⟩
    · rw [if_neg (by assumption)] at h'
      cases h; cases h'
      exact ⟨rfl, rfl, rfl, rfl, fun _ => by grind, fun q => absurd rfl q⟩
  rw [if_neg (by assumption)] at h'
  split at h
  · rw [if_pos (by assumption)] at h'
    cases h; cases h'
    refine ⟨rfl, rfl, rfl, rfl, ?_, fun _ => rfl⟩
    intro q; split at q <;> omega
  · rw [if_neg (by assumption)] at h'
    cases h; cases h'
    refine ⟨rfl, rfl, by grind, rfl, ?_, fun _ => rfl⟩
    intro q; split at q <;> omega
/-- what setG answers is fit for places -/
theorem setG_fit {s0 s1 s2 s3 z0 z1 z2 z3 e sg od up dn r0 r1 : Int} (hs0 : 0 ≤ s0 ∧ s0 < 20000) (hs1 : 0 ≤ s1 ∧ s1 < 20000) (hs2 : 0 ≤ s2 ∧ s2 < 20000) (hs3 : 0 ≤ s3 ∧ s3 < 20000) (hz0 : 0 ≤ z0 ∧ z0 < 20000) (hz1 : 0 ≤ z1 ∧ z1 < 20000) (hz2 : 0 ≤ z2 ∧ z2 < 20000) (hz3 : 0 ≤ z3 ∧ z3 < 20000)
    (he : -10000 < e ∧ e < 10000) (h : (sg, od, up, dn, r0, r1) = setG s0 s1 s2 s3 z0 z1 z2 z3 e) : 0 < dn ∧ dn < 2 ^ 20 ∧ 0 ≤ up ∧ up < 1000000 ∧ (sg = 1 → 0 < e) ∧ (sg = 2 → e < 0) ∧ (0 ≤ r0 ∧ r0 < 4) := by
  have g4 : ∀ (n : Nat) (a b c d : Int), (0 ≤ a ∧ a < 20000) → (0 ≤ b ∧ b < 20000) → (0 ≤ c ∧ c < 20000) → (0 ≤ d ∧ d < 20000) → 0 ≤ [a, b, c, d].getD n 0 ∧ [a, b, c, d].getD n 0 < 20000 := fun n a b c d ha hb hc hd => by
    match n with
    | 0 => exact ha
    | 1 => exact hb
    | 2 => exact hc
    | 3 => exact hd
    | n + 4 => simp
  unfold setG at h
  have T := g4 (topI s1 s2 s3).toNat _ _ _ _ hs0 hs1 hs2 hs3
  have U := g4 (topI z1 z2 z3).toNat _ _ _ _ hz0 hz1 hz2 hz3
  generalize [s0, s1, s2, s3].getD (topI s1 s2 s3).toNat 0 = t at *
  generalize [z0, z1, z2, z3].getD (topI z1 z2 z3).toNat 0 = u at *
  generalize topI s1 s2 s3 = a at *
  generalize topI z1 z2 z3 = b at *
  clear hs0 hs1 hs2 hs3 hz0 hz1 hz2 hz3 g4
  split at h
  · cases h; omega
  split at h
  · split at h <;> cases h <;> (refine ⟨by omega, by omega, by omega, by omega, by omega, by omega, ?_⟩; split <;> omega)
  split at h
  · split at h <;> cases h <;> omega
  split at h <;> cases h <;> (refine ⟨by omega, by omega, by omega, by omega, by omega, by omega, ?_⟩; split <;> omega)
theorem badI_bd {e t : Int} (he : 0 ≤ e) : 0 ≤ badI e t ∧ badI e t ≤ 10000 := by
  unfold badI
  split
  · omega
  split
  · omega
  rename_i h0 h1
  split
  · omega
  rename_i h2
  have r0 : 0 ≤ Int.fdiv (e * 297) t := Int.fdiv_nonneg (by omega) (by omega)
  generalize Int.fdiv (e * 297) t = r at *
  have a1 : 0 ≤ r * r := Int.mul_nonneg r0 r0
  have a2 : r * r ≤ 1290 * 1290 := Int.mul_le_mul (by omega) (by omega) r0 (by omega)
  have b1 : 0 ≤ r * r * r := Int.mul_nonneg a1 r0
  have b2 : r * r * r ≤ 1290 * 1290 * 1290 := Int.mul_le_mul a2 (by omega) r0 (by omega)
  generalize r * r * r = q at *
  have z := fdiv_bd (q + 131072) 262144 (by omega)
  generalize Int.fdiv (q + 131072) 262144 = y at *
  omega
theorem setG_r1 {s0 s1 s2 s3 z0 z1 z2 z3 e sg od up dn r0 r1 : Int} (hz0 : 0 ≤ z0 ∧ z0 < 20000) (hz1 : 0 ≤ z1 ∧ z1 < 20000) (hz2 : 0 ≤ z2 ∧ z2 < 20000) (hz3 : 0 ≤ z3 ∧ z3 < 20000)
    (he : -10000 < e ∧ e < 10000) (h : (sg, od, up, dn, r0, r1) = setG s0 s1 s2 s3 z0 z1 z2 z3 e) : 0 ≤ r1 ∧ r1 < 1000000 := by
  have U := getD4_nonneg (topI z1 z2 z3).toNat hz0.1 hz1.1 hz2.1 hz3.1
  have b1 : ∀ t, 0 < e → 0 ≤ badI e t ∧ badI e t ≤ 10000 := fun t h => badI_bd (by omega)
  have b2 : ∀ t, ¬ 0 < e → 0 ≤ badI (-e) t ∧ badI (-e) t ≤ 10000 := fun t h => badI_bd (by omega)
  unfold setG at h
  generalize [s0, s1, s2, s3].getD (topI s1 s2 s3).toNat 0 = t at *
  generalize [z0, z1, z2, z3].getD (topI z1 z2 z3).toNat 0 = u at *
  generalize topI s1 s2 s3 = a at *
  generalize topI z1 z2 z3 = b at *
  clear hz0 hz1 hz2 hz3
  split at h
  · cases h; omega
  split at h
  · rename_i q
    have := b1 t q
    split at h <;> cases h <;> split <;> omega
  rename_i q
  have := b2 u q
  split at h
  · split at h <;> cases h <;> omega
  split at h <;> cases h <;> split <;> omega
/-- the mirrored box: the other sense, the same order and ratio -/
theorem setG_mirror {s0 s1 s2 s3 z0 z1 z2 z3 e sg od up dn r0 r1 sg' od' up' dn' r0' r1' : Int} (hs0 : 0 ≤ s0) (hs1 : 0 ≤ s1) (hs2 : 0 ≤ s2) (hs3 : 0 ≤ s3) (hz0 : 0 ≤ z0) (hz1 : 0 ≤ z1) (hz2 : 0 ≤ z2) (hz3 : 0 ≤ z3)
    (hc : (0 < e → topI s1 s2 s3 = 0 → e ≤ s0) ∧ (e < 0 → topI z1 z2 z3 = 0 → -e ≤ z0))
    (h : (sg, od, up, dn, r0, r1) = setG s0 s1 s2 s3 z0 z1 z2 z3 e) (h' : (sg', od', up', dn', r0', r1') = setG z0 z1 z2 z3 s0 s1 s2 s3 (-e)) :
    od' = od ∧ up' = up ∧ dn' = dn ∧ r0' = [0, 2, 1].getD r0.toNat 0 ∧ r0 ≤ 2 ∧ r1' = r1 ∧ ((e = 0 ∧ sg = 0 ∧ sg' = 0) ∨ (0 < e ∧ sg = 1 ∧ sg' = 2 ∧ od = topI s1 s2 s3 ∧ up = e ∧ dn = [s0, s1, s2, s3].getD (topI s1 s2 s3).toNat 0) ∨ (e < 0 ∧ sg = 2 ∧ sg' = 1 ∧ od = topI z1 z2 z3 ∧ up = -e ∧ dn = [z0, z1, z2, z3].getD (topI z1 z2 z3).toNat 0)) := by
  have nz : ∀ a b c d : Int, topI b c d ≠ 0 → 0 ≤ b → 0 ≤ c → 0 ≤ d → [a, b, c, d].getD (topI b c d).toNat 0 ≠ 0 := by
    intro a b c d h hb hc hd
    unfold topI at h ⊢
    split
    · show d ≠ 0; assumption
    split
    · show c ≠ 0; assumption
    split
    · show b ≠ 0; assumption
    · rename_i x y z; rw [if_neg x, if_neg y, if_neg z] at h; exact absurd rfl h
  have hz : ∀ a b c d : Int, topI b c d = 0 → [a, b, c, d].getD (topI b c d).toNat 0 = a := fun a b c d h => by rw [h]; rfl
  have n1 := nz s0 s1 s2 s3
  have n2 := nz z0 z1 z2 z3
  have e1 := hz s0 s1 s2 s3
  have e2 := hz z0 z1 z2 z3
  have T := getD4_nonneg (topI s1 s2 s3).toNat hs0 hs1 hs2 hs3
  have U := getD4_nonneg (topI z1 z2 z3).toNat hz0 hz1 hz2 hz3
  unfold setG at h h'
  rw [Int.neg_neg] at h'
  generalize [s0, s1, s2, s3].getD (topI s1 s2 s3).toNat 0 = t at *
  generalize [z0, z1, z2, z3].getD (topI z1 z2 z3).toNat 0 = u at *
  generalize topI s1 s2 s3 = a at *
  generalize topI z1 z2 z3 = b at *
  clear nz hz
  obtain ⟨c1, c2⟩ := hc
  by_cases q0 : e = 0
  · subst q0
    rw [if_pos rfl] at h
    rw [if_pos (by omega)] at h'
    cases h; cases h'
    exact ⟨rfl, rfl, rfl, rfl, by omega, rfl, .inl ⟨rfl, rfl, rfl⟩⟩
  rw [if_neg q0] at h
  rw [if_neg (by omega)] at h'
  by_cases q1 : 0 < e
  · have t0 : t ≠ 0 := by
      by_cases ha : a = 0
      · have := c1 q1 ha; have := e1 ha; omega
      · exact n1 ha hs1 hs2 hs3
    have nf : ¬ (a = 0 ∧ t < e) := fun ⟨x, y⟩ => by have := c1 q1 x; have := e1 x; omega
    rw [if_pos q1, if_neg t0] at h
    rw [if_neg (by omega), if_neg nf, if_neg t0] at h'
    cases h; cases h'
    refine ⟨rfl, rfl, rfl, ?_, by split <;> omega, rfl, .inr (.inl ⟨q1, rfl, rfl, rfl, rfl, rfl⟩)⟩
    split <;> rfl
  · have t0 : u ≠ 0 := by
      by_cases hb : b = 0
      · have := c2 (by omega) hb; have := e2 hb; omega
      · exact n2 hb hz1 hz2 hz3
    have nf : ¬ (b = 0 ∧ u < -e) := fun ⟨x, y⟩ => by have := c2 (by omega) x; have := e2 x; omega
    rw [if_neg q1, if_neg nf, if_neg t0] at h
    rw [if_pos (by omega), if_neg t0] at h'
    cases h; cases h'
    refine ⟨rfl, rfl, rfl, ?_, by split <;> omega, rfl, .inr (.inr ⟨by omega, rfl, rfl, rfl, rfl, rfl⟩)⟩
    split <;> rfl
theorem mul_sm {a k : Int} (h1 : 0 ≤ a) (h2 : a < 9) (k1 : 1 ≤ k) (k2 : k < 40) : 0 ≤ a * k ∧ a * k ≤ 320 := by
  have z := Int.mul_le_mul_of_nonneg_right (show a ≤ 8 by omega) (show 0 ≤ k by omega)
  have := Int.mul_nonneg h1 (show 0 ≤ k by omega)
  omega
def NdSm (nd : Nd) : Prop := NdOk nd ∧ (-4000 ≤ nd.wd ∧ nd.wd ≤ 4000) ∧ (-8000 ≤ nd.lh ∧ nd.lh ≤ 8000) ∧ (-8000 ≤ nd.ld ∧ nd.ld ≤ 8000) ∧ (∀ o, (0 ≤ stO o nd ∧ stO o nd ≤ 320) ∧ 0 ≤ shO o nd ∧ shO o nd ≤ 320) ∧ ∀ sg od, -320 ≤ flexI sg od nd ∧ flexI sg od nd ≤ 320
theorem ndSm_kern {k : Int} (h1 : 0 ≤ k) (h2 : k < 40) : NdSm (.kern k) := by
  refine ⟨True.intro, ⟨?_, ?_⟩, ⟨?_, ?_⟩, ⟨?_, ?_⟩, fun o => ⟨⟨Int.le_refl _, ?_⟩, Int.le_refl _, ?_⟩, fun sg od => ⟨?_, ?_⟩⟩ <;> simp only [Nd.wd, Nd.lh, Nd.ld, stO, shO, flexI] <;> omega
theorem ndSm_glue {x y c z e : Int} (hx : -4000 < x ∧ x < 4000) (hy : 0 ≤ y ∧ y ≤ 320) (hz : 0 ≤ z ∧ z ≤ 320) (hc : 0 ≤ c ∧ c ≤ 3) (he : 0 ≤ e ∧ e ≤ 3) : NdSm (.glue x y (if y = 0 then 0 else c) z (if z = 0 then 0 else e)) := by
  have hu : 0 ≤ (if y = 0 then 0 else c) ∧ (if y = 0 then 0 else c) ≤ 3 := by split <;> omega
  have hv : 0 ≤ (if z = 0 then 0 else e) ∧ (if z = 0 then 0 else e) ≤ 3 := by split <;> omega
  generalize (if y = 0 then 0 else c) = u at *
  generalize (if z = 0 then 0 else e) = v at *
  refine ⟨⟨hu.1, hu.2, hv.1, hv.2⟩, ⟨?_, ?_⟩, ⟨?_, ?_⟩, ⟨?_, ?_⟩, fun o => ?_, fun sg od => ?_⟩
  all_goals try (simp only [Nd.wd, Nd.lh, Nd.ld]; omega)
  · show (0 ≤ (if u = (o : Int) then y else 0) ∧ (if u = (o : Int) then y else 0) ≤ 320) ∧ 0 ≤ (if v = (o : Int) then z else 0) ∧ (if v = (o : Int) then z else 0) ≤ 320
    split <;> split <;> omega
  · show -320 ≤ (if sg = 1 ∧ u = od then y else if sg = 2 ∧ v = od then -z else 0) ∧ (if sg = 1 ∧ u = od then y else if sg = 2 ∧ v = od then -z else 0) ≤ 320
    split
    · omega
    · split <;> omega
theorem ndSm_of {orders k : Int} {mir : Bool} {pt : Pt} (ho : orders ≤ 4) (hk1 : 1 ≤ k) (hk2 : k < 40) (h : PtOk orders pt) : NdSm (ndOf k mir pt) := by
  cases pt with
  | glue a b c d e =>
    obtain ⟨⟨a1, a2⟩, ⟨b1, b2⟩, ⟨c1, c2⟩, ⟨d1, d2⟩, e1, e2⟩ := h
    have A := mul_bd (a := a) (by omega) (by omega) hk1 hk2
    have B := mul_sm b1 b2 hk1 hk2
    have D := mul_sm d1 d2 hk1 hk2
    cases mir
    · exact ndSm_glue A B D ⟨c1, by omega⟩ ⟨e1, by omega⟩
    · exact ndSm_glue A D B ⟨e1, by omega⟩ ⟨c1, by omega⟩
  | box a b c d =>
    obtain ⟨⟨a1, a2⟩, ⟨b1, b2⟩, ⟨c1, c2⟩, d1, d2⟩ := h
    have A := mul_bd (a := a) (by omega) (by omega) hk1 hk2
    have B := mul_bd (a := b) (by omega) (by omega) hk1 hk2
    have C := mul_bd (a := c) (by omega) (by omega) hk1 hk2
    have D := mul_bd (a := d) (by omega) (by omega) hk1 hk2
    refine ⟨True.intro, ⟨?_, ?_⟩, ⟨?_, ?_⟩, ⟨?_, ?_⟩, fun o => ⟨⟨?_, ?_⟩, ?_, ?_⟩, fun sg od => ⟨?_, ?_⟩⟩ <;> simp only [ndOf, Nd.wd, Nd.lh, Nd.ld, stO, shO, flexI] <;> omega
  | rule a b =>
    obtain ⟨⟨a1, a2⟩, b1, b2⟩ := h
    have A := mul_bd (a := a) (by omega) (by omega) hk1 hk2
    have B := mul_bd (a := b) (by omega) (by omega) hk1 hk2
    refine ⟨True.intro, ⟨?_, ?_⟩, ⟨?_, ?_⟩, ⟨?_, ?_⟩, fun o => ⟨⟨?_, ?_⟩, ?_, ?_⟩, fun sg od => ⟨?_, ?_⟩⟩ <;> simp only [ndOf, Nd.wd, Nd.lh, Nd.ld, stO, shO, flexI] <;> omega
  | kern a =>
    obtain ⟨a1, a2⟩ := h
    have A := mul_bd (a := a) (by omega) (by omega) hk1 hk2
    refine ⟨True.intro, ⟨?_, ?_⟩, ⟨?_, ?_⟩, ⟨?_, ?_⟩, fun o => ⟨⟨?_, ?_⟩, ?_, ?_⟩, fun sg od => ⟨?_, ?_⟩⟩ <;> simp only [ndOf, Nd.wd, Nd.lh, Nd.ld, stO, shO, flexI] <;> omega
  | pen a =>
    refine ⟨True.intro, ⟨?_, ?_⟩, ⟨?_, ?_⟩, ⟨?_, ?_⟩, fun o => ⟨⟨?_, ?_⟩, ?_, ?_⟩, fun sg od => ⟨?_, ?_⟩⟩ <;> simp only [ndOf, Nd.wd, Nd.lh, Nd.ld, stO, shO, flexI] <;> omega
theorem sumF_bd {f : Nd → Int} {lo hi : Int} (h1 : lo ≤ 0) (h2 : 0 ≤ hi) : ∀ {l : List Nd}, (∀ nd ∈ l, lo ≤ f nd ∧ f nd ≤ hi) → lo * l.length ≤ sumF f l ∧ sumF f l ≤ hi * l.length
  | [], _ => by simp [sumF]
  | nd :: l, h => by
    have a := h nd (.head _)
    have b := sumF_bd h1 h2 fun x hx => h x (.tail _ hx)
    have e : sumF f (nd :: l) = f nd + sumF f l := by simp [sumF]
    rw [e, List.length_cons]
    have : ((l.length + 1 : Nat) : Int) = l.length + 1 := by omega
    rw [this, Int.mul_add, Int.mul_add]
    omega
theorem sumF_12 {f : Nd → Int} {lo hi : Int} (h1 : lo ≤ 0) (h2 : 0 ≤ hi) {l : List Nd} (hl : l.length ≤ 12) (h : ∀ nd ∈ l, lo ≤ f nd ∧ f nd ≤ hi) : lo * 12 ≤ sumF f l ∧ sumF f l ≤ hi * 12 := by
  obtain ⟨a, b⟩ := sumF_bd h1 h2 h
  have z : (l.length : Int) ≤ 12 := by omega
  have x : hi * l.length ≤ hi * 12 := Int.mul_le_mul_of_nonneg_left z h2
  have y : -lo * l.length ≤ -lo * 12 := Int.mul_le_mul_of_nonneg_left z (by omega)
  rw [Int.neg_mul, Int.neg_mul] at y
  omega
theorem maxF_bd {f : Nd → Int} {l : List Nd} (h : ∀ nd ∈ l, f nd ≤ 8000) : 0 ≤ maxF f l ∧ maxF f l ≤ 8000 := by
  have key : ∀ (l : List Nd) (a : Int), 0 ≤ a → a ≤ 8000 → (∀ nd ∈ l, f nd ≤ 8000) → 0 ≤ l.foldl (fun a n => max a (f n)) a ∧ l.foldl (fun a n => max a (f n)) a ≤ 8000 := by
    intro l
    induction l with
    | nil => exact fun a h1 h2 _ => ⟨h1, h2⟩
    | cons x l ih =>
      intro a h1 h2 h
      have := h x (.head _)
      exact ih (max a (f x)) (by omega) (by omega) fun y hy => h y (.tail _ hy)
  exact key l 0 (by omega) (by omega) h
structure HpSide (nds : List Nd) : Prop where
  ok : ∀ nd ∈ nds, NdOk nd
  w : -1000000 < sumF Nd.wd nds ∧ sumF Nd.wd nds < 1000000
  h : 0 ≤ maxF Nd.lh nds ∧ maxF Nd.lh nds < 1000000
  d : 0 ≤ maxF Nd.ld nds ∧ maxF Nd.ld nds < 1000000
  s : ∀ o, 0 ≤ sumF (stO o) nds ∧ sumF (stO o) nds < 20000
  z : ∀ o, 0 ≤ sumF (shO o) nds ∧ sumF (shO o) nds < 20000
  fl : ∀ sg od i, -4000 < sumF (flexI sg od) (nds.take i) ∧ sumF (flexI sg od) (nds.take i) < 4000
  wi : ∀ i, -100000 < sumF Nd.wd (nds.take i) ∧ sumF Nd.wd (nds.take i) < 100000
  len : nds.length ≤ 12
theorem hpSide_of {nds : List Nd} (hl : nds.length ≤ 12) (h : ∀ nd ∈ nds, NdSm nd) : HpSide nds := by
  have w0 := sumF_12 (f := Nd.wd) (lo := -4000) (hi := 4000) (by omega) (by omega) hl fun nd hn => (h nd hn).2.1
  have h0 := maxF_bd (f := Nd.lh) (l := nds) fun nd hn => (h nd hn).2.2.1.2
  have d0 := maxF_bd (f := Nd.ld) (l := nds) fun nd hn => (h nd hn).2.2.2.1.2
  refine ⟨fun nd hn => (h nd hn).1, ?_, ?_, ?_, fun o => ?_, fun o => ?_, fun sg od i => ?_, fun i => ?_, hl⟩
  · omega
  · omega
  · omega
  · have := sumF_12 (f := stO o) (lo := 0) (hi := 320) (by omega) (by omega) hl fun nd hn => ((h nd hn).2.2.2.2.1 o).1
    omega
  · have := sumF_12 (f := shO o) (lo := 0) (hi := 320) (by omega) (by omega) hl fun nd hn => ((h nd hn).2.2.2.2.1 o).2
    omega
  · have := sumF_12 (f := flexI sg od) (lo := -320) (hi := 320) (by omega) (by omega) (l := nds.take i) (by rw [List.length_take]; omega) fun nd hn => (h nd (List.mem_of_mem_take hn)).2.2.2.2.2 sg od
    omega
  · have := sumF_12 (f := Nd.wd) (lo := -4000) (hi := 4000) (by omega) (by omega) (l := nds.take i) (by rw [List.length_take]; omega) fun nd hn => (h nd (List.mem_of_mem_take hn)).2.1
    omega
theorem hpSide_map {orders k : Int} {mir : Bool} {pts : List Pt} (ho : orders ≤ 4) (hk1 : 1 ≤ k) (hk2 : k < 40) (hl : pts.length ≤ 11) (h : ∀ pt ∈ pts, PtOk orders pt) : HpSide (pts.map (ndOf k mir)) :=
  hpSide_of (by rw [List.length_map]; omega) fun nd hn => by
    obtain ⟨pt, hp, rfl⟩ := List.mem_map.mp hn
    exact ndSm_of ho hk1 hk2 (h pt hp)
theorem hpSide_kern {orders k j : Int} {mir : Bool} {pts : List Pt} (hj1 : 0 ≤ j) (hj2 : j < 40) (ho : orders ≤ 4) (hk1 : 1 ≤ k) (hk2 : k < 40) (hl : pts.length ≤ 11) (h : ∀ pt ∈ pts, PtOk orders pt) : HpSide (.kern j :: pts.map (ndOf k mir)) :=
  hpSide_of (by rw [List.length_cons, List.length_map]; omega) fun nd hn => by
    rcases List.mem_cons.mp hn with rfl | hn
    · exact ndSm_kern hj1 hj2
    obtain ⟨pt, hp, rfl⟩ := List.mem_map.mp hn
    exact ndSm_of ho hk1 hk2 (h pt hp)
theorem sumF_cons (f : Nd → Int) (nd : Nd) (l : List Nd) : sumF f (nd :: l) = f nd + sumF f l := by simp [sumF]
theorem sumF_map_scale {f : Nd → Int} {g h : Pt → Nd} {k : Int} (e : ∀ pt, f (g pt) = k * f (h pt)) (pts : List Pt) : sumF f (pts.map g) = k * sumF f (pts.map h) := by
  induction pts with
  | nil => simp [sumF]
  | cons pt l ih => rw [List.map_cons, List.map_cons, sumF_cons, sumF_cons, ih, e, Int.mul_add]
theorem maxF_map_scale {f : Nd → Int} {g h : Pt → Nd} {k : Int} (hk : 0 ≤ k) (e : ∀ pt, f (g pt) = k * f (h pt)) (pts : List Pt) : maxF f (pts.map g) = k * maxF f (pts.map h) := by
  have mx : ∀ a b : Int, max (k * a) (k * b) = k * max a b := fun a b => by
    rcases Int.le_total a b with q | q
    · rw [Int.max_eq_right q, Int.max_eq_right (Int.mul_le_mul_of_nonneg_left q hk)]
    · rw [Int.max_eq_left q, Int.max_eq_left (Int.mul_le_mul_of_nonneg_left q hk)]
  have key : ∀ (l : List Pt) (a : Int), (l.map g).foldl (fun a n => max a (f n)) (k * a) = k * (l.map h).foldl (fun a n => max a (f n)) a := by
    intro l
    induction l with
    | nil => exact fun a => rfl
    | cons x l ih =>
      intro a
      simp only [List.map_cons, List.foldl_cons]
      rw [e, mx]
      exact ih _
  have z := key pts 0
  rw [Int.mul_zero] at z
  exact z
theorem zmul {x k : Int} (hk : 1 ≤ k) : (x * k = 0) = (x = 0) := by
  apply propext
  exact ⟨fun h => by rcases Int.mul_eq_zero.mp h with h' | h' <;> omega, fun h => by rw [h, Int.zero_mul]⟩
theorem nd_wd {k : Int} (pt : Pt) : (ndOf k false pt).wd = k * (ndOf 1 false pt).wd := by
  cases pt <;> simp only [ndOf, Nd.wd, Bool.false_eq_true, if_false, Int.mul_one, Int.mul_zero] <;> first | exact Int.mul_comm _ _ | rfl
theorem nd_lh {k : Int} (pt : Pt) : (ndOf k false pt).lh = k * (ndOf 1 false pt).lh := by
  cases pt <;> simp only [ndOf, Nd.lh, Bool.false_eq_true, if_false, Int.mul_one, Int.mul_zero] <;> first | exact Int.mul_comm _ _ | (rw [Int.mul_sub, Int.mul_comm k, Int.mul_comm k]) | rfl
theorem nd_ld {k : Int} (pt : Pt) : (ndOf k false pt).ld = k * (ndOf 1 false pt).ld := by
  cases pt <;> simp only [ndOf, Nd.ld, Bool.false_eq_true, if_false, Int.mul_one, Int.mul_zero] <;> first | (rw [Int.mul_add, Int.mul_comm k, Int.mul_comm k]) | rfl
theorem nd_st {k : Int} (hk : 1 ≤ k) (o : Nat) (pt : Pt) : stO o (ndOf k false pt) = k * stO o (ndOf 1 false pt) := by
  cases pt with
  | glue a b c d e =>
    simp only [ndOf, stO, Bool.false_eq_true, if_false, zmul hk, Int.mul_one]
    by_cases hb : b = 0
    · subst hb; simp
    · simp only [if_neg hb]
      split
      · exact Int.mul_comm _ _
      · rw [Int.mul_zero]
  | _ => simp [ndOf, stO]
theorem nd_sh {k : Int} (hk : 1 ≤ k) (o : Nat) (pt : Pt) : shO o (ndOf k false pt) = k * shO o (ndOf 1 false pt) := by
  cases pt with
  | glue a b c d e =>
    simp only [ndOf, shO, Bool.false_eq_true, if_false, zmul hk, Int.mul_one]
    by_cases hb : d = 0
    · subst hb; simp
    · simp only [if_neg hb]
      split
      · exact Int.mul_comm _ _
      · rw [Int.mul_zero]
  | _ => simp [ndOf, shO]
theorem nd_fl {k : Int} (hk : 1 ≤ k) (sg od : Int) (pt : Pt) : flexI sg od (ndOf k false pt) = k * flexI sg od (ndOf 1 false pt) := by
  cases pt with
  | glue a b c d e =>
    simp only [ndOf, flexI, Bool.false_eq_true, if_false, zmul hk, Int.mul_one]
    by_cases hb : b = 0 <;> by_cases hd : d = 0 <;> simp only [hb, hd, if_true, if_false, Int.zero_mul, Int.mul_zero] <;> split <;> (try split) <;> simp [Int.mul_comm, Int.neg_mul, Int.mul_neg]
  | _ => simp [ndOf, flexI]
theorem nd_mir_fl1 (od : Int) (pt : Pt) : flexI 1 od (ndOf 1 true pt) = -1 * flexI 2 od (ndOf 1 false pt) := by
  cases pt with
  | glue a b c d e =>
    simp only [ndOf, flexI, Bool.false_eq_true, if_false, if_true, Int.mul_one]
    grind
  | _ => simp [ndOf, flexI]
theorem nd_mir_fl2 (od : Int) (pt : Pt) : flexI 2 od (ndOf 1 true pt) = -1 * flexI 1 od (ndOf 1 false pt) := by
  cases pt with
  | glue a b c d e =>
    simp only [ndOf, flexI, Bool.false_eq_true, if_false, if_true, Int.mul_one]
    grind
  | _ => simp [ndOf, flexI]
theorem nd_mir_wd (pt : Pt) : (ndOf 1 true pt).wd = 1 * (ndOf 1 false pt).wd := by
  cases pt <;> simp [ndOf, Nd.wd]
theorem nd_mir_st (o : Nat) (pt : Pt) : stO o (ndOf 1 true pt) = 1 * shO o (ndOf 1 false pt) := by
  cases pt <;> simp [ndOf, stO, shO]
theorem nd_mir_sh (o : Nat) (pt : Pt) : shO o (ndOf 1 true pt) = 1 * stO o (ndOf 1 false pt) := by
  cases pt <;> simp [ndOf, stO, shO]
/-- what the glue moves before item i -/
def moveAt (sg od up dn : Int) (nds : List Nd) (i : Nat) : Int := roundI (up * sumF (flexI sg od) (nds.take i)) dn
theorem placesI_eq {sg od up dn : Int} {nds : List Nd} (hdn : 0 < dn) : placesI sg od up dn nds = (List.range (nds.length + 1)).map fun i => sumF Nd.wd (nds.take i) + moveAt sg od up dn nds i := by
  unfold placesI
  rw [List.range_succ_eq_map, List.map_cons, List.map_map]
  congr 1
  show (0 : Int) = sumF Nd.wd [] + roundI (up * sumF (flexI sg od) []) dn
  rw [show sumF Nd.wd [] = 0 from rfl, show sumF (flexI sg od) [] = 0 from rfl, Int.mul_zero, roundI_zero dn hdn]
  rfl
theorem placesI_at {sg od up dn : Int} {nds : List Nd} (hdn : 0 < dn) {i : Nat} {p : Int} (h : (placesI sg od up dn nds)[i]? = some p) : i ≤ nds.length ∧ p = sumF Nd.wd (nds.take i) + moveAt sg od up dn nds i := by
  rw [placesI_eq hdn, List.getElem?_map] at h
  cases q : (List.range (nds.length + 1))[i]? with
  | none => rw [q] at h; cases h
  | some j =>
    rw [q] at h
    obtain ⟨a, b⟩ := List.getElem?_eq_some_iff.mp q
    rw [List.getElem_range] at b
    subst b
    rw [List.length_range] at a
    exact ⟨by omega, (Option.some.inj h).symm⟩
theorem moveAt_bd {sg od up dn : Int} {nds : List Nd} (H : HpSide nds) (d1 : 0 < dn) (u1 : 0 ≤ up) (u2 : up < 10000) (i : Nat) : -50000000 < moveAt sg od up dn nds i ∧ moveAt sg od up dn nds i < 50000000 := by
  obtain ⟨f1, f2⟩ := H.fl sg od i
  unfold moveAt
  generalize sumF (flexI sg od) (nds.take i) = f at *
  have a : up * f ≤ up * 4000 := Int.mul_le_mul_of_nonneg_left (by omega) u1
  have b : up * (-4000) ≤ up * f := Int.mul_le_mul_of_nonneg_left (by omega) u1
  obtain ⟨r1, r2⟩ := roundI_half (up * f) dn d1
  generalize up * f = n at *
  generalize roundI n dn = r at *
  constructor
  · by_cases q : r < 0
    · have : dn * r ≤ 1 * r := Int.mul_le_mul_of_nonpos_right (by omega) (by omega)
      have : dn * (r + 1) ≤ dn * 0 := Int.mul_le_mul_of_nonneg_left (by omega) (by omega)
      by_cases q2 : r < -50000000 + 1
      · have z1 : dn * r ≤ dn * (-50000000) := Int.mul_le_mul_of_nonneg_left (by omega) (by omega)
        have z2 : dn * 50000000 ≥ 1 * 50000000 := Int.mul_le_mul_of_nonneg_right (by omega) (by omega)
        omega
      · omega
    · omega
  · by_cases q2 : 50000000 ≤ r
    · have z1 : dn * 50000000 ≤ dn * r := Int.mul_le_mul_of_nonneg_left q2 (by omega)
      omega
    · omega
theorem places_bd {sg od up dn : Int} {nds : List Nd} (H : HpSide nds) (d1 : 0 < dn) (u1 : 0 ≤ up) (u2 : up < 10000) : ∀ p ∈ placesI sg od up dn nds, -100000000 < p ∧ p < 100000000 := by
  intro p hp
  obtain ⟨i, hi⟩ := List.getElem?_of_mem hp
  obtain ⟨_, rfl⟩ := placesI_at d1 hi
  have := moveAt_bd (sg := sg) (od := od) H d1 u1 u2 i
  have := H.wi i
  omega
/-- the scaled box's places -/
theorem places_scale {sg od up dn up' dn' k : Int} {pts : List Pt} (hk : 1 ≤ k) (d1 : 0 < dn) (d2 : 0 < dn') (e : up' * dn = up * dn') (i : Nat) (p' p : Int) (h' : (placesI sg od up' dn' (pts.map (ndOf k false)))[i]? = some p') (h : (placesI sg od up dn (pts.map (ndOf 1 false)))[i]? = some p) :
    2 * (p' - k * p) ≤ k + 1 ∧ -(k + 1) ≤ 2 * (p' - k * p) := by
  obtain ⟨_, rfl⟩ := placesI_at d1 h
  obtain ⟨_, rfl⟩ := placesI_at d2 h'
  unfold moveAt
  rw [← List.map_take, ← List.map_take, sumF_map_scale nd_wd, sumF_map_scale (nd_fl hk sg od)]
  have z := roundI_scale (k := k) (n := up * sumF (flexI sg od) ((pts.take i).map (ndOf 1 false))) (n' := up' * (k * sumF (flexI sg od) ((pts.take i).map (ndOf 1 false)))) (b := dn) (b' := dn') (by omega) d1 d2 (by grind)
  generalize roundI (up * _) dn = r at *
  generalize roundI (up' * _) dn' = r' at *
  rw [Int.mul_add]
  omega
theorem sumF_map_two {f f' : Nd → Int} {g h : Pt → Nd} {k : Int} (e : ∀ pt, f (g pt) = k * f' (h pt)) (pts : List Pt) : sumF f (pts.map g) = k * sumF f' (pts.map h) := by
  induction pts with
  | nil => simp [sumF]
  | cons pt l ih => rw [List.map_cons, List.map_cons, sumF_cons, sumF_cons, ih, e, Int.mul_add]
def setN (nds : List Nd) (e : Int) : Int × Int × Int × Int × Int × Int := setG (sumF (stO 0) nds) (sumF (stO 1) nds) (sumF (stO 2) nds) (sumF (stO 3) nds) (sumF (shO 0) nds) (sumF (shO 1) nds) (sumF (shO 2) nds) (sumF (shO 3) nds) e
theorem setN_scale {k e sg od up dn r0 r1 sg' od' up' dn' r0' r1' : Int} {pts : List Pt} (hk : 1 ≤ k) (H : HpSide (pts.map (ndOf 1 false))) (h : (sg, od, up, dn, r0, r1) = setN (pts.map (ndOf 1 false)) e) (h' : (sg', od', up', dn', r0', r1') = setN (pts.map (ndOf k false)) (k * e)) :
    sg' = sg ∧ od' = od ∧ up' * dn = up * dn' ∧ r0' = r0 ∧ (r0 = 3 → r1' = k * r1) ∧ (r0 ≠ 3 → r1' = r1) := by
  unfold setN at h h'
  simp only [sumF_map_scale (nd_st hk _), sumF_map_scale (nd_sh hk _)] at h'
  exact setG_scale (by omega) (H.s 0).1 (H.s 1).1 (H.s 2).1 (H.s 3).1 (H.z 0).1 (H.z 1).1 (H.z 2).1 (H.z 3).1 h h'
theorem setN_fit {nds : List Nd} {e sg od up dn r0 r1 : Int} (H : HpSide nds) (he : -10000 < e ∧ e < 10000) (h : (sg, od, up, dn, r0, r1) = setN nds e) : (0 < dn ∧ dn < 2 ^ 20 ∧ 0 ≤ up ∧ up < 1000000 ∧ (sg = 1 → 0 < e) ∧ (sg = 2 → e < 0) ∧ (0 ≤ r0 ∧ r0 < 4)) ∧ 0 ≤ r1 ∧ r1 < 1000000 :=
  ⟨setG_fit (H.s 0) (H.s 1) (H.s 2) (H.s 3) (H.z 0) (H.z 1) (H.z 2) (H.z 3) he h, setG_r1 (H.z 0) (H.z 1) (H.z 2) (H.z 3) he h⟩
theorem setG_up {s0 s1 s2 s3 z0 z1 z2 z3 e sg od up dn r0 r1 : Int} (he : -10000 < e ∧ e < 10000) (h : (sg, od, up, dn, r0, r1) = setG s0 s1 s2 s3 z0 z1 z2 z3 e) : up < 10000 := by
  unfold setG at h
  split at h
  · cases h; omega
  split at h
  · split at h <;> cases h <;> omega
  split at h
  · split at h <;> cases h <;> omega
  split at h <;> cases h <;> omega
theorem setN_kern {nds : List Nd} {e j : Int} : setN (.kern j :: nds) e = setN nds e := by
  unfold setN
  simp only [sumF_cons, stO, shO, Int.zero_add]
theorem take_kern_fl {sg od j : Int} {nds : List Nd} (i : Nat) : sumF (flexI sg od) ((Nd.kern j :: nds).take (i + 1)) = sumF (flexI sg od) (nds.take i) := by
  rw [List.take_succ_cons, sumF_cons]
  simp [flexI]
theorem places_kern {sg od up dn j : Int} {nds : List Nd} (hdn : 0 < dn) : placesI sg od up dn (.kern j :: nds) = 0 :: (placesI sg od up dn nds).map (· + j) := by
  rw [placesI_eq (nds := nds) hdn]
  unfold placesI
  rw [List.map_map]
  congr 1
  rw [List.length_cons]
  apply List.map_congr_left
  intro i _
  show sumF Nd.wd ((Nd.kern j :: nds).take (i + 1)) + roundI (up * sumF (flexI sg od) ((Nd.kern j :: nds).take (i + 1))) dn = sumF Nd.wd (nds.take i) + roundI (up * sumF (flexI sg od) (nds.take i)) dn + j
  rw [take_kern_fl, List.take_succ_cons, sumF_cons]
  show j + _ + _ = _
  omega
theorem selSum_st (o : Nat) (pts : List Pt) : selSum true (o : Int) pts = sumF (stO o) (pts.map (ndOf 1 false)) := by
  induction pts with
  | nil => rfl
  | cons pt l ih =>
    rw [List.map_cons, sumF_cons, ← ih]
    unfold selSum
    cases pt with
    | glue a b c d e =>
      by_cases q : c = (o : Int)
      · rw [List.filterMap_cons_some (b := b) (by simp [ptSel, q]), List.sum_cons]
        simp only [ndOf, stO, Bool.false_eq_true, if_false, Int.mul_one]
        by_cases hb : b = 0
        · simp [hb]
        · simp [hb, q]
      · rw [List.filterMap_cons_none (by simp [ptSel, q])]
        simp only [ndOf, stO, Bool.false_eq_true, if_false, Int.mul_one]
        by_cases hb : b = 0
        · simp [hb]
        · simp [hb, q]
    | _ => rw [List.filterMap_cons_none (by simp [ptSel])]; simp [ndOf, stO]
theorem selSum_sh (o : Nat) (pts : List Pt) : selSum false (o : Int) pts = sumF (shO o) (pts.map (ndOf 1 false)) := by
  induction pts with
  | nil => rfl
  | cons pt l ih =>
    rw [List.map_cons, sumF_cons, ← ih]
    unfold selSum
    cases pt with
    | glue a b c d e =>
      by_cases q : e = (o : Int)
      · rw [List.filterMap_cons_some (b := d) (by simp [ptSel, q]), List.sum_cons]
        simp only [ndOf, shO, Bool.false_eq_true, if_false, Int.mul_one]
        by_cases hb : d = 0
        · simp [hb]
        · simp [hb, q]
      · rw [List.filterMap_cons_none (by simp [ptSel, q])]
        simp only [ndOf, shO, Bool.false_eq_true, if_false, Int.mul_one]
        by_cases hb : d = 0
        · simp [hb]
        · simp [hb, q]
    | _ => rw [List.filterMap_cons_none (by simp [ptSel])]; simp [ndOf, shO]
theorem topI_zero {b c d : Int} (h : topI b c d = 0) : b = 0 ∧ c = 0 ∧ d = 0 := by
  unfold topI at h
  split at h
  · omega
  split at h
  · omega
  split at h
  · omega
  · omega
theorem can_cond {pts : List Pt} {gap : Int} (h : CanP pts gap) : (0 < gap → topI (sumF (stO 1) (pts.map (ndOf 1 false))) (sumF (stO 2) (pts.map (ndOf 1 false))) (sumF (stO 3) (pts.map (ndOf 1 false))) = 0 → gap ≤ sumF (stO 0) (pts.map (ndOf 1 false))) ∧
    (gap < 0 → topI (sumF (shO 1) (pts.map (ndOf 1 false))) (sumF (shO 2) (pts.map (ndOf 1 false))) (sumF (shO 3) (pts.map (ndOf 1 false))) = 0 → -gap ≤ sumF (shO 0) (pts.map (ndOf 1 false))) := by
  constructor
  · intro hg ht
    obtain ⟨a, b, c⟩ := topI_zero ht
    rcases h with ⟨o, o1, o2, ho⟩ | ⟨h1, _⟩
    · rw [decide_eq_true hg] at ho
      rcases (show o = 1 ∨ o = 2 ∨ o = 3 by omega) with rfl | rfl | rfl
      · exact absurd ((selSum_st 1 pts).trans a) ho
      · exact absurd ((selSum_st 2 pts).trans b) ho
      · exact absurd ((selSum_st 3 pts).trans c) ho
    · rw [decide_eq_true hg] at h1
      exact Int.le_trans h1 (Int.le_of_eq (selSum_st 0 pts))
  · intro hg ht
    obtain ⟨a, b, c⟩ := topI_zero ht
    rcases h with ⟨o, o1, o2, ho⟩ | ⟨_, h1⟩
    · rw [decide_eq_false (by omega)] at ho
      rcases (show o = 1 ∨ o = 2 ∨ o = 3 by omega) with rfl | rfl | rfl
      · exact absurd ((selSum_sh 1 pts).trans a) ho
      · exact absurd ((selSum_sh 2 pts).trans b) ho
      · exact absurd ((selSum_sh 3 pts).trans c) ho
    · rw [decide_eq_false (by omega)] at h1
      exact Int.le_trans h1 (Int.le_of_eq (selSum_sh 0 pts))
theorem fl_st {od : Int} {o : Nat} (e : od = (o : Int)) (nds : List Nd) : sumF (flexI 1 od) nds = sumF (stO o) nds := by
  subst e
  have : flexI 1 (o : Int) = stO o := by
    funext nd
    cases nd <;> simp [flexI, stO]
  rw [this]
theorem sumF_neg (f g : Nd → Int) (e : ∀ nd, f nd = -g nd) (l : List Nd) : sumF f l = -sumF g l := by
  induction l with
  | nil => rfl
  | cons a l ih => rw [sumF_cons, sumF_cons, ih, e]; omega
theorem fl_sh {od : Int} {o : Nat} (e : od = (o : Int)) (nds : List Nd) : sumF (flexI 2 od) nds = -sumF (shO o) nds := by
  subst e
  refine sumF_neg _ _ (fun nd => ?_) nds
  cases nd with
  | glue => simp only [flexI, shO]; simp; split <;> simp
  | _ => simp [flexI, shO]
theorem fl_zero (od : Int) (nds : List Nd) : sumF (flexI 0 od) nds = 0 := by
  induction nds with
  | nil => rfl
  | cons a l ih =>
    rw [sumF_cons, ih]
    cases a <;> simp [flexI]
theorem pick4 {g : Nat → Int} {b c d : Int} (hb : g 1 = b) (hc : g 2 = c) (hd : g 3 = d) : ∃ o : Nat, topI b c d = (o : Int) ∧ [g 0, b, c, d].getD (topI b c d).toNat 0 = g o := by
  subst hb hc hd
  unfold topI
  split
  · exact ⟨3, rfl, rfl⟩
  split
  · exact ⟨2, rfl, rfl⟩
  split
  · exact ⟨1, rfl, rfl⟩
  · exact ⟨0, rfl, rfl⟩
/-- the mirrored box, against the box -/
theorem setN_mirror {e sg od up dn r0 r1 sg' od' up' dn' r0' r1' : Int} {pts : List Pt} (H : HpSide (pts.map (ndOf 1 false))) (hc : CanP pts e) (hd : 0 < dn) (h : (sg, od, up, dn, r0, r1) = setN (pts.map (ndOf 1 false)) e) (h' : (sg', od', up', dn', r0', r1') = setN (pts.map (ndOf 1 true)) (-e)) :
    (r0' = [0, 2, 1].getD r0.toNat 0 ∧ r0 ≤ 2 ∧ r1' = r1) ∧ (∀ i, moveAt sg' od' up' dn' (pts.map (ndOf 1 true)) i = -moveAt sg od up dn (pts.map (ndOf 1 false)) i) ∧ moveAt sg od up dn (pts.map (ndOf 1 false)) pts.length = e := by
  unfold setN at h h'
  simp only [sumF_map_two (nd_mir_st _), sumF_map_two (nd_mir_sh _), Int.one_mul] at h'
  obtain ⟨e1, e2, e3, e4, e5, e6, e7⟩ := setG_mirror (H.s 0).1 (H.s 1).1 (H.s 2).1 (H.s 3).1 (H.z 0).1 (H.z 1).1 (H.z 2).1 (H.z 3).1 (can_cond hc) h h'
  subst e1 e2 e3
  refine ⟨⟨e4, e5, e6⟩, fun i => ?_, ?_⟩
  · unfold moveAt
    rw [← roundI_neg _ _ hd, ← Int.mul_neg, ← List.map_take, ← List.map_take]
    congr 2
    rcases e7 with ⟨_, rfl, rfl⟩ | ⟨_, rfl, rfl, _⟩ | ⟨_, rfl, rfl, _⟩
    · rw [fl_zero, fl_zero]; rfl
    · rw [sumF_map_two (nd_mir_fl2 _)]; omega
    · rw [sumF_map_two (nd_mir_fl1 _)]; omega
  · unfold moveAt
    rw [List.take_of_length_le (by rw [List.length_map]; exact Nat.le_refl _)]
    rcases e7 with ⟨h0, rfl, rfl⟩ | ⟨h0, rfl, rfl, ho, hu, hn⟩ | ⟨h0, rfl, rfl, ho, hu, hn⟩
    · rw [fl_zero, Int.mul_zero, roundI_zero _ hd, h0]
    · obtain ⟨o, q1, q2⟩ := pick4 (g := fun o => sumF (stO o) (pts.map (ndOf 1 false))) rfl rfl rfl
      rw [q1] at ho
      rw [fl_st ho, hu]
      have : dn' = sumF (stO o) (pts.map (ndOf 1 false)) := hn.trans q2
      rw [← this]
      exact roundI_mul _ _ hd
    · obtain ⟨o, q1, q2⟩ := pick4 (g := fun o => sumF (shO o) (pts.map (ndOf 1 false))) rfl rfl rfl
      rw [q1] at ho
      rw [fl_sh ho, hu]
      have : dn' = sumF (shO o) (pts.map (ndOf 1 false)) := hn.trans q2
      rw [← this, Int.mul_neg, Int.neg_mul, Int.neg_neg]
      exact roundI_mul _ _ hd
theorem fl_sign {orders od : Int} {pt : Pt} (h : PtOk orders pt) : 0 ≤ flexI 1 od (ndOf 1 false pt) ∧ flexI 2 od (ndOf 1 false pt) ≤ 0 := by
  cases pt with
  | glue a b c d e =>
    obtain ⟨_, ⟨b1, _⟩, _, ⟨d1, _⟩, _⟩ := h
    simp only [ndOf, flexI, Bool.false_eq_true, if_false, Int.mul_one]
    constructor
    · split <;> (try split) <;> omega
    · split <;> (try split) <;> omega
  | _ => simp [ndOf, flexI]
theorem flex_other {sg od : Int} (h1 : sg ≠ 1) (h2 : sg ≠ 2) (l : List Nd) : sumF (flexI sg od) l = 0 := by
  induction l with
  | nil => rfl
  | cons a l ih =>
    rw [sumF_cons, ih]
    cases a <;> simp [flexI, h1, h2]
/-- no glue moves against the sense of the gap -/
theorem move_sense {orders gap sg od up dn : Int} {pts : List Pt} (hl : pts.length ≤ 11) (h : ∀ pt ∈ pts, PtOk orders pt) (hd : 0 < dn) (hu : 0 ≤ up) (h1 : sg = 1 → 0 < gap) (h2 : sg = 2 → gap < 0) (i : Nat) : ¬ moveAt sg od up dn (pts.map (ndOf 1 false)) i * gap < 0 := by
  unfold moveAt
  rw [← List.map_take]
  by_cases q1 : sg = 1
  · subst q1
    have hg := h1 rfl
    have z := (sumF_bd (f := flexI 1 od) (lo := 0) (hi := 100000000) (by omega) (by omega) (l := (pts.take i).map (ndOf 1 false)) (by
      intro nd hn
      obtain ⟨pt, hp, rfl⟩ := List.mem_map.mp hn
      refine ⟨(fl_sign (h pt (List.mem_of_mem_take hp))).1, ?_⟩
      cases pt with
      | glue a b c d e =>
        obtain ⟨_, ⟨b1, b2⟩, _, ⟨d1, _⟩, _⟩ := h _ (List.mem_of_mem_take hp)
        simp only [ndOf, flexI, Bool.false_eq_true, if_false, Int.mul_one]
        split <;> (try split) <;> omega
      | _ => simp [ndOf, flexI])).1
    rw [Int.zero_mul] at z
    have := Int.mul_nonneg (roundI_nonneg _ dn hd (Int.mul_nonneg hu z)) (Int.le_of_lt hg)
    omega
  by_cases q2 : sg = 2
  · subst q2
    have hg := h2 rfl
    have z := (sumF_bd (f := flexI 2 od) (lo := -100000000) (hi := 0) (by omega) (by omega) (l := (pts.take i).map (ndOf 1 false)) (by
      intro nd hn
      obtain ⟨pt, hp, rfl⟩ := List.mem_map.mp hn
      refine ⟨?_, (fl_sign (h pt (List.mem_of_mem_take hp))).2⟩
      cases pt with
      | glue a b c d e =>
        obtain ⟨_, ⟨b1, b2⟩, _, ⟨d1, d2⟩, _⟩ := h _ (List.mem_of_mem_take hp)
        simp only [ndOf, flexI, Bool.false_eq_true, if_false, Int.mul_one]
        split <;> (try split) <;> omega
      | _ => simp [ndOf, flexI])).2
    rw [Int.zero_mul] at z
    have a := roundI_nonpos _ dn hd (Int.mul_nonpos_of_nonneg_of_nonpos hu z)
    have := Int.mul_nonneg_of_nonpos_of_nonpos a (Int.le_of_lt hg)
    omega
  · rw [flex_other q1 q2, Int.mul_zero, roundI_zero dn hd, Int.zero_mul]
    omega
theorem setN_zero {nds : List Nd} : setN nds 0 = (0, 0, 0, 1, 0, 0) := by
  unfold setN setG
  rw [if_pos rfl]
theorem natural_at {nds : List Nd} {i : Nat} {p : Int} (h : (placesI 0 0 0 1 nds)[i]? = some p) : p = sumF Nd.wd (nds.take i) := by
  obtain ⟨_, e⟩ := placesI_at (by omega) h
  rw [e]
  unfold moveAt
  rw [Int.zero_mul, roundI_zero 1 (by omega), Int.add_zero]

theorem nodesM_in {w : World} {rest fv} {nds : List Nd} {h₀ h : Heap} {L : Addr} {all : Led} (hM : NodesM w rest fv nds) (N : News h₀ L h all) (hs : ∀ p ∈ rest, p ∈ all) : NodesIn w h fv nds := hM h fun p hp => (N p (hs p hp)).1
/-- the ledger bears the parts pts -/
def PartsM (tl : Led) (vs : List Value) (pts : List Pt) : Prop := ∀ h : Heap, (∀ p ∈ tl, h.get? p.1 = some p.2) → PartsIn h vs pts
theorem partsM_in {rest fv} {pts : List Pt} {h₀ h : Heap} {L : Addr} {all : Led} (hM : PartsM rest fv pts) (N : News h₀ L h all) (hs : ∀ p ∈ rest, p ∈ all) : PartsIn h fv pts := hM h fun p hp => (N p (hs p hp)).1
theorem led_in {rest : Led} {h₀ h : Heap} {L : Addr} {all : Led} (N : News h₀ L h all) (hs : ∀ p ∈ rest, p ∈ all) : ∀ p ∈ rest, h.get? p.1 = some p.2 := fun p hp => (N p (hs p hp)).1
theorem led_comm {h₀ h : Heap} {L : Addr} {tl news : Led} (N : News h₀ L h (tl ++ news)) : News h₀ L h (news ++ tl) := fun p hp => N p (by
  rcases List.mem_append.mp hp with hp | hp
  · exact List.mem_append_right _ hp
  · exact List.mem_append_left _ hp)
theorem led_back {h₀ h : Heap} {L : Addr} {a : Addr × Obj} {rest news : Led} (N : News h₀ L h ((a :: rest) ++ news)) : News h₀ L h (a :: (news ++ rest)) := fun p hp => N p (by
  rcases List.mem_cons.mp hp with rfl | hp
  · exact .head _
  rcases List.mem_append.mp hp with hp | hp
  · exact List.mem_append_right _ hp
  · exact List.mem_append_left _ (.tail _ hp))
theorem hp_fl {nds : List Nd} {sg od : Int} (H : HpSide nds) : ∀ i, -1000000 < sumF (flexI sg od) (nds.take i) ∧ sumF (flexI sg od) (nds.take i) < 1000000 := fun i => by
  have := H.fl sg od i
  omega
theorem hp_len {nds : List Nd} (H : HpSide nds) : nds.length ≤ 100 := Nat.le_trans H.len (by omega)
theorem hpack3_tell (w : World) (l : Addr) (vs : List Value) (nds : List Nd) (gap : Int) (t1 t2 : Tok) (news : Led) (H : HpSide nds) (hn : 0 < nds.length) (hgap : -10000 < gap ∧ gap < 10000) :
    Tell w 537 [.ref l, .int 1 t1, .int gap t2] news (fun h => h.IsList l vs.toArray ∧ NodesIn w h vs nds) 20 200 (fun r tl => ∃ R x rp sg od up dn r0 r1 t5 t6, r = .ref R ∧ (R, tupObj [.ref x, .ref rp]) ∈ tl ∧ (rp, tupObj [.int r0 t5, .int r1 t6]) ∈ tl ∧
      BoxM w tl x l (sumF Nd.wd nds + gap) (maxF Nd.lh nds) (maxF Nd.ld nds) sg od up dn ∧ (sg, od, up, dn, r0, r1) = setN nds gap) := by
  w_top off
  intro p loose mean mg mb dp un gd cn cs aa ccd cl outer A₀ base h₀ L m s Q E B F X N T hk hd hu hp hret
  exact Tell.use (hpack_any w l vs nds gap t1 t2 news _ (fun s X => hpack3_binds w l gap t1 t2 s X) (by rw [List.size_toArray, hp.2.1]; omega) H.ok hgap H.w H.h H.d ⟨H.s 0, H.s 1, H.s 2, H.s 3⟩ ⟨H.z 0, H.z 1, H.z 2, H.z 3⟩) B F X N T hk hd hu hp hret
theorem hpack1_tell (w : World) (l : Addr) (vs : List Value) (nds : List Nd) (news : Led) (H : HpSide nds) (hn : 0 < nds.length) :
    Tell w 537 [.ref l] news (fun h => h.IsList l vs.toArray ∧ NodesIn w h vs nds) 20 200 (fun r tl => ∃ R x rp sg od up dn r0 r1 t5 t6, r = .ref R ∧ (R, tupObj [.ref x, .ref rp]) ∈ tl ∧ (rp, tupObj [.int r0 t5, .int r1 t6]) ∈ tl ∧
      BoxM w tl x l (sumF Nd.wd nds + 0) (maxF Nd.lh nds) (maxF Nd.ld nds) sg od up dn ∧ (sg, od, up, dn, r0, r1) = setN nds 0) := by
  intro p loose mean mg mb dp un gd cn cs aa ccd cl outer A₀ base h₀ L m s Q E B F X N T hk hd hu hp hret
  obtain ⟨t1, t2, hb⟩ := hpack1_binds w l
  exact Tell.use (hpack_any w l vs nds 0 t1 t2 news _ hb (by rw [List.size_toArray, hp.2.1]; omega) H.ok ⟨by omega, by omega⟩ H.w H.h H.d ⟨H.s 0, H.s 1, H.s 2, H.s 3⟩ ⟨H.z 0, H.z 1, H.z 2, H.z 3⟩) B F X N T hk hd hu hp hret
theorem below_as {h₀ h₁ h : Heap} {L : Addr} {m : Str → Option Value} (_F : Fr h₀ L h m) (B : Below callerA h₁ [] h₁) (e : h₁ = h₀) : Below callerA h₀ [] h₀ := e ▸ B
theorem off_one {news : Led} {a : Addr} {oa : Obj} (O : ∀ q ∈ news, ∀ p ∈ [(a, oa)], @Ne Nat q.1 p.1) : ∀ q ∈ news, q.1 ≠ a := fun q hq => O q hq _ (.head _)
local macro_rules | `(tactic| k_all) => `(tactic| (refine' off_left ?zO ?zm; (case zO => assumption); (case zm => k_mem)))
local macro_rules | `(tactic| ktn_open) => `(tactic| ((case k1 => k_asm); (case k2 => k_asm); (case k3 => k_asm); (case k4 => k_asm); (case k5 => k_asm); (case k6 => first | exact rfl | assumption); (case k7 => first | exact Nat.lt_of_ble_eq_true rfl | decide); (case k8 => first | exact Nat.lt_of_ble_eq_true rfl | decide)))
local macro_rules | `(tactic| k_mem) => `(tactic| ((repeat (first | exact List.Mem.head _ | assumption | refine List.mem_cons_of_mem _ ?_ | (refine List.mem_append_left _ ?_; assumption) | refine List.mem_append_right _ ?_)); done))
local macro_rules | `(tactic| walk_at "call ref") => `(tactic| ((with_reducible show wpAny _ _ (call (Value.ref 544) _) _ _ _); k_dflt (refine' Tell.use (heap_tell _ _ _ _ _ ?kn) ?k1 ?k2 ?k3 ?k4 ?k5 ?k6 ?k7 ?k8 ?kp ?_; (case kp => exact ⟨stays_list (Fr.keep (by k_asm)) (by assumption), by assumption⟩); (case kn => assumption); ktn_open; refine pause_intro ?_)))
local macro_rules | `(tactic| walk_at "call ref") => `(tactic| ((with_reducible show wpAny _ _ (call (Value.ref 570) _) _ _ _); k_dflt (refine' Tell.use (nodes_tell _ _ _ _ _ _ _ 0 _ _ ?n1 ?n2 ?n3 ?n4 ?n5) ?k1 ?k2 ?k3 ?k4 ?k5 ?k6 ?k7 ?k8 ?kp ?_; (case kp => exact ⟨News.isList (by k_asm) (by k_mem), partsM_in (by assumption) (by k_asm) (fun p hp => by k_mem)⟩); (case n1 => omega); (case n2 => omega); (case n4 => assumption); (case n3 => assumption); (case n5 => omega); ktn_open; refine pause_intro ?_)))
local macro_rules | `(tactic| walk_at "call ref") => `(tactic| ((with_reducible show wpAny _ _ (call (Value.ref 537) _) _ _ _); k_dflt (refine' Tell.use (hpack1_tell _ _ _ _ _ ?n1 ?n2) ?k1 ?k2 ?k3 ?k4 ?k5 ?k6 ?k7 ?k8 ?kp ?_; (case kp => exact ⟨News.isList (by k_asm) (by k_mem), nodesM_in (by assumption) (by k_asm) (fun p hp => by k_mem)⟩); (case n1 => assumption); (case n2 => assumption); ktn_open; refine pause_intro ?_)))
local macro_rules | `(tactic| walk_at "call ref") => `(tactic| ((with_reducible show wpAny _ _ (call (Value.ref 537) _) _ _ _); k_dflt (refine' Tell.use (hpack3_tell _ _ _ _ _ _ _ _ ?n1 ?n2 ?n3) ?k1 ?k2 ?k3 ?k4 ?k5 ?k6 ?k7 ?k8 ?kp ?_; (case kp => exact ⟨News.isList (by k_asm) (by k_mem), nodesM_in (by assumption) (by k_asm) (fun p hp => by k_mem)⟩); (case n1 => assumption); (case n2 => assumption); (case n3 => exact ⟨by omega, by omega⟩); ktn_open; refine pause_intro ?_)))
local macro_rules | `(tactic| walk_at "call ref") => `(tactic| ((with_reducible show wpAny _ _ (call (Value.ref 580) _) _ _ _); k_dflt (refine' Tell.use (can_tell _ _ _ _ _ _ _ _ ?n1 ?n2 ?n3 ?n4 ?n5) ?k1 ?k2 ?k3 ?k4 ?k5 ?k6 ?k7 ?k8 ?kp ?_; (case kp => exact ⟨News.isList (by k_asm) (by k_mem), partsM_in (by assumption) (by k_asm) (fun p hp => by k_mem)⟩); (case n1 => omega); (case n2 => omega); (case n4 => assumption); (case n3 => assumption); (case n5 => omega); ktn_open; refine pause_intro ?_)))
local macro_rules | `(tactic| walk_at "call ref") => `(tactic| ((with_reducible show wpAny _ _ (call (Value.ref 508) _) _ _ _); k_dflt (refine' Tell.use (places_tell _ _ _ _ _ _ _ _ _ _ _ _ _ ?q1 ?q2 ?q3 ?q4 ?q5 ?q6) ?k1 ?k2 ?k3 ?k4 ?k5 ?k6 ?k7 ?k8 ?kp ?_; (case kp => exact ⟨BoxM.into (by assumption) (led_in (by k_asm) (fun p hp => by k_mem)), News.isList (by k_asm) (by k_mem), nodesM_in (by assumption) (by k_asm) (fun p hp => by k_mem)⟩); (case q1 => omega); (case q2 => omega); (case q3 => omega); (case q4 => omega); (case q5 => exact hp_fl (by assumption)); (case q6 => exact hp_len (by assumption)); ktn_open; refine pause_intro ?_)))
local macro_rules | `(tactic| walk_at "call ref") => `(tactic| ((with_reducible show wpAny _ _ (call (Value.ref 551) _) _ _ _); k_dflt (refine' TellH.useI (take_tell _ _ _ _ _ _ ?ka ?kb ?kc ?kd) ?k1 ?k2 ?k3 ?k4 ?k5 ?k6 ?k7 ?k8 ?kU ?_; (case k4 => k_asm); (case kU => k_updF); (case kd => assumption); (case ka => omega); (case kb => omega); (case kc => omega); (case k1 => k_asm); (case k2 => k_asm); (case k3 => k_asm); (case k5 => k_asm); (case k6 => first | exact rfl | assumption); (case k7 => first | exact Nat.lt_of_ble_eq_true rfl | decide); (case k8 => first | exact Nat.lt_of_ble_eq_true rfl | decide); refine pause_intro ?_)))
local macro_rules | `(tactic| walk_at "pyIter ref") => `(tactic| (refine pause_intro ?_))
local macro_rules | `(tactic| walk_at "CompSrc Call cons ref") => `(tactic| (refine pause_intro ?_))
local macro_rules | `(tactic| walk_at "CompSrc BinOp cons ref") => `(tactic| (refine pause_intro ?_))
local macro_rules | `(tactic| walk_at "CompSrc UnaryOp nil ref") => `(tactic| (refine pause_intro ?_))
local macro_rules | `(tactic| walk_at "CompSrcT Compare Name cons ref") => `(tactic| (refine pause_intro ?_))
local macro_rules | `(tactic| walk_at "call ref") => `(tactic| ((with_reducible show wpAny _ _ (call (Value.ref 575) _) _ _ _); refine pause_intro ?_))
local macro_rules | `(tactic| walk_at "exec Assign cons ListComp") => `(tactic| ((with_reducible show wpAny _ _ (exec (Stmt.Assign [Expr.Name _ _] (Expr.ListComp _ [⟨_, Expr.Call _ [_] _ _, [], 0⟩] _ _) _) _) _ _ _); k_dflt (refine LCg.Assign_ListComp_U (by k_asm) (by rfl) (by with_unfolding_all rfl) (by with_unfolding_all rfl) (by decide) (by rfl) (by decide) (by rfl) (by rfl) (by rfl) ?_)))
local macro_rules | `(tactic| walk_at "exec Assign cons ListComp") => `(tactic| ((with_reducible show wpAny _ _ (exec (Stmt.Assign [Expr.Name _ _] (Expr.ListComp _ [⟨_, Expr.Call _ [_, _] _ _, _, 0⟩] _ _) _) _) _ _ _); k_dflt (refine Assign_ListComp_Z (by k_asm) (by rfl) (by with_unfolding_all rfl) (by with_unfolding_all rfl) (by decide) (by rfl) (by decide) (by rfl) (by rfl) (by rfl) ?_)))
local macro_rules | `(tactic| walk_at "eval ListComp") => `(tactic| ((with_reducible show wpAny _ _ (eval (Expr.ListComp _ [⟨_, Expr.Name _ _, [], 0⟩] _ _) _) _ _ _); k_dflt (refine LCg.ListComp_U (by k_asm) (by with_unfolding_all rfl) (by decide) (by rfl) (by decide) (by rfl) ?_)))

theorem ord_ok {v : Int} (h1 : 0 ≤ v) (h2 : v < 2) : 0 < [(1 : Int), 4].getD v.toNat 0 ∧ [(1 : Int), 4].getD v.toNat 0 ≤ 4 := by
  rcases (show v = 0 ∨ v = 1 by omega) with rfl | rfl
  · exact ⟨by decide, by decide⟩
  · exact ⟨by decide, by decide⟩
theorem range_ok {b : Int} (h1 : 2 ≤ b) (h2 : b < 10) : ∃ n : Nat, b = n ∧ 2 ≤ n ∧ n ≤ 9 ∧ Builtin.Range.small 0 b 1 = true ∧ Builtin.Range.rangeSize 0 b 1 = (n : Int) := by
  rcases (show b = 2 ∨ b = 3 ∨ b = 4 ∨ b = 5 ∨ b = 6 ∨ b = 7 ∨ b = 8 ∨ b = 9 by omega) with rfl | rfl | rfl | rfl | rfl | rfl | rfl | rfl
  · exact ⟨2, rfl, by decide, by decide, by decide, by decide⟩
  · exact ⟨3, rfl, by decide, by decide, by decide, by decide⟩
  · exact ⟨4, rfl, by decide, by decide, by decide, by decide⟩
  · exact ⟨5, rfl, by decide, by decide, by decide, by decide⟩
  · exact ⟨6, rfl, by decide, by decide, by decide, by decide⟩
  · exact ⟨7, rfl, by decide, by decide, by decide, by decide⟩
  · exact ⟨8, rfl, by decide, by decide, by decide, by decide⟩
  · exact ⟨9, rfl, by decide, by decide, by decide, by decide⟩
theorem PartsM.snoc {tl : Led} {vs tvs : List Value} {pts : List Pt} {pt : Pt} {T : Addr} (hM : PartsM tl vs pts) (hV : PtV tvs pt) : PartsM ((T, tupObj tvs) :: tl) (vs ++ [.ref T]) (pts ++ [pt]) := by
  intro h hh
  obtain ⟨a, b⟩ := hM h fun p hp => hh p (.tail _ hp)
  refine ⟨by simp only [List.length_append, List.length_cons, List.length_nil, a], fun i v e => ?_⟩
  rcases Nat.lt_or_ge i vs.length with q | q
  · rw [List.getElem?_append_left q] at e
    obtain ⟨T', tvs', pt', e1, e2, e3, e4⟩ := b i v e
    exact ⟨T', tvs', pt', e1, e2, e3, by rw [List.getElem?_append_left (by rw [← a]; exact q)]; exact e4⟩
  · rw [List.getElem?_append_right q] at e
    match hi : i - vs.length with
    | 0 =>
      rw [hi] at e
      have e' : Value.ref T = v := Option.some.inj e
      refine ⟨T, tvs, pt, e'.symm, hh _ (.head _), hV, ?_⟩
      rw [List.getElem?_append_right (by rw [← a]; exact q), ← a, hi]
      rfl
    | j + 1 =>
      rw [hi] at e
      cases e
section
variable {prog : Program} {w : World} {A : Around} {s : Shared} {h₀ : Heap} {L : Addr} {m : Str → Option Value} {env : Env}
/-- the comprehension that draws the parts -/
theorem parts_rest {elt : Expr} {x : Str} {scope : Scope} {cl : List (Str × Addr)} {P : Nat → Value → Prop} {Fin : List Value → Led → Prop} {n n0 : Nat} {orders : Int} {H : Addr} {oH : Obj} {news : Led} {g : Obj → Led} (U : UpdF H oH news g) (hO : HeapOk n0 oH)
    (turn : ∀ i ys o tl v I oI C oC D m₂ h tk (E' : Value → Shared → Prop), i < n → HeapOk (n0 + 6 * i) o → P i v → LCg.NsObj oC m₂ → m₂ x = some v → Fr h₀ L h m → News h₀ L h ((I, oI) :: (C, oC) :: (D, LCg.lst ys) :: (g o ++ tl)) → LCg.Off3 I C D (g o ++ tl) → ((@Ne Nat I C) ∧ (@Ne Nat I D) ∧ (@Ne Nat C D)) → (∀ p ∈ tl, p.1 ≠ H) →
      UpdF H o ((I, oI) :: (C, oC) :: (D, LCg.lst ys) :: (g o ++ tl)) (fun o' => (I, oI) :: (C, oC) :: (D, LCg.lst ys) :: (g o' ++ tl)) →
      wpAny (model prog w) A (eval elt (compEnvC scope cl C env)) (fun y s' => ∃ T vs pt o' h' tk', y = .ref T ∧ s' = { s with heap := h', toks := tk' } ∧ Fr h₀ L h' m ∧ News h₀ L h' ((T, tupObj vs) :: (I, oI) :: (C, oC) :: (D, LCg.lst ys) :: (g o' ++ tl)) ∧
        (∀ q ∈ (I, oI) :: (C, oC) :: (D, LCg.lst ys) :: (g o ++ tl), q.1 ≠ T) ∧ HeapOk (n0 + 6 * (i + 1)) o' ∧ PtV vs pt ∧ PtOk orders pt) E' { s with heap := h, toks := tk })
    (fin : ∀ ys o tl pts, pts.length = n → PartsM tl ys pts → (∀ pt ∈ pts, PtOk orders pt) → HeapOk (n0 + 6 * n) o → (∀ q ∈ news, ∀ p ∈ tl, @Ne Nat q.1 p.1) → Fin ys (g o ++ tl)) :
    LCg.CompRest prog w A h₀ L m env elt x scope cl s (fun _ => True) P Fin n 0 [] news := by
  obtain ⟨pre, post, rfl, eg, oa, ob⟩ := U.split
  have fst : ∀ (o : Obj) (q : Addr × Obj), q ∈ pre ++ (H, oH) :: post → ∃ q' ∈ g o, q'.1 = q.1 := fun o q hq => by
    rw [eg]
    rcases List.mem_append.mp hq with hq | hq
    · exact ⟨q, List.mem_append_left _ hq, rfl⟩
    rcases List.mem_cons.mp hq with rfl | hq
    · exact ⟨_, List.mem_append_right _ (.head _), rfl⟩
    · exact ⟨q, List.mem_append_right _ (.tail _ hq), rfl⟩
  have fst2 : ∀ (o o' : Obj) (q : Addr × Obj), q ∈ g o → ∃ q' ∈ g o', q'.1 = q.1 := fun o o' q hq => by
    rw [eg] at hq
    rw [eg]
    rcases List.mem_append.mp hq with hq | hq
    · exact ⟨q, List.mem_append_left _ hq, rfl⟩
    rcases List.mem_cons.mp hq with rfl | hq
    · exact ⟨_, List.mem_append_right _ (.head _), rfl⟩
    · exact ⟨q, List.mem_append_right _ (.tail _ hq), rfl⟩
  have hH : ∀ o, (H, o) ∈ g o := fun o => by
    rw [eg]
    exact List.mem_append_right _ (.head _)
  refine rest_inv (fun i ys nw => ∃ o tl pts, nw = g o ++ tl ∧ pts.length = i ∧ PartsM tl ys pts ∧ (∀ pt ∈ pts, PtOk orders pt) ∧ HeapOk (n0 + 6 * i) o ∧ ∀ q ∈ pre ++ (H, oH) :: post, ∀ p ∈ tl, @Ne Nat q.1 p.1) ?_ ?_ n 0 [] _ (Nat.zero_add n) ?_
  · rintro i ys news v I oI C oC D m₂ h tk E' hi ⟨o, tl, pts, rfl, hl, hM, hok, hO', hoff⟩ hP hC hx F N off ne
    have hT : ∀ p ∈ tl, p.1 ≠ H := fun p hp e => hoff (H, oH) (List.mem_append_right _ (.head _)) p hp e.symm
    have om := off.mem
    have hHo := om (H, o) (List.mem_append_left _ (hH o))
    have U' : UpdF H o ((I, oI) :: (C, oC) :: (D, LCg.lst ys) :: (g o ++ tl)) (fun o' => (I, oI) :: (C, oC) :: (D, LCg.lst ys) :: (g o' ++ tl)) := by
      have z : ∀ (pr : Led), (∀ p ∈ pr, @Ne Nat p.1 H) → UpdF H o (pr ++ ((H, o) :: (post ++ tl))) (fun o' => pr ++ ((H, o') :: (post ++ tl))) := by
        intro pr
        induction pr with
        | nil => exact fun _ => .head (fun p hp => by
            rcases List.mem_append.mp hp with hp | hp
            · exact ob p hp
            · exact hT p hp)
        | cons a pr ih => exact fun hpr => .tail (hpr a (.head _)) (ih fun p hp => hpr p (.tail _ hp))
      have z2 := z ((I, oI) :: (C, oC) :: (D, LCg.lst ys) :: pre) (fun p hp => by
        rcases List.mem_cons.mp hp with rfl | hp
        · exact Ne.symm hHo.1
        rcases List.mem_cons.mp hp with rfl | hp
        · exact Ne.symm hHo.2.1
        rcases List.mem_cons.mp hp with rfl | hp
        · exact Ne.symm hHo.2.2
        · exact oa p hp)
      have e1 : ∀ o', (I, oI) :: (C, oC) :: (D, LCg.lst ys) :: (g o' ++ tl) = ((I, oI) :: (C, oC) :: (D, LCg.lst ys) :: pre) ++ ((H, o') :: (post ++ tl)) := fun o' => by
        rw [eg]
        simp only [List.cons_append, List.append_assoc]
      rw [e1 o, show (fun o' => (I, oI) :: (C, oC) :: (D, LCg.lst ys) :: (g o' ++ tl)) = fun o' => ((I, oI) :: (C, oC) :: (D, LCg.lst ys) :: pre) ++ ((H, o') :: (post ++ tl)) from funext e1]
      exact z2
    refine wpAny_mono (turn i ys o tl v I oI C oC D m₂ h tk E' hi hO' hP hC hx F N off ne hT U') ?_ fun _ _ e => e
    rintro y s' ⟨T, vs, pt, o', h', tk', rfl, rfl, F', N', offT, hO2, hV, hpt⟩
    refine LCg.CompEnd.intro F' N' (g o' ++ ((T, tupObj vs) :: tl)) (fun p hp => ?_) (LCg.Off3.of fun p hp => ?_) True.intro ⟨o', (T, tupObj vs) :: tl, pts ++ [pt], rfl, ?_, hM.snoc hV, ?_, hO2, ?_⟩
    · rcases List.mem_cons.mp hp with rfl | hp
      · exact .tail _ (.head _)
      rcases List.mem_cons.mp hp with rfl | hp
      · exact .tail _ (.tail _ (.head _))
      rcases List.mem_cons.mp hp with rfl | hp
      · exact .tail _ (.tail _ (.tail _ (.head _)))
      rcases List.mem_append.mp hp with hp | hp
      · exact .tail _ (.tail _ (.tail _ (.tail _ (List.mem_append_left _ hp))))
      rcases List.mem_cons.mp hp with rfl | hp
      · exact .head _
      · exact .tail _ (.tail _ (.tail _ (.tail _ (List.mem_append_right _ hp))))
    · rcases List.mem_append.mp hp with hp | hp
      · obtain ⟨q', hq', e⟩ := fst2 o' o p hp
        rw [← e]
        exact om q' (List.mem_append_left _ hq')
      rcases List.mem_cons.mp hp with rfl | hp
      · exact ⟨Ne.symm (offT _ (.head _)), Ne.symm (offT _ (.tail _ (.head _))), Ne.symm (offT _ (.tail _ (.tail _ (.head _))))⟩
      · exact om p (List.mem_append_right _ hp)
    · rw [List.length_append, hl]; rfl
    · intro q hq
      rcases List.mem_append.mp hq with hq | hq
      · exact hok q hq
      · rw [List.mem_singleton.mp hq]; exact hpt
    · intro q hq p hp
      rcases List.mem_cons.mp hp with rfl | hp
      · obtain ⟨q', hq', e⟩ := fst o q hq
        rw [← e]
        exact offT q' (.tail _ (.tail _ (.tail _ (List.mem_append_left _ hq'))))
      · exact hoff q hq p hp
  · rintro ys news ⟨o, tl, pts, rfl, hl, hM, hok, hO', hoff⟩
    exact fin ys o tl pts hl hM hok hO' hoff
  · refine ⟨oH, [], [], ?_, rfl, ?_, ?_, hO, ?_⟩
    · rw [eg, List.append_nil]
    · exact fun h _ => ⟨rfl, fun i v e => nomatch e⟩
    · exact fun _ h => nomatch h
    · exact fun _ _ _ h => nomatch h
end
local macro_rules | `(tactic| walk_at "call ref") => `(tactic| ((with_reducible show wpAny _ _ (call (Value.ref 565) _) _ _ _); k_dflt (refine' TellH.use (part_tell _ _ _ _ _ _ ?ka ?kb ?kc ?kd) ?k1 ?k2 ?k3 ?k4 ?k5 ?k6 ?k7 ?k8 ?kU ?_; (case k4 => k_asm); (case kU => first | assumption | k_updF); (case kd => assumption); (case ka => assumption); (case kb => omega); (case kc => omega); (case k1 => k_asm); (case k2 => k_asm); (case k3 => k_asm); (case k5 => k_asm); (case k6 => first | exact rfl | assumption); (case k7 => first | exact Nat.lt_of_ble_eq_true rfl | decide); (case k8 => first | exact Nat.lt_of_ble_eq_true rfl | decide); refine pause_intro ?_)))
theorem led_put {h₀ h : Heap} {L : Addr} {p : Addr × Obj} {news : Led} (N : News h₀ L h news) (hp : p ∈ news) : News h₀ L h (p :: news) := fun q hq => by
  rcases List.mem_cons.mp hq with rfl | hq
  · exact N _ hp
  · exact N _ hq
theorem gap_ok {a b c d v : Int} (ha : 0 ≤ a ∧ a < 30) (hb : 0 ≤ b ∧ b < 30) (hc : 0 ≤ c ∧ c < 7) (hd : 0 ≤ d ∧ d < 600) : ∃ G, [a, -b, 3 - c, 300 - d].getD v.toNat 0 = G ∧ -301 < G ∧ G < 301 := by
  refine ⟨_, rfl, ?_⟩
  match v.toNat with
  | 0 => show -301 < a ∧ a < 301; omega
  | 1 => show -301 < -b ∧ -b < 301; omega
  | 2 => show -301 < 3 - c ∧ 3 - c < 301; omega
  | 3 => show -301 < 300 - d ∧ 300 - d < 301; omega
  | n + 4 => simp
theorem hp_wd {nds : List Nd} (H : HpSide nds) : -100000 < sumF Nd.wd nds ∧ sumF Nd.wd nds < 100000 := by
  have := H.wi nds.length
  rwa [List.take_length] at this
theorem kg_bd {k gap : Int} (hk1 : 1 ≤ k) (hk2 : k < 33) (g1 : -301 < gap) (g2 : gap < 301) : -10000 < k * gap ∧ k * gap < 10000 := by
  have z1 := Int.mul_le_mul_of_nonneg_left (show gap ≤ 300 by omega) (show 0 ≤ k by omega)
  have z2 := Int.mul_le_mul_of_nonneg_left (show -300 ≤ gap by omega) (show 0 ≤ k by omega)
  omega
theorem scaled_law (w : World) (xf itf rf xo ito ro : Addr) (sg od up dn r0 r1 sg' od' up' dn' r0' r1' k gap orders : Int) (vf vo : List Value) (pts : List Pt) (t t1 t2 t3 t4 : Tok) (news : Led) (hk1 : 1 ≤ k) (hk2 : k < 33) (g1 : -301 < gap) (g2 : gap < 301)
    (ho : orders ≤ 4) (hl : pts.length ≤ 11) (hok : ∀ pt ∈ pts, PtOk orders pt) (e : (sg, od, up, dn, r0, r1) = setN (pts.map (ndOf 1 false)) gap) (e' : (sg', od', up', dn', r0', r1') = setN (pts.map (ndOf k false)) (k * gap)) :
    Tell w 575 [.ref xf, .ref rf, .ref xo, .ref ro, .int k t] news (fun h => BoxIn w h xf itf (sumF Nd.wd (pts.map (ndOf 1 false)) + gap) (maxF Nd.lh (pts.map (ndOf 1 false))) (maxF Nd.ld (pts.map (ndOf 1 false))) sg od up dn ∧ h.IsList itf vf.toArray ∧ NodesIn w h vf (pts.map (ndOf 1 false)) ∧ h.get? rf = some (tupObj [.int r0 t1, .int r1 t2]) ∧
      BoxIn w h xo ito (sumF Nd.wd (pts.map (ndOf k false)) + k * gap) (maxF Nd.lh (pts.map (ndOf k false))) (maxF Nd.ld (pts.map (ndOf k false))) sg' od' up' dn' ∧ h.IsList ito vo.toArray ∧ NodesIn w h vo (pts.map (ndOf k false)) ∧ h.get? ro = some (tupObj [.int r0' t3, .int r1' t4])) 20 200 (fun r tl => tl = [] ∧ r = .bool true) := by
  have HA := hpSide_map (k := 1) (mir := false) ho (by omega) (by omega) hl hok
  have HB := hpSide_map (k := k) (mir := false) ho hk1 (by omega) hl hok
  have kg := kg_bd hk1 hk2 g1 g2
  obtain ⟨rfl, rfl, e4, e5, e6, e7⟩ := setN_scale hk1 HA e e'
  obtain ⟨⟨d1, d2, d3, d4, _, _, w5⟩, w4⟩ := setN_fit HA (by omega) e
  obtain ⟨⟨o1, o2, o3, o4, _, _, _⟩, _⟩ := setN_fit HB kg e'
  have u1 := setG_up (by omega) e
  have u2 := setG_up kg e'
  have wA := hp_wd HA
  exact scaled_tell w xf itf rf xo ito ro _ _ _ _ _ up dn _ _ _ up' dn' r0 r1 r0' r1' k vf vo _ _ t t1 t2 t3 t4 news hk1 (by omega)
    (by rw [sumF_map_scale nd_wd, Int.mul_add]) (maxF_map_scale (by omega) nd_lh pts) (maxF_map_scale (by omega) nd_ld pts) e4 e5 e6 e7 (by omega) ⟨by have := HA.h; omega, HA.h.2⟩ ⟨by have := HA.d; omega, HA.d.2⟩ w4 w5
    d1 d2 d3 d4 (hp_fl HA) (hp_len HA) o1 o2 o3 o4 (hp_fl HB) (hp_len HB) (by rw [List.length_map, List.length_map]) (places_bd HA d1 d3 u1) (places_bd HB o1 o3 u2) (fun i p' p h' h => places_scale hk1 d1 o1 e4 i p' p h' h)
theorem off1_mem {D : Addr} : ∀ {l : Led}, LCg.Off1 D l → ∀ p ∈ l, p.1 ≠ D
  | [], _, _, h => nomatch h
  | _ :: _, x, p, h => by
    rcases List.mem_cons.mp h with rfl | h
    · exact x.1
    · exact off1_mem x.2 p h
section
variable {prog : Program} {w : World} {A : Around} {E : Value → Shared → Prop} {s : Shared} {h₀ : Heap} {L : Addr}
/-- an item of a list of ints just made, by an index in bounds -/
theorem idx_lit {value slice : Expr} {l : Addr} {vs : List Value} {ns : List Int} {n : Nat} {k : Int} {u : Tok} {news : Led} {Q : Value → Shared → Prop} (N : News h₀ L s.heap ((l, W.listOf (List.toArray vs) n) :: news)) (hi : IntsAre vs ns)
    (h0 : 0 ≤ k) (h1 : k < ns.length) (hfit : k < 2 ^ 63) (h : ∀ t, Q (.int (ns.getD k.toNat 0) t) s)
    (hs : subscripted slice false (.ref l) (.int k u) = operate [.ref l, .int k u] (getItem (.ref l) (.int k u))) :
    wpAny (model prog w) A (subscriptTail value slice (.ref l) (.int k u)) Q E s := item_list_intsR (News.isList N (.head _)) hi h0 h1 hfit h hs
end
local macro_rules | `(tactic| walk_at "subscriptTail") => `(tactic| ((with_reducible show wpAny _ _ (subscriptTail _ _ (Value.ref _) (Value.int _ _)) _ _ _); k_dflt (refine' idx_lit ?k1 ?k2 ?k3 ?k4 ?k5 ?_ ?k6; (case k1 => assumption); (case k2 => l_ints); (case k3 => assumption); (case k4 => (simp only [List.length_cons, List.length_nil]; omega)); (case k5 => omega); (case k6 => with_unfolding_all rfl)); intro _))
section
variable {h₀ h : Heap} {L : Addr} {all : Led}
theorem led_cons {p : Addr × Obj} {b : Led} (N : News h₀ L h all) (hm : p ∈ all) (M : News h₀ L h b) : News h₀ L h (p :: b) := fun q hq => by
  rcases List.mem_cons.mp hq with rfl | hq
  · exact N _ hm
  · exact M _ hq
theorem led_cell {o : Obj} {a : Addr} {v : Data} {b : Led} (_d : o.data = v) (N : News h₀ L h all) (hm : (a, o) ∈ all) (M : News h₀ L h b) : News h₀ L h ((a, o) :: b) := led_cons N hm M
theorem led_sub {b : Led} (N : News h₀ L h all) (hs : ∀ p ∈ b, p ∈ all) : News h₀ L h b := fun q hq => N _ (hs q hq)
theorem led_app {a b : Led} (M : News h₀ L h a) (K : News h₀ L h b) : News h₀ L h (a ++ b) := fun q hq => by
  rcases List.mem_append.mp hq with hq | hq
  · exact M _ hq
  · exact K _ hq
end
theorem led_from {h₀ h : Heap} {L : Addr} {all b c : Led} {p : Addr × Obj} (m : p ∈ c) (N : News h₀ L h all) (hs : ∀ p ∈ c, p ∈ all) (M : News h₀ L h b) : News h₀ L h (p :: b) := led_cons N (hs p m) M
theorem tup_led {h₀ h : Heap} {L q : Addr} {vs : List Value} {news : Led} (N : News h₀ L h news) (hm : (q, tupObj vs) ∈ news) : IsTup h q vs.toArray := tup_is (N _ hm).1
local macro_rules | `(tactic| walk_at "subscriptTail Call") => `(tactic| ((with_reducible show wpAny _ _ (subscriptTail _ _ (Value.ref _) (Value.int _ _)) _ _ _); k_dflt (refine item_tupleT (tup_led (by k_asm) (by k_mem)) (by decide) (by decide) (by rfl) (by rfl) ?_)))
local macro_rules | `(tactic| walk_at "subscriptTail Name Constant ref int") => `(tactic| ((with_reducible show wpAny _ _ (subscriptTail _ _ (Value.ref _) (Value.int _ _)) _ _ _); k_dflt (refine item_tupleT (tup_led (by k_asm) (by k_mem)) (by decide) (by decide) (by rfl) (by rfl) ?_)))
local macro_rules | `(tactic| walk_at "binaryOp Add ref ref") => `(tactic| (refine pause_intro ?_))
theorem NodesM.kernCons {w : World} {rest : Led} {fv : List Value} {nds : List Nd} {x dx : Addr} {u1 u2 v1 v2 : Tok} {j : Int} (hM : NodesM w rest fv nds) : NodesM w ((x, instObj 368 dx) :: (dx, dictOf [ent w "width" u1 (.int j v1), ent w "sort" u2 (.int 1 v2)] 2) :: rest) (.ref x :: fv) (.kern j :: nds) := by
  intro h hh
  obtain ⟨a, b⟩ := hM h fun p hp => hh p (.tail _ (.tail _ hp))
  refine ⟨by simp only [List.length_cons, a], fun i v e => ?_⟩
  match i with
  | 0 => exact ⟨_, rfl, (Option.some.inj e) ▸ NodeIn.kern (hh _ (.head _)) (hh _ (.tail _ (.head _)))⟩
  | i + 1 =>
    obtain ⟨nd, e1, e2⟩ := b i v e
    exact ⟨nd, e1, e2⟩
theorem kern_led {w : World} {h₀ h : Heap} {L DS DE l x dx : Addr} {oE ol : Obj} {fv : List Value} {nds : List Nd} {u1 u2 v1 v2 : Tok} {j : Int} {restE rest0 : Led} (N : News h₀ L h ((DS, W.listOf (List.toArray (.ref x :: fv)) 0) :: (DE, oE) :: (l, ol) :: (x, instObj 368 dx) :: (dx, dictOf [ent w "width" u1 (.int j v1), ent w "sort" u2 (.int 1 v2)] 2) :: rest0))
    (hM : NodesM w restE fv nds) (hs : ∀ p ∈ restE, p ∈ rest0) : ∃ tlS fvS, News h₀ L h ((DS, W.listOf (List.toArray fvS) 0) :: (rest0 ++ tlS)) ∧ NodesM w tlS fvS (.kern j :: nds) := by
  refine ⟨_, _, fun p hp => ?_, hM.kernCons (x := x) (dx := dx) (u1 := u1) (u2 := u2) (v1 := v1) (v2 := v2)⟩
  rcases List.mem_cons.mp hp with rfl | hp
  · exact N _ (.head _)
  rcases List.mem_append.mp hp with hp | hp
  · exact N _ (.tail _ (.tail _ (.tail _ (.tail _ (.tail _ hp)))))
  rcases List.mem_cons.mp hp with rfl | hp
  · exact N _ (.tail _ (.tail _ (.tail _ (.head _))))
  rcases List.mem_cons.mp hp with rfl | hp
  · exact N _ (.tail _ (.tail _ (.tail _ (.tail _ (.head _)))))
  · exact N _ (.tail _ (.tail _ (.tail _ (.tail _ (.tail _ (hs _ hp))))))
theorem led_like {h₀ h : Heap} {L : Addr} {all b c : Led} {p : Addr × Obj} (_m : p ∈ c) (N : News h₀ L h all) (hm : p ∈ all) (M : News h₀ L h b) : News h₀ L h (p :: b) := led_cons N hm M
theorem isList_lst {h₀ h : Heap} {L D : Addr} {ys : List Value} {news : Led} (N : News h₀ L h news) (hm : (D, LCg.lst ys) ∈ news) : h.IsList D ys.toArray := ⟨_, (N _ hm).1, rfl, _, rfl⟩
theorem map_range_at {f : Nat → Int} {n j : Nat} {x : Int} (h : ((List.range n).map f)[j]? = some x) : j < n ∧ x = f j := by
  rw [List.getElem?_map] at h
  rcases Nat.lt_or_ge j n with q | q
  · rw [List.getElem?_range q] at h
    exact ⟨q, (Option.some.inj h).symm⟩
  · rw [List.getElem?_eq_none (by rw [List.length_range]; exact q)] at h
    cases h
theorem mir_wd_take (pts : List Pt) (i : Nat) : sumF Nd.wd ((pts.map (ndOf 1 true)).take i) = sumF Nd.wd ((pts.map (ndOf 1 false)).take i) := by
  rw [← List.map_take, ← List.map_take, sumF_map_scale nd_mir_wd, Int.one_mul]
section
variable {prog : Program} {w : World} {A : Around} {E : Value → Shared → Prop} {s : Shared} {h₀ : Heap} {L : Addr}
/-- the last item of a list of ints -/
theorem idx_last {value slice : Expr} {l : Addr} {vs : List Value} {f : Nat → Int} {n : Nat} {y : Int} {u : Tok} {news : Led} {Q : Value → Shared → Prop} (N : News h₀ L s.heap news) (hm : (l, LCg.lst vs) ∈ news) (hi : IntsAre vs ((List.range (n + 1)).map f)) (e : f n = y) (h : ∀ t, Q (.int y t) s)
    (hs : subscripted slice false (.ref l) (.int (-1) u) = operate [.ref l, .int (-1) u] (getItem (.ref l) (.int (-1) u))) :
    wpAny (model prog w) A (subscriptTail value slice (.ref l) (.int (-1) u)) Q E s := by
  have hlen : ((List.range (n + 1)).map f).length = n + 1 := by rw [List.length_map, List.length_range]
  refine item_list_ints_negR (isList_lst N hm) hi (by decide) (by rw [hlen]; omega) (by decide) (fun t => ?_) hs
  have z : ((List.range (n + 1)).map f).getD (-1 + (((List.range (n + 1)).map f).length : Int)).toNat 0 = y := by
    rw [hlen, show (-1 + ((n + 1 : Nat) : Int)).toNat = n by omega, List.getD_eq_getElem?_getD, List.getElem?_map, List.getElem?_range (Nat.lt_succ_self n)]
    exact e
  rw [z]
  exact h t
end
local macro_rules | `(tactic| walk_at "subscriptTail Name UnaryOp ref int") => `(tactic| (refine pause_intro ?_))

set_option maxRecDepth 100000 in
set_option maxHeartbeats 0 in
theorem law_walk : PySem.Challenge.rw_sq0047_01.Holds := Mine.hd (by
  k_go0
  all_goals try k_fold
  have hlen := len_ints_list (by lay_of)
  rename Below _ _ _ _ => kB
  rename Fr _ _ _ _ => kF
  replace kB := below_as kF kB rfl
  k_steps
  intro r1 tl1 h1 tk1 F1 N1 O1 e1
  obtain ⟨H, o0, rfl, rfl, hk0⟩ := e1
  have P1 := off_one O1
  simp only [List.cons_append, List.nil_append] at N1
  k_steps
  intro r2 o1 h2 tk2 F2 N2 e2
  obtain ⟨hk1, v1, u1, rfl, a1, a2⟩ := e2
  dsimp only at N2 ⊢
  k_steps
  intro r3 o2 h3 tk3 F3 N3 e3
  obtain ⟨hk2, v2, u2, rfl, a3, a4⟩ := e3
  dsimp only at N3 ⊢
  obtain ⟨ho1, ho2⟩ := ord_ok a1 a2
  k_steps
  intro r4 o3 h4 tk4 F4 N4 e4
  obtain ⟨hk3, v3, u3, rfl, a5, a6⟩ := e4
  dsimp only at N4 ⊢
  k_steps
  w_top off
  rename Fr _ _ _ _ => zF
  rename News _ _ _ _ => zN
  obtain ⟨nn, hn1, hn2, hn3, hsm, hsz⟩ := range_ok (b := 2 + v3) (by omega) (by omega)
  refine LCg.CompSrc.range (n := nn) rfl zF zN (by assumption) hsm hsz (by simp only [PySem.sizeLine_eq]; omega) fun g9 => ?_
  refine parts_rest (orders := [1, 4].getD v1.toNat 0) (H := H) (by first | k_updF | skip) hk3 ?turn ?fin
  case turn =>
    intro i ys o9 tl9 v I oI C oC D m₂ h9 tk9 E9 hi hO9 hP hC hx F9 N9 off9 ne9 hT9 U9
    obtain ⟨t9, rfl⟩ := hP
    simp only [List.cons_append, List.nil_append] at N9 U9 off9
    clear zF zN
    k_steps
    intro r8 tl8 o8 h8 tk8 F8 N8 O8 e8
    obtain ⟨hO8, T8, vs8, pt8, rfl, rfl, hV8, hpt8⟩ := e8
    exact ⟨T8, vs8, pt8, o8, h8, _, rfl, rfl, F8, N8, off_one O8, hO8.le (by omega), hV8, hpt8⟩
  intro ys o9 tl9 pts hpl hPM hok hO9 hoff D9 h9 tk9 F9 N9 off9
  simp only [List.cons_append, List.nil_append] at N9 off9
  clear zF zN
  replace off9 := off1_mem off9
  w_top off
  k_steps
  intro r5 o4 h5 tk5 F5 N5 e5
  obtain ⟨hk4, v4, u4, rfl, b1, b2⟩ := e5
  dsimp only at N5 ⊢
  k_steps
  intro r6 o5 h6 tk6 F6 N6 e6
  obtain ⟨hk5, v5, u5, rfl, b3, b4⟩ := e6
  dsimp only at N6 ⊢
  k_steps
  intro r7 o6 h7 tk7 F7 N7 e7
  obtain ⟨hk6, v6, u6, rfl, b5, b6⟩ := e7
  dsimp only at N7 ⊢
  k_steps
  intro r8 o7 h8 tk8 F8 N8 e8
  obtain ⟨hk7, v7, u7, rfl, b7, b8⟩ := e8
  dsimp only at N8 ⊢
  k_steps
  intro r9 o8 h9 tk9 F9 N9 e9
  obtain ⟨hk8, v8, u8, rfl, b9, b10⟩ := e9
  dsimp only at N9 ⊢
  w_top off
  k_steps
  obtain ⟨G, hG, g1, g2⟩ := gap_ok (v := v8) ⟨b1, b2⟩ ⟨b3, b4⟩ ⟨b5, b6⟩ ⟨b7, b8⟩
  rename _ = Data.cell (some (Value.int ([v4, -v5, 3 - v6, 300 - v7].getD v8.toNat 0) _)) => dG
  rename _ = Data.cell (some (Value.int (2 + v2) _)) => dK
  rw [hG] at dG
  intro r10 tl10 h10 tk10 F10 N10 O10 e10
  obtain ⟨DA, fvA, nA, restA, rfl, rfl, hMA⟩ := e10
  simp only [List.cons_append] at N10
  have M10 := led_cell dG N10 (by first | k_mem | skip) (led_cell dK N10 (by first | k_mem | skip) (led_cons (p := (D9, LCg.lst ys)) N10 (by first | k_mem | skip) (led_cons (p := (DA, W.listOf (List.toArray fvA) nA)) N10 (by first | k_mem | skip) (led_app (led_sub (b := tl9) N10 fun p hp => by first | k_mem | skip) (led_sub (b := restA) N10 fun p hp => by first | k_mem | skip)))))
  clear N10 O10 hoff off9
  have HA := hpSide_map (k := 1) (mir := false) ho2 (by omega) (by omega) (by omega) hok
  have HB := hpSide_map (k := 2 + v2) (mir := false) ho2 (by omega) (by omega) (by omega) hok
  have HC := hpSide_map (k := 1) (mir := true) ho2 (by omega) (by omega) (by omega) hok
  have HD := hpSide_kern (j := 2 + v2) (k := 1) (mir := false) (by omega) (by omega) ho2 (by omega) (by omega) (by omega) hok
  have lA : 0 < (pts.map (ndOf 1 false)).length := by rw [List.length_map]; omega
  have lB : 0 < (pts.map (ndOf (2 + v2) false)).length := by rw [List.length_map]; omega
  have lC : 0 < (pts.map (ndOf 1 true)).length := by rw [List.length_map]; omega
  clear hG hsm hsz
  w_top off
  k_steps
  intro r11 tl11 h11 tk11 F11 N11 O11 e11
  obtain ⟨R1, x1, rp1, sg1, od1, up1, dn1, c1, g1c, tA1, tA2, rfl, mR1, mr1, hB1, hS1⟩ := e11
  obtain ⟨⟨p11, p12, p13, p14, p15, p16, p17⟩, p18, p19⟩ := setN_fit HA (by omega) hS1
  have hB1' := hB1
  rcases hB1' with ⟨mx1, md1, mq1⟩
  have M11 := led_cons N11 (List.mem_append_left _ mR1) (led_cons N11 (List.mem_append_left _ mr1) (led_cons N11 (List.mem_append_left _ mx1) (led_cons N11 (List.mem_append_left _ md1) (led_cons N11 (List.mem_append_left _ mq1) (led_cell dG N11 (by first | k_mem | skip) (led_cell dK N11 (by first | k_mem | skip) (led_cons (p := (D9, LCg.lst ys)) N11 (by first | k_mem | skip) (led_cons (p := (DA, W.listOf (List.toArray fvA) nA)) N11 (by first | k_mem | skip) (led_app (led_sub (b := tl9) N11 fun p hp => by first | k_mem | skip) (led_app (led_sub (b := restA) N11 fun p hp => by first | k_mem | skip) (led_sub (b := tl11) N11 fun p hp => List.mem_append_left _ hp)))))))))))
  clear N11 O11 M10
  w_top off
  k_steps
  intro r12 tl12 h12 tk12 F12 N12 O12 e12
  obtain ⟨DB, fvB, nB, restB, rfl, rfl, hMB⟩ := e12
  have M12 := led_back N12
  clear N12 O12
  simp only [List.cons_append, List.append_assoc] at M12
  have kg := kg_bd (k := 2 + v2) (by omega) (by omega) g1 g2
  w_top off
  k_steps
  intro r13 tl13 h13 tk13 F13 N13 O13 e13
  obtain ⟨R2, x2, rp2, sg2, od2, up2, dn2, c2, g2c, tB1, tB2, rfl, mR2, mr2, hB2, hS2⟩ := e13
  have M13 := led_put (led_comm N13) (List.mem_append_right _ mR2)
  clear N13 O13 M12
  simp only [List.cons_append, List.append_assoc] at M13
  w_top off
  k_steps
  rename News _ _ _ _ => zN
  refine' Tell.use (scaled_law _ x1 DA rp1 x2 DB rp2 sg1 od1 up1 dn1 c1 g1c sg2 od2 up2 dn2 c2 g2c (2 + v2) G ([1, 4].getD v1.toNat 0) fvA fvB pts _ tA1 tA2 tB1 tB2 _ (by omega) (by omega) g1 g2 ho2 (by omega) hok hS1 hS2) ?k1 ?k2 ?k3 ?k4 ?k5 ?k6 ?k7 ?k8 ?kp ?_
  case kp =>
    have s11 : ∀ p ∈ tl11, _ := led_in (rest := tl11) zN fun p hp => by first | k_mem | skip
    have s13 : ∀ p ∈ tl13, _ := led_in (rest := tl13) zN fun p hp => by first | k_mem | skip
    exact ⟨hB1.into s11, News.isList zN (by first | k_mem | skip), nodesM_in hMA zN (fun p hp => by first | k_mem | skip), s11 _ mr1, hB2.into s13, News.isList zN (by first | k_mem | skip), nodesM_in hMB zN (fun p hp => by first | k_mem | skip), s13 _ mr2⟩
  ktn_open
  intro r14 tl14 h14 tk14 F14 N14 O14 e14
  obtain ⟨rfl, rfl⟩ := e14
  simp only [List.nil_append] at N14
  have S14 := led_sub (b := tl11) N14 fun p hp => by first | k_mem | skip
  have M14 := led_cons S14 mx1 (led_cons S14 md1 (led_cons S14 mr1 (led_cell dG N14 (by first | k_mem | skip) (led_cell dK N14 (by first | k_mem | skip) (led_cons (p := (D9, LCg.lst ys)) N14 (by first | k_mem | skip) (led_cons (p := (DA, W.listOf (List.toArray fvA) nA)) N14 (by first | k_mem | skip) (led_app (led_sub (b := tl9) N14 fun p hp => by first | k_mem | skip) (led_app (led_sub (b := restA) N14 fun p hp => by first | k_mem | skip) S14))))))))
  clear N14 O14 S14 zN
  w_top off
  k_steps
  intro r15 tl15 h15 tk15 F15 N15 O15 e15
  obtain ⟨DP, fvP, nP, rfl, rfl, hP1⟩ := e15
  clear O15
  simp only [List.cons_append, List.nil_append] at N15
  k_steps
  intro r16 tl16 h16 tk16 F16 N16 O16 e16
  obtain ⟨DC, fvC, nC, restC, rfl, rfl, hMC⟩ := e16
  have M16 := led_back N16
  clear N16 O16
  simp only [List.cons_append, List.append_assoc] at M16
  w_top off
  k_steps
  intro r17 tl17 h17 tk17 F17 N17 O17 e17
  obtain ⟨R3, x3, rp3, sg3, od3, up3, dn3, c3, g3c, tC1, tC2, rfl, mR3, mr3, hB3, hS3⟩ := e17
  have M17 := led_put (led_comm N17) (List.mem_append_right _ mR3)
  clear N17 O17 M16
  simp only [List.cons_append, List.append_assoc] at M17
  simp only [setN_zero, Prod.mk.injEq] at hS3
  obtain ⟨rfl, rfl, rfl, rfl, rfl, rfl⟩ := hS3
  w_top off
  k_steps
  intro r18 tl18 h18 tk18 F18 N18 O18 e18
  obtain ⟨DN, fvN, nN, rfl, rfl, hP2⟩ := e18
  simp only [List.cons_append, List.nil_append] at N18
  have S18 := led_sub (b := tl11) N18 fun p hp => by first | k_mem | skip
  have M18 := led_cons (p := (DN, W.listOf (List.toArray fvN) nN)) N18 (by first | k_mem | skip) (led_cons (p := (DP, W.listOf (List.toArray fvP) nP)) N18 (by first | k_mem | skip) (led_cons S18 mx1 (led_cons S18 md1 (led_cons S18 mr1 (led_cell dG N18 (by first | k_mem | skip) (led_cell dK N18 (by first | k_mem | skip) (led_cons (p := (D9, LCg.lst ys)) N18 (by first | k_mem | skip) (led_sub (b := tl9) N18 fun p hp => by first | k_mem | skip))))))))
  clear N18 O18 S18
  w_top off
  k_steps
  intro r19 tl19 h19 tk19 F19 N19 O19 e19
  obtain ⟨DE, fvE, nE, restE, rfl, rfl, hME⟩ := e19
  have M19 := led_back N19
  clear N19 O19
  simp only [List.cons_append, List.append_assoc] at M19
  w_top off
  k_steps
  rename Fr _ _ _ _ => zF
  rename News _ _ _ _ => zN
  have lE := (nodesM_in hME zN (fun p hp => by first | k_mem | skip)).1
  rw [List.length_map] at lE
  refine' kmk_add_lit (zs := _ :: fvE) zF zN ?ka ?kb ?ke ?_ ?kz
  case ka => exact News.isList zN (by first | k_mem | skip)
  case kb => exact News.isList zN (by first | k_mem | skip)
  case ke => exact rfl
  case kz =>
    show 1 + fvE.length ≤ sizeLine
    rw [PySem.sizeLine_eq]
    omega
  intro DS h20 F20 N20 l20
  clear l20
  obtain ⟨tlS, fvS, N21, hMS⟩ := kern_led N20 hME (fun p hp => by first | k_mem | skip)
  simp only [List.cons_append, List.append_assoc] at N21
  have M21 := led_cons (p := (DS, W.listOf (List.toArray fvS) 0)) N21 (.head _) (led_cons (p := (DN, W.listOf (List.toArray fvN) nN)) N21 (by first | k_mem | skip) (led_cons (p := (DP, W.listOf (List.toArray fvP) nP)) N21 (by first | k_mem | skip) (led_like mx1 N21 (by first | k_mem | skip) (led_like md1 N21 (by first | k_mem | skip) (led_like mr1 N21 (by first | k_mem | skip) (led_cell dG N21 (by first | k_mem | skip) (led_cell dK N21 (by first | k_mem | skip) (led_cons (p := (D9, LCg.lst ys)) N21 (by first | k_mem | skip) (led_app (led_sub (b := tl9) N21 fun p hp => by first | k_mem | skip) (led_sub (b := tlS) N21 fun p hp => by first | k_mem | skip))))))))))
  clear zF zN N20 N21 hME
  have lD : 0 < (Nd.kern (2 + v2) :: pts.map (ndOf 1 false)).length := Nat.succ_pos _
  w_top off
  k_steps
  intro r22 tl22 h22 tk22 F22 N22 O22 e22
  obtain ⟨R4, x4, rp4, sg4, od4, up4, dn4, c4, g4c, tD1, tD2, rfl, mR4, mr4, hB4, hS4⟩ := e22
  have hS4' := hS1.trans (hS4.trans setN_kern).symm
  simp only [Prod.mk.injEq] at hS4'
  obtain ⟨rfl, rfl, rfl, rfl, rfl, rfl⟩ := hS4'
  have hB4' := hB4
  rw [show sumF Nd.wd (Nd.kern (2 + v2) :: List.map (ndOf 1 false) pts) + G = 2 + v2 + sumF Nd.wd (List.map (ndOf 1 false) pts) + G from congrArg (· + G) (sumF_cons _ _ _)] at hB4'
  rcases hB4' with ⟨mx4, md4, mq4⟩
  have M22 := led_comm N22
  simp only [List.cons_append, List.append_assoc] at M22
  have S22 := led_sub (b := tl22) N22 fun p hp => List.mem_append_left _ hp
  have M23 := led_cons S22 mR4 (led_cons S22 mr4 (led_cons S22 mx4 (led_cons S22 md4 M22)))
  clear N22 O22 M21 M22 S22
  w_top off
  k_steps
  intro r24 tl24 h24 tk24 F24 N24 O24 e24
  obtain ⟨DQ, fvQ, nQ, rfl, rfl, hP4⟩ := e24
  clear O24
  simp only [List.cons_append, List.nil_append] at N24
  k_steps
  w_top off
  rename Fr _ _ _ _ => zF
  rename News _ _ _ _ => zN
  have lP := hP1.length
  rw [placesI_len, List.length_map] at lP
  refine LCg.CompSrc.ledger (its := fvP.toArray) (k := nP) rfl zF zN (by first | k_mem | skip) (by simp only [PySem.sizeLine_eq, List.size_toArray]; omega) fun g9 => ?_
  refine rest_inv (fun i ys nw => nw = _ ∧ IntsAre ys (((placesI sg1 od1 up1 dn1 (pts.map (ndOf 1 false))).take i).map (· + (2 + v2)))) ?st ?fi _ 0 [] _ (Nat.zero_add _) ⟨rfl, .nil⟩
  case st =>
    intro j ys9 nw v I2 oI2 C2 oC2 D2 m2 h2 tk2 E2 hj hJ hP hC hx F2 N2 off2 ne2
    obtain ⟨rfl, hys⟩ := hJ
    obtain ⟨n9, t9, rfl, hn9⟩ := ints_at hP1 (by simpa using hP)
    clear zF zN
    k_steps
    rename Fr _ _ _ _ => zF
    rename News _ _ _ _ => zN
    exact compEnd_same zF zN off2 (.inr ⟨_, by first | k_mem | skip, rfl, _, rfl⟩) ⟨rfl, ints_take_snoc hys hn9 rfl⟩
  intro ys9 nw hJ
  obtain ⟨rfl, hys⟩ := hJ
  clear zF zN
  rw [List.take_of_length_le (by rw [List.size_toArray, lP, placesI_len, List.length_map]; exact Nat.le_refl _)] at hys
  w_top off
  k_steps
  rename Fr _ _ _ _ => zF
  rename News _ _ _ _ => zN
  have ly9 := hys.length
  rw [List.length_map, placesI_len, List.length_map] at ly9
  refine' kmk_add_lit (zs := _ :: ys9) (its2 := ys9.toArray) zF zN ?ka ?kb ?ke ?_ ?kz
  case ka => exact News.isList zN (by first | k_mem | skip)
  case kb => exact isList_lst zN (by first | k_mem | skip)
  case ke => exact rfl
  case kz =>
    show 1 + ys9.length ≤ sizeLine
    rw [PySem.sizeLine_eq]
    omega
  intro D5 h25 F25 N25 l25
  clear l25 zF zN
  rw [places_kern p11] at hP4
  have hI5 := IntsAre.cons 0 tk24 hys
  w_top off
  k_steps
  rename Fr _ _ _ _ => zF
  rename News _ _ _ _ => zN
  have lP2 := hP2.length
  rw [placesI_len, List.length_map] at lP2
  have M26 := led_cons (p := (DP, W.listOf (List.toArray fvP) nP)) zN (by first | k_mem | skip) (led_cons (p := (DN, W.listOf (List.toArray fvN) nN)) zN (by first | k_mem | skip) (led_like mr1 zN (by first | k_mem | skip) (led_cell dG zN (by first | k_mem | skip) (led_cons (p := (D9, LCg.lst ys)) zN (by first | k_mem | skip) (led_sub (b := tl9) zN fun p hp => by first | k_mem | skip)))))
  clear zN
  refine zip_src (n := pts.length + 1) (fun i acc => IntsAre acc ((List.range i).map fun j => moveAt sg1 od1 up1 dn1 (pts.map (ndOf 1 false)) j)) rfl zF M26 (by first | k_mem | skip) (by first | k_mem | skip) (by rw [List.size_toArray, lP]) (by rw [List.size_toArray, lP2]) (Nat.succ_pos _) (by simp only [PySem.sizeLine_eq]; omega) .nil ?turn ?fin
  case turn =>
    intro g7 i xv yv acc C oC T rest m₂ h7 tk7 E7 hx hy hJ hC hm F7 N7
    obtain ⟨p', tp', rfl, hp'⟩ := ints_at hP1 (by simpa using hx)
    obtain ⟨p, tp, rfl, hp⟩ := ints_at hP2 (by simpa using hy)
    obtain ⟨_, z1⟩ := placesI_at p11 hp'
    have z2 := natural_at hp
    simp only [List.cons_append, List.nil_append] at N7
    clear zF M26
    k_steps
    rename Fr _ _ _ _ => zF
    rename News _ _ _ _ => zN
    refine zturn_same zF zN (map_snoc hJ ?_)
    show p' - p = moveAt sg1 od1 up1 dn1 (pts.map (ndOf 1 false)) i
    omega
  intro g26 acc26 hJM
  clear zF M26
  w_top off
  k_steps
  rename Fr _ _ _ _ => zF
  rename News _ _ _ _ => zN
  have lM := hJM.length
  rw [List.length_map, List.length_range] at lM
  have u11 := setG_up (by omega) hS1
  refine LCt.CompSrcT.ledger rfl zF zN (by first | k_mem | skip) (by simp only [PySem.sizeLine_eq, List.size_toArray]; omega) fun g9 => ?_
  refine restT_inv (fun j ys nw => nw = _ ∧ ys = []) ?st ?fi _ 0 [] _ (Nat.zero_add _) ⟨rfl, rfl⟩
  case st =>
    intro j ys9 nw v I2 oI2 C2 oC2 D2 m2 h2 tk2 E2 hj hJ hP hC hx F2 N2 off2 ne2
    obtain ⟨rfl, rfl⟩ := hJ
    obtain ⟨n9, t9, rfl, hn9⟩ := ints_at hJM (by simpa using hP)
    have hs9 : ¬ n9 * G < 0 := by
      rw [(map_range_at hn9).2]
      exact move_sense (by omega) hok p11 p13 p15 p16 j
    have hb9 : -50000000 < n9 ∧ n9 < 50000000 := by
      rw [(map_range_at hn9).2]
      exact moveAt_bd HA p11 p13 u11 j
    clear zF zN
    k_steps
    rename Fr _ _ _ _ => zF
    rename News _ _ _ _ => zN
    exact compEnd_same zF zN off2 (.inr ⟨_, by first | k_mem | skip, rfl, _, rfl⟩) ⟨rfl, rfl⟩
  intro ys9 nw hJ
  obtain ⟨rfl, rfl⟩ := hJ
  clear zF zN
  w_top off
  k_steps
  intro r27 tl27 h27 tk27 F27 N27 O27 e27
  obtain ⟨DF, fvF, nF, restF, rfl, rfl, hMF⟩ := e27
  simp only [List.cons_append] at N27
  have M27 := led_cons (p := (DF, W.listOf (List.toArray fvF) nF)) N27 (by first | k_mem | skip) (led_cons (p := (_, LCg.lst acc26)) N27 (by first | k_mem | skip) (led_cons (p := (DN, W.listOf (List.toArray fvN) nN)) N27 (by first | k_mem | skip) (led_like mr1 N27 (by first | k_mem | skip) (led_cell dG N27 (by first | k_mem | skip) (led_cons (p := (D9, LCg.lst ys)) N27 (by first | k_mem | skip) (led_app (led_sub (b := tl9) N27 fun p hp => by first | k_mem | skip) (led_sub (b := restF) N27 fun p hp => by first | k_mem | skip)))))))
  clear N27 O27
  w_top off
  k_steps
  intro r28 tl28 h28 tk28 F28 N28 O28 e28
  obtain ⟨R5, x5, rp5, sg5, od5, up5, dn5, c5, g5c, tE1, tE2, rfl, mR5, mr5, hB5, hS5⟩ := e28
  obtain ⟨⟨p51, p52, p53, p54, _, _, p57⟩, p58, p59⟩ := setN_fit HC (by omega) hS5
  have M28 := led_comm N28
  simp only [List.cons_append, List.append_assoc] at M28
  have S28 := led_sub (b := tl28) N28 fun p hp => List.mem_append_left _ hp
  have M29 := led_cons S28 mR5 (led_cons S28 mr5 M28)
  clear N28 O28 M27 M28 S28
  w_top off
  k_steps
  intro r29 tl29 h29 tk29 F29 N29 O29 e29
  obtain ⟨rfl, bC, rfl, hC⟩ := e29
  simp only [List.nil_append] at N29
  clear O29
  rcases bC with _ | _
  · k_steps
  have hC' := hC rfl
  obtain ⟨⟨m1, m2, m3⟩, m4, m5⟩ := setN_mirror HA hC' p11 hS1 hS5
  clear hC
  w_top off
  k_steps
  intro r30 tl30 h30 tk30 F30 N30 O30 e30
  obtain ⟨DM, fvM, nM, rfl, rfl, hP5⟩ := e30
  simp only [List.cons_append, List.nil_append] at N30
  clear O30
  k_steps
  rename Fr _ _ _ _ => zF
  rename News _ _ _ _ => zN
  have lP5 := hP5.length
  rw [placesI_len, List.length_map] at lP5
  have M31 := led_cons (p := (DM, W.listOf (List.toArray fvM) nM)) zN (by first | k_mem | skip) (led_cons (p := (DN, W.listOf (List.toArray fvN) nN)) zN (by first | k_mem | skip) (led_cons (p := (_, LCg.lst acc26)) zN (by first | k_mem | skip) (led_like mr1 zN (by first | k_mem | skip) (led_like mr5 zN (by first | k_mem | skip) (led_cell dG zN (by first | k_mem | skip) News.nil)))))
  clear zN
  refine zip_src (n := pts.length + 1) (fun i acc => IntsAre acc ((List.range i).map fun j => -moveAt sg1 od1 up1 dn1 (pts.map (ndOf 1 false)) j)) rfl zF M31 (by first | k_mem | skip) (by first | k_mem | skip) (by rw [List.size_toArray, lP5]) (by rw [List.size_toArray, lP2]) (Nat.succ_pos _) (by simp only [PySem.sizeLine_eq]; omega) .nil ?turn ?fin
  case turn =>
    intro g7 i xv yv acc C oC T rest m₂ h7 tk7 E7 hx hy hJ hC hm F7 N7
    obtain ⟨p', tp', rfl, hp'⟩ := ints_at hP5 (by simpa using hx)
    obtain ⟨p, tp, rfl, hp⟩ := ints_at hP2 (by simpa using hy)
    obtain ⟨_, z1⟩ := placesI_at p51 hp'
    have z2 := natural_at hp
    have z3 := m4 i
    rw [mir_wd_take] at z1
    simp only [List.cons_append, List.nil_append] at N7
    clear zF M31
    k_steps
    rename Fr _ _ _ _ => zF
    rename News _ _ _ _ => zN
    refine zturn_same zF zN (map_snoc hJ ?_)
    show p' - p = -moveAt sg1 od1 up1 dn1 (pts.map (ndOf 1 false)) i
    omega
  intro g31 acc31 hJT
  clear zF M31
  w_top off
  k_steps
  rename Fr _ _ _ _ => zF
  rename News _ _ _ _ => zN
  refine LCg.CompSrc.ledger (its := acc26.toArray) rfl zF zN (by first | k_mem | skip) (by simp only [PySem.sizeLine_eq, List.size_toArray]; omega) fun g9 => ?_
  refine rest_inv (fun i ys nw => nw = _ ∧ IntsAre ys ((List.range i).map fun j => -moveAt sg1 od1 up1 dn1 (pts.map (ndOf 1 false)) j)) ?st ?fi _ 0 [] _ (Nat.zero_add _) ⟨rfl, .nil⟩
  case st =>
    intro j ys9 nw v I2 oI2 C2 oC2 D2 m2 h2 tk2 E2 hj hJ hP hC hx F2 N2 off2 ne2
    obtain ⟨rfl, hys⟩ := hJ
    obtain ⟨n9, t9, rfl, hn9⟩ := ints_at hJM (by simpa using hP)
    have hb9 : -50000000 < n9 ∧ n9 < 50000000 := by
      rw [(map_range_at hn9).2]
      exact moveAt_bd HA p11 p13 u11 j
    clear zF zN
    k_steps
    rename Fr _ _ _ _ => zF
    rename News _ _ _ _ => zN
    refine compEnd_same zF zN off2 (.inr ⟨_, by first | k_mem | skip, rfl, _, rfl⟩) ⟨rfl, map_snoc hys ?_⟩
    show -n9 = -moveAt sg1 od1 up1 dn1 (pts.map (ndOf 1 false)) j
    rw [(map_range_at hn9).2]
  intro ys32 nw hJ
  obtain ⟨rfl, hJN⟩ := hJ
  clear zF zN
  rw [List.size_toArray, lM] at hJN
  w_top off
  k_steps
  rename News _ _ _ _ => zN
  refine' idx_last zN ?ka hJM m5 ?_ ?kb
  case ka => first | k_mem | skip
  case kb => with_unfolding_all rfl
  intro t32
  w_top off
  k_steps)
end Mine
theorem PySem.Challenge.cw_sq0047_01_holds : PySem.Challenge.rw_sq0047_01.Holds :=
  Mine.law_walk
