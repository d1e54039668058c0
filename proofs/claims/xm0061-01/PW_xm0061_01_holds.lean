import PyProof.Rows.All
import Wide.All
import OpenK.AllK
import Wide.FinOn
import Lean
import PySem.Challenge.RW_xm0061_01
open PySem PySem.W PyProof.Rows PySem.Spec PySem.Calls
set_option Elab.async false
set_option maxRecDepth 100000
set_option maxHeartbeats 8000000
namespace Mine
open_top hd for PySem.Challenge.rw_xm0061_01
section
variable {w : World} {mean : ExcName → Option Value} {mg mb : Str → Option Value}
/-- a call of the def at f ends, hands back R, and leaves the frame and the ledger as they were; need: what the ledger must bear; d: the frames' room -/
abbrev Claim (w : World) (mean : ExcName → Option Value) (mg mb : Str → Option Value) (d : Nat) (f : Addr) (need : List (Addr × Obj)) (vs : List Value) (R : Tok → Value) : Prop :=
  ∀ (dp un : Nat) (gd : Option (List Code)) (cn : Str) (cs : Scope) (a : Addr) (ccd : Value) (cl : List (Str × Addr)) (outer : List Env) (A₀ : Around) (base h₀ : Heap) (L : Addr) (m : Str → Option Value) (news : List (Addr × Obj)) (s : Shared) (Q E : Value → Shared → Prop),
    Below A₀ base outer h₀ → Fr h₀ L s.heap m → (hd.heap_39 w.params).In h₀ → News h₀ L s.heap news → Top hd.view_39 (looseW hd.view_39 [Str.ofString "BasicError"]) mean mg mb h₀ → cs.kind = .function →
    dp + d < recursionLimit → un + 8 * d < cLine → (∀ p ∈ need, p ∈ news) →
    (∀ (t : Tok) (h' : Heap) (tk' : Nat), Fr h₀ L h' m → News h₀ L h' news → Q (R t) { s with heap := h', toks := tk' }) →
    wpAny (model PySem.Challenge.rw_xm0061_01.row.prog w) (ktrTop dp un gd cn cs L a ccd cl outer) (call (.ref f) vs) Q E s
theorem news_need {h₀ h : Heap} {L : Addr} {need news : List (Addr × Obj)} (N : News h₀ L h news) (hn : ∀ p ∈ need, p ∈ news) : News h₀ L h (need ++ news) :=
  fun p hp => N p ((List.mem_append.mp hp).elim (hn p) id)
abbrev lst (vs : List Value) (n : Nat) : Obj := ⟨.type "list", none, .seq vs.toArray n, #[]⟩
theorem use {d : Nat} {f : Addr} {need : List (Addr × Obj)} {vs : List Value} {R : Tok → Value} (C : Claim w mean mg mb d f need vs R)
    {dp un : Nat} {gd : Option (List Code)} {cn : Str} {cs : Scope} {a : Addr} {ccd : Value} {cl : List (Str × Addr)} {outer : List Env} {A₀ : Around} {base h₀ : Heap} {L : Addr} {m : Str → Option Value} {news : List (Addr × Obj)} {s : Shared} {Q E : Value → Shared → Prop}
    (B : Below A₀ base outer h₀) (F : Fr h₀ L s.heap m) (X : (hd.heap_39 w.params).In h₀) (N : News h₀ L s.heap news) (T : Top hd.view_39 (looseW hd.view_39 [Str.ofString "BasicError"]) mean mg mb h₀) (hk : cs.kind = .function)
    (hr : dp + d < recursionLimit) (hu : un + 8 * d < cLine) (hn : ∀ p ∈ need, p ∈ news)
    (ret : ∀ (t : Tok) (h' : Heap) (tk' : Nat), Fr h₀ L h' m → News h₀ L h' news → Q (R t) { s with heap := h', toks := tk' }) :
    wpAny (model PySem.Challenge.rw_xm0061_01.row.prog w) (ktrTop dp un gd cn cs L a ccd cl outer) (call (.ref f) vs) Q E s :=
  C dp un gd cn cs a ccd cl outer A₀ base h₀ L m news s Q E B F X N T hk hr hu hn ret
theorem text_of_claim (x : Str) (t : Tok) : Claim w mean mg mb 1 100 [] [.str x t] (fun _ => .str x t) := by
  unfold Claim
  k_fill
  intro dp un gd cn cs a ccd cl outer A₀ base h₀ L m news s Q E B F X N T hk hd hu hn hret
  refine wpAny_call ?_
  k_dflt cell_enter
  k_steps
  all_goals first | exact hret 0 _ _ (by assumption) (by assumption) | exact hret _ _ _ (by assumption) (by assumption) | (exfalso; omega)
local macro_rules | `(tactic| walk_at "call ref") => `(tactic| (k_here; (with_reducible show wpAny _ _ (call (Value.ref 100) _) _ _ _); k_dflt (refine' use (text_of_claim _ _) ?k1 ?k2 ?k3 ?k4 ?k5 ?k6 ?k7 ?k8 ?k9 ?_; (case k1 => k_asm); (case k2 => k_asm); (case k3 => k_asm); (case k4 => k_asm); (case k5 => k_asm); (case k6 => first | exact rfl | assumption); (case k9 => first | exact List.forall_mem_nil _ | (refine List.forall_mem_cons.mpr ⟨?n1, ?n2⟩; (case n1 => k_mem); (case n2 => exact List.forall_mem_nil _))); (case k7 => ktr_room); (case k8 => ktr_units); k_whole); intro t9 h9 tk9 F9 N9; (try dsimp only); (try k_fold); (try k_sweep)))
theorem checked_text_claim (x : Str) (t : Tok) (hx : x.length ≤ 255) : Claim w mean mg mb 1 107 [] [.str x t] (fun _ => .str x t) := by
  unfold Claim
  k_fill
  intro dp un gd cn cs a ccd cl outer A₀ base h₀ L m news s Q E B F X N T hk hd hu hn hret
  refine wpAny_call ?_
  k_dflt cell_enter
  k_steps
  all_goals first | exact hret 0 _ _ (by assumption) (by assumption) | exact hret _ _ _ (by assumption) (by assumption) | (exfalso; omega)
local macro_rules | `(tactic| walk_at "call ref") => `(tactic| (k_here; (with_reducible show wpAny _ _ (call (Value.ref 107) _) _ _ _); k_dflt (refine' use (checked_text_claim _ _ ?h1) ?k1 ?k2 ?k3 ?k4 ?k5 ?k6 ?k7 ?k8 ?k9 ?_; (case k1 => k_asm); (case k2 => k_asm); (case k3 => k_asm); (case k4 => k_asm); (case k5 => k_asm); (case k6 => first | exact rfl | assumption); (case k9 => first | exact List.forall_mem_nil _ | (refine List.forall_mem_cons.mpr ⟨?n1, ?n2⟩; (case n1 => k_mem); (case n2 => exact List.forall_mem_nil _))); (case k7 => ktr_room); (case k8 => ktr_units); (case h1 => (first | assumption | omega | l_fact)); k_whole); intro t9 h9 tk9 F9 N9; (try dsimp only); (try k_fold); (try k_sweep)))
theorem size_told_claim (i : Int) (t : Tok) (h0 : 0 ≤ i) (h1 : i ≤ 255) : Claim w mean mg mb 1 114 [] [.int i t] (fun _ => .int i t) := by
  unfold Claim
  k_fill
  intro dp un gd cn cs a ccd cl outer A₀ base h₀ L m news s Q E B F X N T hk hd hu hn hret
  refine wpAny_call ?_
  k_dflt cell_enter
  k_steps
  all_goals first | exact hret 0 _ _ (by assumption) (by assumption) | exact hret _ _ _ (by assumption) (by assumption) | (exfalso; omega)
local macro_rules | `(tactic| walk_at "call ref") => `(tactic| (k_here; (with_reducible show wpAny _ _ (call (Value.ref 114) _) _ _ _); k_dflt (refine' use (size_told_claim _ _ ?h1 ?h2) ?k1 ?k2 ?k3 ?k4 ?k5 ?k6 ?k7 ?k8 ?k9 ?_; (case k1 => k_asm); (case k2 => k_asm); (case k3 => k_asm); (case k4 => k_asm); (case k5 => k_asm); (case k6 => first | exact rfl | assumption); (case k9 => first | exact List.forall_mem_nil _ | (refine List.forall_mem_cons.mpr ⟨?n1, ?n2⟩; (case n1 => k_mem); (case n2 => exact List.forall_mem_nil _))); (case k7 => ktr_room); (case k8 => ktr_units); (case h1 => (first | assumption | omega | l_fact)); (case h2 => (first | assumption | omega | l_fact)); k_whole); intro t9 h9 tk9 F9 N9; (try dsimp only); (try k_fold); (try k_sweep)))
theorem place_told_claim (i : Int) (t : Tok) (h0 : 1 ≤ i) (h1 : i ≤ 255) : Claim w mean mg mb 2 121 [] [.int i t] (fun _ => .int i t) := by
  unfold Claim
  k_fill
  intro dp un gd cn cs a ccd cl outer A₀ base h₀ L m news s Q E B F X N T hk hd hu hn hret
  refine wpAny_call ?_
  k_dflt cell_enter
  k_steps
  all_goals first | exact hret 0 _ _ (by assumption) (by assumption) | exact hret _ _ _ (by assumption) (by assumption) | (exfalso; omega)
local macro_rules | `(tactic| walk_at "call ref") => `(tactic| (k_here; (with_reducible show wpAny _ _ (call (Value.ref 121) _) _ _ _); k_dflt (refine' use (place_told_claim _ _ ?h1 ?h2) ?k1 ?k2 ?k3 ?k4 ?k5 ?k6 ?k7 ?k8 ?k9 ?_; (case k1 => k_asm); (case k2 => k_asm); (case k3 => k_asm); (case k4 => k_asm); (case k5 => k_asm); (case k6 => first | exact rfl | assumption); (case k9 => first | exact List.forall_mem_nil _ | (refine List.forall_mem_cons.mpr ⟨?n1, ?n2⟩; (case n1 => k_mem); (case n2 => exact List.forall_mem_nil _))); (case k7 => ktr_room); (case k8 => ktr_units); (case h1 => (first | assumption | omega | l_fact)); (case h2 => (first | assumption | omega | l_fact)); k_whole); intro t9 h9 tk9 F9 N9; (try dsimp only); (try k_fold); (try k_sweep)))
theorem mid3_claim (l : Addr) (n : Nat) (x : Str) (i k : Int) (t t1 t2 : Tok) (hi : 1 ≤ i) (hi2 : i ≤ 255) (hk0 : 0 ≤ k) (hk2 : k ≤ 255) (hx : x.length ≤ 255) :
    Claim w mean mg mb 3 142 [(l, lst [.str x t, .int i t1, .int k t2] n)] [.none, .ref l] (fun t' => .str (Txt.slice x (some (i - 1)) (some (i - 1 + k))) t') := by
  unfold Claim
  k_fill
  intro dp un gd cn cs a ccd cl outer A₀ base h₀ L m news s Q E B F X N T hk hd hu hn hret
  replace N := news_need N hn
  simp only [List.cons_append, List.nil_append] at N
  refine wpAny_call ?_
  k_dflt cell_enter
  k_steps
  all_goals first | exact hret _ _ _ (by assumption) (cb_drop (by assumption) (by kcj_all)) | (exfalso; omega)
theorem mid2_claim (l : Addr) (n : Nat) (x : Str) (i : Int) (t t1 : Tok) (hi : 1 ≤ i) (hi2 : i ≤ 255) (hx : x.length ≤ 255) :
    Claim w mean mg mb 3 142 [(l, lst [.str x t, .int i t1] n)] [.none, .ref l] (fun t' => .str (Txt.slice x (some (i - 1)) (some (i - 1 + 255))) t') := by
  unfold Claim
  k_fill
  intro dp un gd cn cs a ccd cl outer A₀ base h₀ L m news s Q E B F X N T hk hd hu hn hret
  replace N := news_need N hn
  simp only [List.cons_append, List.nil_append] at N
  refine wpAny_call ?_
  k_dflt cell_enter
  k_steps
  all_goals first | exact hret _ _ _ (by assumption) (cb_drop (by assumption) (by kcj_all)) | (exfalso; omega)
theorem left_claim (l : Addr) (n : Nat) (x : Str) (i : Int) (t t1 : Tok) (hi : 0 ≤ i) (hi2 : i ≤ 255) (hx : x.length ≤ 255) :
    Claim w mean mg mb 3 135 [(l, lst [.str x t, .int i t1] n)] [.none, .ref l] (fun t' => .str (Txt.slice x none (some i)) t') := by
  unfold Claim
  k_fill
  intro dp un gd cn cs a ccd cl outer A₀ base h₀ L m news s Q E B F X N T hk hd hu hn hret
  replace N := news_need N hn
  simp only [List.cons_append, List.nil_append] at N
  refine wpAny_call ?_
  k_dflt cell_enter
  k_steps
  all_goals first | exact hret _ _ _ (by assumption) (cb_drop (by assumption) (by kcj_all)) | (exfalso; omega)
theorem joined_claim (x y : Str) (t t1 : Tok) (hx : x.length + y.length ≤ 255) :
    Claim w mean mg mb 2 156 [] [.str x t, .str y t1] (fun t' => .str (x ++ y) t') := by
  unfold Claim
  k_fill
  intro dp un gd cn cs a ccd cl outer A₀ base h₀ L m news s Q E B F X N T hk hd hu hn hret
  refine wpAny_call ?_
  k_dflt cell_enter
  k_steps
  all_goals first | exact hret 0 _ _ (by assumption) (by assumption) | exact hret _ _ _ (by assumption) (by assumption) | (exfalso; omega)
local macro_rules | `(tactic| walk_at "call ref") => `(tactic| (k_here; (with_reducible show wpAny _ _ (call (Value.ref 142) _) _ _ _); k_dflt (refine' use (mid2_claim _ _ _ _ _ _ ?h1 ?h2 ?h3) ?k1 ?k2 ?k3 ?k4 ?k5 ?k6 ?k7 ?k8 ?k9 ?_; (case k1 => k_asm); (case k2 => k_asm); (case k3 => k_asm); (case k4 => k_asm); (case k5 => k_asm); (case k6 => first | exact rfl | assumption); (case k9 => first | exact List.forall_mem_nil _ | (refine List.forall_mem_cons.mpr ⟨?n1, ?n2⟩; (case n1 => k_mem); (case n2 => exact List.forall_mem_nil _))); (case k7 => ktr_room); (case k8 => ktr_units); (case h1 => (first | assumption | omega | l_fact)); (case h2 => (first | assumption | omega | l_fact)); (case h3 => (first | assumption | omega | l_fact)); k_whole); intro t9 h9 tk9 F9 N9; (try dsimp only); (try k_fold); (try k_sweep)))
local macro_rules | `(tactic| walk_at "call ref") => `(tactic| (k_here; (with_reducible show wpAny _ _ (call (Value.ref 142) _) _ _ _); k_dflt (refine' use (mid3_claim _ _ _ _ _ _ _ _ ?h1 ?h2 ?h3 ?h4 ?h5) ?k1 ?k2 ?k3 ?k4 ?k5 ?k6 ?k7 ?k8 ?k9 ?_; (case k1 => k_asm); (case k2 => k_asm); (case k3 => k_asm); (case k4 => k_asm); (case k5 => k_asm); (case k6 => first | exact rfl | assumption); (case k9 => first | exact List.forall_mem_nil _ | (refine List.forall_mem_cons.mpr ⟨?n1, ?n2⟩; (case n1 => k_mem); (case n2 => exact List.forall_mem_nil _))); (case k7 => ktr_room); (case k8 => ktr_units); (case h1 => (first | assumption | omega | l_fact)); (case h2 => (first | assumption | omega | l_fact)); (case h3 => (first | assumption | omega | l_fact)); (case h4 => (first | assumption | omega | l_fact)); (case h5 => (first | assumption | omega | l_fact)); k_whole); intro t9 h9 tk9 F9 N9; (try dsimp only); (try k_fold); (try k_sweep)))
local macro_rules | `(tactic| walk_at "call ref") => `(tactic| (k_here; (with_reducible show wpAny _ _ (call (Value.ref 135) _) _ _ _); k_dflt (refine' use (left_claim _ _ _ _ _ _ ?h1 ?h2 ?h3) ?k1 ?k2 ?k3 ?k4 ?k5 ?k6 ?k7 ?k8 ?k9 ?_; (case k1 => k_asm); (case k2 => k_asm); (case k3 => k_asm); (case k4 => k_asm); (case k5 => k_asm); (case k6 => first | exact rfl | assumption); (case k9 => first | exact List.forall_mem_nil _ | (refine List.forall_mem_cons.mpr ⟨?n1, ?n2⟩; (case n1 => k_mem); (case n2 => exact List.forall_mem_nil _))); (case k7 => ktr_room); (case k8 => ktr_units); (case h1 => (first | assumption | omega | l_fact)); (case h2 => (first | assumption | omega | l_fact)); (case h3 => (first | assumption | omega | l_fact)); k_whole); intro t9 h9 tk9 F9 N9; (try dsimp only); (try k_fold); (try k_sweep)))
local macro_rules | `(tactic| walk_at "call ref") => `(tactic| (k_here; (with_reducible show wpAny _ _ (call (Value.ref 156) _) _ _ _); k_dflt (refine' use (joined_claim _ _ _ _ ?h1) ?k1 ?k2 ?k3 ?k4 ?k5 ?k6 ?k7 ?k8 ?k9 ?_; (case k1 => k_asm); (case k2 => k_asm); (case k3 => k_asm); (case k4 => k_asm); (case k5 => k_asm); (case k6 => first | exact rfl | assumption); (case k9 => first | exact List.forall_mem_nil _ | (refine List.forall_mem_cons.mpr ⟨?n1, ?n2⟩; (case n1 => k_mem); (case n2 => exact List.forall_mem_nil _))); (case k7 => ktr_room); (case k8 => ktr_units); (case h1 => (first | assumption | omega | l_fact)); k_whole); intro t9 h9 tk9 F9 N9; (try dsimp only); (try k_fold); (try k_sweep)))
def Halt (P : Prop) : Prop := P
theorem halt {P : Prop} (h : Halt P) : P := h
local macro_rules | `(tactic| walk_at "exec While Compare cons nil") => `(tactic| refine halt ?_)
theorem figures_claim (i : Int) (t : Tok) (h0 : 0 ≤ i) (h1 : i ≤ 9) : Claim w mean mg mb 1 21 [] [.int i t] (fun t' => .str ⟨#[(48 + i).toNat]⟩ t') := by
  unfold Claim
  k_fill
  intro dp un gd cn cs a ccd cl outer A₀ base h₀ L m news s Q E B F X N T hk hd hu hn hret
  have hmod : i.fmod 10 = i := by rw [Int.fmod_eq_emod_of_nonneg _ (by omega)]; omega
  refine wpAny_call ?_
  k_dflt cell_enter
  k_steps
  unfold Halt
  rename Fr _ _ _ _ => F1
  rename News _ _ _ _ => N1
  rw [hmod] at F1
  refine ksw_while (σ := Unit) (fun _ => news) (fun _ => []) (fun _ => True) [] (fun _ => True) (fun _ => 0) () F1 N1 trivial (fun _ h => nomatch h) trivial ?_
  intro _ u h tk _ _ F2 N2
  clear F1 N1
  k_steps
  all_goals first | exact hret 0 _ _ (by assumption) (by assumption) | exact hret _ _ _ (by assumption) (by assumption) | (exfalso; omega)
local macro_rules | `(tactic| walk_at "call ref") => `(tactic| (k_here; (with_reducible show wpAny _ _ (call (Value.ref 21) _) _ _ _); k_dflt (refine' use (figures_claim _ _ ?h1 ?h2) ?k1 ?k2 ?k3 ?k4 ?k5 ?k6 ?k7 ?k8 ?k9 ?_; (case k1 => k_asm); (case k2 => k_asm); (case k3 => k_asm); (case k4 => k_asm); (case k5 => k_asm); (case k6 => first | exact rfl | assumption); (case k9 => first | exact List.forall_mem_nil _ | (refine List.forall_mem_cons.mpr ⟨?n1, ?n2⟩; (case n1 => k_mem); (case n2 => exact List.forall_mem_nil _))); (case k7 => ktr_room); (case k8 => ktr_units); (case h1 => (first | assumption | omega | l_fact)); (case h2 => (first | assumption | omega | l_fact)); k_whole); intro t9 h9 tk9 F9 N9; (try dsimp only); (try k_fold); (try k_sweep)))
theorem whole_claim (i : Int) (t : Tok) (h0 : 0 ≤ i) (h1 : i ≤ 9) : Claim w mean mg mb 2 49 [] [.int i t] (fun t' => .str ⟨#[32, (48 + i).toNat]⟩ t') := by
  unfold Claim
  k_fill
  intro dp un gd cn cs a ccd cl outer A₀ base h₀ L m news s Q E B F X N T hk hd hu hn hret
  have e : (Str.ofString " " ++ (⟨#[(48 + if i < 0 then -i else i).toNat]⟩ : Str)) = ⟨#[32, (48 + i).toNat]⟩ := by rw [if_neg (by omega)]; rfl
  refine wpAny_call ?_
  k_dflt cell_enter
  k_steps
  all_goals (try rw [e])
  all_goals first | exact hret 0 _ _ (by assumption) (by assumption) | exact hret _ _ _ (by assumption) (by assumption) | (exfalso; omega)
local macro_rules | `(tactic| walk_at "call ref") => `(tactic| (k_here; (with_reducible show wpAny _ _ (call (Value.ref 49) _) _ _ _); k_dflt (refine' use (whole_claim _ _ ?h1 ?h2) ?k1 ?k2 ?k3 ?k4 ?k5 ?k6 ?k7 ?k8 ?k9 ?_; (case k1 => k_asm); (case k2 => k_asm); (case k3 => k_asm); (case k4 => k_asm); (case k5 => k_asm); (case k6 => first | exact rfl | assumption); (case k9 => first | exact List.forall_mem_nil _ | (refine List.forall_mem_cons.mpr ⟨?n1, ?n2⟩; (case n1 => k_mem); (case n2 => exact List.forall_mem_nil _))); (case k7 => ktr_room); (case k8 => ktr_units); (case h1 => (first | assumption | omega | l_fact)); (case h2 => (first | assumption | omega | l_fact)); k_whole); intro t9 h9 tk9 F9 N9; (try dsimp only); (try k_fold); (try k_sweep)))
theorem number_claim (i d : Int) (t t1 : Tok) (h0 : 0 ≤ i) (h1 : i ≤ 9) : Claim w mean mg mb 3 128 [] [.int i t, .int d t1] (fun t' => .str ⟨#[32, (48 + i).toNat]⟩ t') := by
  unfold Claim
  k_fill
  intro dp un gd cn cs a ccd cl outer A₀ base h₀ L m news s Q E B F X N T hk hd hu hn hret
  refine wpAny_call ?_
  k_dflt cell_enter
  k_steps
  all_goals first | exact hret 0 _ _ (by assumption) (by assumption) | exact hret _ _ _ (by assumption) (by assumption) | (exfalso; omega)
local macro_rules | `(tactic| walk_at "call ref") => `(tactic| (k_here; (with_reducible show wpAny _ _ (call (Value.ref 128) _) _ _ _); k_dflt (refine' use (number_claim _ _ _ _ ?h1 ?h2) ?k1 ?k2 ?k3 ?k4 ?k5 ?k6 ?k7 ?k8 ?k9 ?_; (case k1 => k_asm); (case k2 => k_asm); (case k3 => k_asm); (case k4 => k_asm); (case k5 => k_asm); (case k6 => first | exact rfl | assumption); (case k9 => first | exact List.forall_mem_nil _ | (refine List.forall_mem_cons.mpr ⟨?n1, ?n2⟩; (case n1 => k_mem); (case n2 => exact List.forall_mem_nil _))); (case k7 => ktr_room); (case k8 => ktr_units); (case h1 => (first | assumption | omega | l_fact)); (case h2 => (first | assumption | omega | l_fact)); k_whole); intro t9 h9 tk9 F9 N9; (try dsimp only); (try k_fold); (try k_sweep)))
-- the plain part: slices, runs, the next text, the text read back
theorem idx_eq (lo hi lo' hi' : Option Int) (n : Nat) (h1 : Builtin.Str.strSliceIndices lo hi 1 n = Builtin.Str.strSliceIndices lo' hi' 1 n) (xs : Str) (hx : xs.length = n) : Txt.slice xs lo hi = Txt.slice xs lo' hi' := by
  subst hx; unfold Txt.slice; rw [h1]
theorem slice_ss (x : Str) (i j : Int) (h0 : 0 ≤ i) (h1 : i ≤ j) : Txt.slice x (some i) (some j) = ⟨((x.cps.toList.drop i.toNat).take (j - i).toNat).toArray⟩ := by
  have hc : Txt.slice x (some i) (some j) = Txt.slice x (some (min i x.length)) (some (min j x.length)) := by
    refine idx_eq _ _ _ _ x.length ?_ x rfl
    unfold Builtin.Str.strSliceIndices
    simp only [show (1 : Int) > 0 by decide, if_true]
    rw [if_neg (by omega), if_neg (by omega), if_neg (by omega), if_neg (by omega)]
    congr 1 <;> omega
  rw [hc]
  have h := eq_of_beq (slice_closesL (x := x) (i := min i x.length) (j := min j x.length) (by omega) (by omega) (by omega))
  rw [h]
  have hl : x.cps.toList.length = x.length := by simp [Str.length]
  congr 2
  by_cases hi : i ≤ x.length
  · have e1 : (min i (x.length : Int)).toNat = i.toNat := by omega
    rw [e1]
    by_cases hj : j ≤ x.length
    · congr 1; omega
    · rw [List.take_of_length_le (by rw [List.length_drop]; omega), List.take_of_length_le (by rw [List.length_drop]; omega)]
  · rw [List.drop_of_length_le (by omega), List.drop_of_length_le (by omega)]
    simp
theorem slice_to (x : Str) (j : Int) (h1 : 0 ≤ j) : Txt.slice x none (some j) = ⟨(x.cps.toList.take j.toNat).toArray⟩ := by
  have hc : Txt.slice x none (some j) = Txt.slice x (some 0) (some j) := by
    refine idx_eq _ _ _ _ x.length ?_ x rfl
    unfold Builtin.Str.strSliceIndices
    simp only [show (1 : Int) > 0 by decide, if_true]
    congr 1
  rw [hc, slice_ss x 0 j (by omega) h1]
  simp
theorem slice_from (x : Str) (i : Int) (h1 : 0 ≤ i) : Txt.slice x (some i) none = ⟨(x.cps.toList.drop i.toNat).toArray⟩ := by
  have hc : Txt.slice x (some i) none = Txt.slice x (some i) (some (max i x.length)) := by
    refine idx_eq _ _ _ _ x.length ?_ x rfl
    unfold Builtin.Str.strSliceIndices
    simp only [show (1 : Int) > 0 by decide, if_true]
    congr 1
    split <;> omega
  rw [hc, slice_ss x i _ h1 (by omega), List.take_of_length_le]
  have hl : x.cps.toList.length = x.length := by simp [Str.length]
  rw [List.length_drop]; omega
theorem mul_one_str (c : Nat) (n : Int) : Txt.mul ⟨#[c]⟩ n = ⟨(List.replicate n.toNat c).toArray⟩ := by
  have h := mul_one_list c n
  generalize Txt.mul ⟨#[c]⟩ n = y at h
  obtain ⟨a⟩ := y
  simp only at h
  rw [← h]

/-- how many of the first items are c -/
def runLen (c : Nat) : List Nat → Nat
  | [] => 0
  | d :: r => if d = c then runLen c r + 1 else 0
/-- the text that tells the runs -/
def nextF : Nat → List Nat → List Nat
  | 0, _ => []
  | _ + 1, [] => []
  | n + 1, c :: r => (49 + runLen c r) :: c :: nextF n (r.drop (runLen c r))
def nextL (xs : List Nat) : List Nat := nextF xs.length xs
/-- no run is longer than nine -/
def runsOk : List Nat → Bool
  | [] => true
  | c :: r => decide (runLen c r ≤ 8) && runsOk r
theorem runLen_le (c : Nat) : ∀ xs : List Nat, runLen c xs ≤ xs.length
  | [] => Nat.le_refl _
  | d :: r => by
    unfold runLen
    have := runLen_le c r
    split <;> simp only [List.length_cons] <;> omega
theorem nextF_fuel : ∀ (n m : Nat) (xs : List Nat), xs.length ≤ n → xs.length ≤ m → nextF n xs = nextF m xs
  | 0, m, xs, h, _ => by
    have : xs = [] := List.length_eq_zero_iff.mp (by omega)
    subst this
    cases m <;> rfl
  | n + 1, 0, xs, _, h => by
    have : xs = [] := List.length_eq_zero_iff.mp (by omega)
    subst this
    rfl
  | n + 1, m + 1, [], _, _ => rfl
  | n + 1, m + 1, c :: r, h, h' => by
    unfold nextF
    simp only [List.length_cons] at h h'
    rw [nextF_fuel n m (r.drop (runLen c r)) (by rw [List.length_drop]; omega) (by rw [List.length_drop]; omega)]
theorem nextF_step (xs : List Nat) (a : Nat) (c : Nat) (h : xs.drop a = c :: xs.drop (a + 1)) (hl : a < xs.length) :
    nextF (xs.length - a) (xs.drop a) = (49 + runLen c (xs.drop (a + 1))) :: c :: nextF (xs.length - (a + 1 + runLen c (xs.drop (a + 1)))) (xs.drop (a + 1 + runLen c (xs.drop (a + 1)))) := by
  obtain ⟨k, hk⟩ : ∃ k, xs.length - a = k + 1 := ⟨xs.length - a - 1, by omega⟩
  have hr := runLen_le c (xs.drop (a + 1))
  rw [List.length_drop] at hr
  rw [hk, h, nextF]
  rw [List.drop_drop]
  rw [nextF_fuel k (xs.length - (a + 1 + runLen c (xs.drop (a + 1)))) _ (by rw [List.length_drop]; omega) (by rw [List.length_drop]; omega)]
theorem runsOk_drop : ∀ (a : Nat) (xs : List Nat), runsOk xs = true → runsOk (xs.drop a) = true
  | 0, _, h => h
  | _ + 1, [], _ => rfl
  | a + 1, _ :: r, h => by
    simp only [runsOk, Bool.and_eq_true] at h
    exact runsOk_drop a r h.2
theorem runsOk_at {xs : List Nat} {a c : Nat} (h : runsOk xs = true) (e : xs.drop a = c :: xs.drop (a + 1)) : runLen c (xs.drop (a + 1)) ≤ 8 := by
  have := runsOk_drop a xs h
  rw [e] at this
  simp only [runsOk, Bool.and_eq_true, decide_eq_true_eq] at this
  exact this.1
/-- the item behind a run's first k -/
theorem run_go (c : Nat) : ∀ (k : Nat) (r : List Nat), k ≤ runLen c r → ((r.drop k).take 1 = [c] ↔ k < runLen c r)
  | 0, [], _ => by simp [runLen]
  | 0, d :: r, _ => by
    by_cases h : d = c
    · simp [runLen, h]
    · simp [runLen, h]
  | k + 1, [], h => by simp [runLen] at h
  | k + 1, d :: r, h => by
    unfold runLen at h ⊢
    by_cases hd : d = c
    · rw [if_pos hd] at h ⊢
      have := run_go c k r (by omega)
      simp only [List.drop_succ_cons]
      rw [this]; omega
    · rw [if_neg hd] at h; omega
theorem drop_cons {xs : List Nat} {a : Nat} (h : a < xs.length) : ∃ c, xs.drop a = c :: xs.drop (a + 1) := ⟨xs[a], List.drop_eq_getElem_cons h⟩
theorem one_ne (c : Nat) : ((⟨#[c]⟩ : Str) == Str.ofString "") = false := by
  rw [show Str.ofString "" = (⟨#[]⟩ : Str) by decide, beq_eq_false_iff_ne]
  simp
theorem string_claim (l : Addr) (n : Nat) (c : Nat) (i : Int) (t t1 : Tok) (h0 : 0 ≤ i) (h1 : i ≤ 255) :
    Claim w mean mg mb 2 149 [(l, lst [.int i t, .str ⟨#[c]⟩ t1] n)] [.none, .ref l] (fun t' => .str ⟨(List.replicate i.toNat c).toArray⟩ t') := by
  unfold Claim
  k_fill
  intro dp un gd cn cs a ccd cl outer A₀ base h₀ L m news s Q E B F X N T hk hd hu hn hret
  replace N := news_need N hn
  simp only [List.cons_append, List.nil_append] at N
  have e : Txt.mul (Txt.item ⟨#[c]⟩ 0) i = ⟨(List.replicate i.toNat c).toArray⟩ := mul_one_str c i
  refine wpAny_call ?_
  k_dflt cell_enter
  k_steps
  all_goals (first | exact absurd (show ((⟨#[c]⟩ : Str) == Str.ofString "") = true by assumption) (by rw [one_ne]; decide) | rw [e])
  all_goals first | exact hret _ _ _ (by assumption) (cb_drop (by assumption) (by kcj_all)) | (exfalso; omega)
local macro_rules | `(tactic| walk_at "KswEnd") => `(tactic| refine halt ?_)
abbrev nextS (x : Str) : Str := ⟨(nextL x.cps.toList).toArray⟩
theorem slice_one {x : Str} {a : Nat} {i j : Int} {c : Nat} (h : x.cps.toList.drop a = c :: x.cps.toList.drop (a + 1)) (hi : i = a) (hj : j = i + 1) : Txt.slice x (some i) (some j) = ⟨#[c]⟩ := by
  subst hj
  subst hi
  rw [slice_ss x _ _ (by omega) (by omega)]
  have e : (((a : Int) + 1 - (a : Int)).toNat) = 1 := by omega
  rw [e, Int.toNat_natCast, h]
  rfl
theorem slice_run {x : Str} {a k : Nat} {i j : Int} {c : Nat} (hk : k ≤ runLen c (x.cps.toList.drop (a + 1))) (hi : i = (a + 1 + k : Nat)) (hj : j = i + 1) : (Txt.slice x (some i) (some j) == (⟨#[c]⟩ : Str)) = decide (k < runLen c (x.cps.toList.drop (a + 1))) := by
  subst hj
  subst hi
  rw [slice_ss x _ _ (by omega) (by omega)]
  have e : ((((a + 1 + k : Nat) : Int) + 1 - ((a + 1 + k : Nat) : Int)).toNat) = 1 := by omega
  rw [e, Int.toNat_natCast]
  have h := run_go c k _ hk
  rw [List.drop_drop] at h
  rw [Bool.eq_iff_iff, beq_iff_eq, decide_eq_true_eq, ← h, Str.mk.injEq]
  constructor
  · intro h1
    have := congrArg Array.toList h1
    simpa using this
  · intro h1
    rw [h1]
theorem nextF_len : ∀ (n : Nat) (xs : List Nat), (nextF n xs).length ≤ 2 * n
  | 0, _ => Nat.le_refl _
  | n + 1, [] => Nat.zero_le _
  | n + 1, c :: r => by
    have := nextF_len n (r.drop (runLen c r))
    simp only [nextF, List.length_cons]
    omega
theorem told_run (k c : Nat) (f : Str) : (f ++ (Txt.slice (⟨#[32, (48 + ((k : Int) + 1)).toNat]⟩ : Str) (some 1) none ++ (⟨#[c]⟩ : Str))) = ⟨(f.cps.toList ++ [49 + k, c]).toArray⟩ := by
  rw [slice_from _ _ (by omega)]
  have e : (48 + ((k : Int) + 1)).toNat = 49 + k := by omega
  rw [e]
  obtain ⟨f⟩ := f
  apply Str.ext'
  simp [Str.cps_append]
theorem next_claim (x : Str) (t : Tok) (hl : x.length ≤ 20) (hr : runsOk x.cps.toList = true) : Claim w mean mg mb 4 170 [] [.str x t] (fun t' => .str (nextS x) t') := by
  unfold Claim
  k_fill
  intro dp un gd cn cs a ccd cl outer A₀ base h₀ L m news s Q E B F X N T hk hd hu hn hret
  have hxl : x.cps.toList.length = x.length := by simp [Str.length]
  refine wpAny_call ?_
  k_dflt cell_enter
  k_steps
  unfold Halt
  rename Fr _ _ _ _ => F1
  rename News _ _ _ _ => N1
  refine' ksw_while (σ := Nat × Str × Tok × Tok) (fun _ => news) (fun c => [(Str.ofString "found", .str c.2.1 c.2.2.1), (Str.ofString "at", .int (c.1 + 1) c.2.2.2)]) (fun _ => True) [Str.ofString "sign", Str.ofString "many"] (fun c => c.1 ≤ x.length ∧ c.2.1.cps.toList ++ nextF (x.length - c.1) (x.cps.toList.drop c.1) = nextL x.cps.toList) (fun c => x.length - c.1) (0, Str.ofString "", ?t1, ?t2) F1 (fun p hp => N1 p (List.mem_cons_of_mem _ hp)) trivial ?kk ?kp ?_
  (case kk => kst_all)
  (case kp => exact ⟨Nat.zero_le _, by rfl⟩)
  rintro ⟨a, f, t1, t2⟩ u h tk _ ⟨ha, hinv⟩ F2 N2
  clear F1 N1
  dsimp only at ha hinv F2
  k_steps
  · unfold Halt
    have ha' : a < x.cps.toList.length := by omega
    obtain ⟨c, hc⟩ := drop_cons ha'
    have hru := runsOk_at hr hc
    rename Fr _ _ _ _ => F1
    rename News _ _ _ _ => N1
    rw [slice_one hc (by omega) rfl] at F1
    refine' ksw_while (σ := Nat × Tok) (fun _ => news) (fun c => [(Str.ofString "many", .int (c.1 + 1) c.2)]) (fun _ => True) [] (fun z => z.1 ≤ runLen c (x.cps.toList.drop (a + 1))) (fun z => runLen c (x.cps.toList.drop (a + 1)) - z.1) (0, ?t5) F1 (fun p hp => N1 p (List.mem_cons_of_mem _ (List.mem_cons_of_mem _ hp))) trivial ?kk ?kp ?_
    (case kk => kst_all)
    (case kp => exact Nat.zero_le _)
    rintro ⟨k, t3⟩ u2 h2 tk2 _ hk' F3 N3
    clear F1 N1
    dsimp only at hk' F3
    have hf : f.length + (nextF (x.length - a) (List.drop a x.cps.toList)).length = (nextL x.cps.toList).length := by
      have := congrArg List.length hinv
      rw [List.length_append, Array.length_toList] at this
      exact this
    have hnl : (nextL x.cps.toList).length ≤ 2 * x.cps.toList.length := nextF_len _ _
    have g1 : (Txt.slice (⟨#[32, (48 + ((k : Int) + 1)).toNat]⟩ : Str) (some 1) none).length + (⟨#[c]⟩ : Str).length ≤ 255 := by
      rw [slice_from _ _ (by omega)]
      simp [Str.length]
    have g2 : f.length + (Txt.slice (⟨#[32, (48 + ((k : Int) + 1)).toNat]⟩ : Str) (some 1) none ++ (⟨#[c]⟩ : Str)).length ≤ 255 := by
      rw [Str.length_append, slice_from _ _ (by omega)]
      simp [Str.length] at hf ⊢
      omega
    k_steps
    · unfold Halt
      rename (_ == _) = true => hb
      rw [slice_run hk' (by omega) rfl] at hb
      have hlt := of_decide_eq_true hb
      rename Fr _ _ _ _ => F8
      rename News _ _ _ _ => N8
      have e : (k : Int) + 1 + 1 = ((k + 1 : Nat) : Int) + 1 := by omega
      rw [e] at F8
      refine' ksw_end (k + 1, ?t6) F8 N8 ?q1 trivial ?q2 ?q3 ?q4 ?q5
      (case q1 => kst_in)
      (case q2 => kst_all)
      (case q3 =>
        intro z z2 z3
        have n1 : z ≠ Str.ofString "many" := z2 _ (.head _)
        simp only [kstB, n1, if_false, List.contains_nil, Bool.false_eq_true])
      (case q4 => (dsimp only; omega))
      (case q5 => (dsimp only; omega))
    · unfold Halt
      rename (_ == _) = false => hb
      rw [slice_run hk' (by omega) rfl] at hb
      have hle := of_decide_eq_false hb
      have hrl : runLen c (List.drop (a + 1) x.cps.toList) = k := by omega
      have hkl := runLen_le c (List.drop (a + 1) x.cps.toList)
      rw [List.length_drop] at hkl
      have hst := nextF_step _ a c hc ha'
      rw [hrl, hxl] at hst
      rename Fr _ _ _ _ => F8
      rename News _ _ _ _ => N8
      have e : (a : Int) + 1 + ((k : Int) + 1) = ((a + 1 + k : Nat) : Int) + 1 := by omega
      rw [e, told_run] at F8
      refine' ksw_end (a + 1 + k, ⟨(f.cps.toList ++ [49 + k, c]).toArray⟩, ?t7, ?t8) F8 N8 ?r1 trivial ?r2 ?r3 ?r4 ?r5
      (case r1 => kst_in)
      (case r2 => kst_all)
      (case r3 =>
        intro z z2 z3
        have n1 : z ≠ Str.ofString "found" := z2 _ (.head _)
        have n2 : z ≠ Str.ofString "at" := z2 _ (.tail _ (.head _))
        have n0 := z3
        simp only [List.contains_cons, List.contains_nil, Bool.or_false, Bool.or_eq_false_iff, beq_eq_false_iff_ne, ne_eq] at z3
        simp only [kstB, n0, n1, n2, z3.1, z3.2, if_false, List.contains_nil, Bool.false_eq_true])
      (case r4 =>
        dsimp only
        refine ⟨by omega, ?_⟩
        rw [← hinv, hst]
        simp)
      (case r5 => (dsimp only; omega))
  ·
    have e : f = nextS x := by
      have h0 : x.length - a = 0 := by omega
      rw [h0] at hinv
      obtain ⟨⟨f⟩⟩ := f
      simp [nextF] at hinv
      simp [nextS, ← hinv]
    rw [e]
    exact hret _ _ _ (by assumption) (by assumption)
local macro_rules | `(tactic| walk_at "call ref") => `(tactic| (k_here; (with_reducible show wpAny _ _ (call (Value.ref 170) _) _ _ _); k_dflt (refine' use (next_claim _ _ ?h1 ?h2) ?k1 ?k2 ?k3 ?k4 ?k5 ?k6 ?k7 ?k8 ?k9 ?_; (case k1 => k_asm); (case k2 => k_asm); (case k3 => k_asm); (case k4 => k_asm); (case k5 => k_asm); (case k6 => first | exact rfl | assumption); (case k9 => first | exact List.forall_mem_nil _ | (refine List.forall_mem_cons.mpr ⟨?n1, ?n2⟩; (case n1 => k_mem); (case n2 => exact List.forall_mem_nil _))); (case k7 => ktr_room); (case k8 => ktr_units); (case h1 => (first | assumption | omega | l_fact)); (case h2 => assumption); k_whole); intro t9 h9 tk9 F9 N9; (try dsimp only); (try k_fold); (try k_sweep)))
structure HaltMark : Prop where
  mark :: (one : True)
theorem haltMark : HaltMark := ⟨trivial⟩
local macro_rules | `(tactic| walk_at "pyIter ref") => `(tactic| ((rename HaltMark => hHalt9); refine halt ?_))
local macro_rules | `(tactic| walk_at "InvEndN") => `(tactic| refine halt ?_)
/-- what a loop by a range keeps between its turns: the ledger and the named names by a letter, the stored names left open, all else as it was -/
def Sk {σ : Type} (Led : σ → List (Addr × Obj)) (ps : σ → List (Str × Value)) (x : Str) (stored : List Str) (m₀ : Str → Option Value) (P : Nat → σ → Prop) (i : Nat) (m : Str → Option Value) (nx : List (Addr × Obj)) : Prop :=
  ∃ c : σ, nx = Led c ∧ (∀ p ∈ ps c, m p.1 = some p.2) ∧ (∀ z, z ≠ x → (∀ p ∈ ps c, z ≠ p.1) → stored.contains z = false → m z = m₀ z) ∧ P i c
theorem range_loop {prog : Program} {A : Around} {E : Value → Shared → Prop} {s : Shared} {env : Env} {h₀ : Heap} {x : Str} {body : List Stmt} {Q : Flow → Shared → Prop}
    {σ : Type} {r : Addr} {a₀ b₀ d₀ : Int} {t₀ u₀ v₀ : Tok} {n : Nat} {m₀ : Str → Option Value} (Led : σ → List (Addr × Obj)) (ps : σ → List (Str × Value)) (stored : List Str) (P : Nat → σ → Prop) (c₀ : σ)
    (hh : A.handled = none) (hr : IsRange s.heap r a₀ b₀ d₀ t₀ u₀ v₀) (hsmall : Builtin.Range.small a₀ b₀ d₀ = true) (hn : Builtin.Range.rangeSize a₀ b₀ d₀ = (n : Int)) (F : Fr h₀ env.locals s.heap m₀) (N : News h₀ env.locals s.heap (Led c₀)) (hk : ∀ p ∈ ps c₀, m₀ p.1 = some p.2) (hp : P 0 c₀)
    (turn : ∀ (c : σ) (i : Nat) t (u : Str → Option Value) h tk own, i < n → OwnOff own ((Led c₀).map (·.1)) → P i c →
      Fr h₀ env.locals h (fun y => if y = x then some (.int (a₀ + (i : Int) * d₀) t) else kstB (fun z => if stored.contains z then u z else m₀ z) (ps c) y) → News h₀ env.locals h (Led c ++ own) →
      wpAny (model prog w) A (execs body env) (InvPostN h₀ env.locals (Sk Led ps x stored m₀ P (i + 1)) own ((Led c₀).map (·.1)) { s with heap := h, toks := tk } Q) E { s with heap := h, toks := tk })
    (done : ∀ (c : σ) (u : Str → Option Value) h tk, P n c → Fr h₀ env.locals h (fun y => if y = x then u y else kstB (fun z => if stored.contains z then u z else m₀ z) (ps c) y) → News h₀ env.locals h (Led c) → Q .next { s with heap := h, toks := tk }) :
    wpAny (model prog w) A (pyIter (.ref r)) (fun it s₂ => LoopAtV prog w A h₀ env x body Q E it s₂) E s := by
  refine wpAny_pyIter_range hr hsmall ?_
  refine loop_invN (fun i m nx => Sk Led ps x stored m₀ P i m nx) (Walks.range (prog := prog) (w := w) hh s.heap.objs.size a₀ d₀ n) ?_ ?_ ?_ ?_ (by show IsRangeIter _ _ _ _ _; rw [hn]; simpa using Heap.get?_push_size _ rfl) (F.push _) (fun p hp => ⟨Heap.get?_push_of_some _ (N p hp).1, (N p hp).2⟩) ⟨c₀, rfl, hk, fun _ _ _ _ => rfl, hp⟩ ?_ ?_
  · intro hm
    exact absurd F.ns.lt ((List.mem_singleton.mp hm) ▸ Nat.lt_irrefl _)
  · intro b hb
    rw [List.mem_singleton.mp hb]
    exact next_is_new F
  · intro p hp hI
    exact absurd (Heap.lt_size (N p hp).1) ((List.mem_singleton.mp hI) ▸ Nat.lt_irrefl _)
  · intro p hp hI
    exact absurd (Heap.lt_size (N p hp).1) ((List.mem_singleton.mp hI) ▸ Nat.lt_irrefl _)
  · rintro i v m₁ nx h tk own hi ⟨t, rfl⟩ _ hoff ⟨c, rfl, h1, h2, hp'⟩ F₁ N₁
    exact turn c i t m₁ h tk own hi hoff hp' (kst_fr h1 h2 F₁) N₁
  · rintro m₁ nx h tk ⟨c, rfl, h1, h2, hp'⟩ F₁ N₁
    exact done c m₁ h tk hp' (kst_frOut h1 h2 F₁) N₁
/-- the text that the pairs tell -/
def backF : List Nat → List Nat
  | a :: c :: r => List.replicate (a - 48) c ++ backF r
  | _ => []
/-- the text is pairs of a figure and a sign -/
def pairsOk : List Nat → Bool
  | [] => true
  | [_] => false
  | a :: _ :: r => decide (48 ≤ a) && decide (a ≤ 57) && pairsOk r
theorem backF_len : ∀ (xs : List Nat), pairsOk xs = true → 2 * (backF xs).length ≤ 9 * xs.length
  | [], _ => Nat.zero_le _
  | [_], _ => Nat.zero_le _
  | a :: c :: r, h => by
    simp only [pairsOk, Bool.and_eq_true, decide_eq_true_eq] at h
    have := backF_len r h.2
    simp only [backF, List.length_append, List.length_replicate, List.length_cons]
    omega
theorem pairsOk_even : ∀ (xs : List Nat), pairsOk xs = true → xs.length % 2 = 0
  | [], _ => rfl
  | [_], h => nomatch h
  | a :: c :: r, h => by
    simp only [pairsOk, Bool.and_eq_true, decide_eq_true_eq] at h
    have := pairsOk_even r h.2
    simp only [List.length_cons]
    omega
theorem pairsOk_at : ∀ (i : Nat) (xs : List Nat), pairsOk xs = true → 2 * i < xs.length → pairsOk (xs.drop (2 * (i + 1))) = true ∧ 48 ≤ xs.getD (2 * i) 0 ∧ xs.getD (2 * i) 0 ≤ 57 ∧ backF (xs.drop (2 * i)) = List.replicate (xs.getD (2 * i) 0 - 48) (xs.getD (2 * i + 1) 0) ++ backF (xs.drop (2 * (i + 1)))
  | _, [], _, h => nomatch h
  | _, [_], h, _ => nomatch h
  | 0, a :: c :: r, h, _ => by
    simp only [pairsOk, Bool.and_eq_true, decide_eq_true_eq] at h
    exact ⟨h.2, h.1.1, h.1.2, rfl⟩
  | i + 1, a :: c :: r, h, hl => by
    simp only [pairsOk, Bool.and_eq_true, decide_eq_true_eq] at h
    simp only [List.length_cons] at hl
    exact pairsOk_at i r h.2 (by omega)
theorem slice_get {x : Str} {i j : Int} (h0 : 0 ≤ i) (h1 : i < x.length) (hj : j = i + 1) : Txt.slice x (some i) (some j) = ⟨#[x.cps.toList.getD i.toNat 0]⟩ := by
  have hx : x.cps.toList.length = x.length := by simp [Str.length]
  have hl : i.toNat < x.cps.toList.length := by omega
  refine slice_one (a := i.toNat) ?_ (by omega) hj
  rw [List.drop_eq_getElem_cons hl]
  rw [List.getD_eq_getElem?_getD, List.getElem?_eq_getElem hl]
  rfl
theorem mid1_claim (l : Addr) (n : Nat) (x : Str) (i : Int) (t t1 t2 : Tok) (hi : 1 ≤ i) (hi2 : i ≤ x.length) (hx : x.length ≤ 255) :
    Claim w mean mg mb 3 142 [(l, lst [.str x t, .int i t1, .int 1 t2] n)] [.none, .ref l] (fun t' => .str ⟨#[x.cps.toList.getD (i - 1).toNat 0]⟩ t') := by
  have h := mid3_claim (w := w) (mean := mean) (mg := mg) (mb := mb) l n x i 1 t t1 t2 hi (by omega) (by omega) (by omega) hx
  rw [slice_get (by omega) (by omega) rfl] at h
  exact h
local macro_rules | `(tactic| walk_at "call ref") => `(tactic| (k_here; (with_reducible show wpAny _ _ (call (Value.ref 142) _) _ _ _); k_dflt (refine' use (mid1_claim _ _ _ _ _ _ _ ?h1 ?h2 ?h3) ?k1 ?k2 ?k3 ?k4 ?k5 ?k6 ?k7 ?k8 ?k9 ?_; (case k1 => k_asm); (case k2 => k_asm); (case k3 => k_asm); (case k4 => k_asm); (case k5 => k_asm); (case k6 => first | exact rfl | assumption); (case k9 => first | exact List.forall_mem_nil _ | (refine List.forall_mem_cons.mpr ⟨?n1, ?n2⟩; (case n1 => k_mem); (case n2 => exact List.forall_mem_nil _))); (case k7 => ktr_room); (case k8 => ktr_units); (case h1 => (first | assumption | omega | l_fact)); (case h2 => (first | assumption | omega | l_fact)); (case h3 => (first | assumption | omega | l_fact)); k_whole); intro t9 h9 tk9 F9 N9; (try dsimp only); (try k_fold); (try k_sweep)))
local macro_rules | `(tactic| walk_at "call ref") => `(tactic| (k_here; (with_reducible show wpAny _ _ (call (Value.ref 149) _) _ _ _); k_dflt (refine' use (string_claim _ _ _ _ _ _ ?h1 ?h2) ?k1 ?k2 ?k3 ?k4 ?k5 ?k6 ?k7 ?k8 ?k9 ?_; (case k1 => k_asm); (case k2 => k_asm); (case k3 => k_asm); (case k4 => k_asm); (case k5 => k_asm); (case k6 => first | exact rfl | assumption); (case k9 => first | exact List.forall_mem_nil _ | (refine List.forall_mem_cons.mpr ⟨?n1, ?n2⟩; (case n1 => k_mem); (case n2 => exact List.forall_mem_nil _))); (case k7 => ktr_room); (case k8 => ktr_units); (case h1 => (first | assumption | omega | l_fact)); (case h2 => (first | assumption | omega | l_fact)); k_whole); intro t9 h9 tk9 F9 N9; (try dsimp only); (try k_fold); (try k_sweep)))
theorem size_two (n : Nat) (h : n % 2 = 0) : Builtin.Range.rangeSize 1 n 2 = ((n / 2 : Nat) : Int) := by
  unfold Builtin.Range.rangeSize
  simp only [show (2 : Int) > 0 by decide, if_true]
  split <;> omega
theorem fits_small (k : Int) (h : -5000 ≤ k) (h' : k ≤ 5000) : Builtin.Range.rangeFitsLong k = true := by
  unfold Builtin.Range.rangeFitsLong
  simp only [Bool.and_eq_true, decide_eq_true_eq]
  omega
theorem small_two (n : Nat) (h : n % 2 = 0) (h1 : n ≤ 1000) : Builtin.Range.small 1 n 2 = true := by
  unfold Builtin.Range.small
  rw [size_two n h, fits_small 1 (by omega) (by omega), fits_small n (by omega) (by omega), fits_small 2 (by omega) (by omega), fits_small ((n / 2 : Nat) : Int) (by omega) (by omega), if_pos (by decide), fits_small _ (by omega) (by omega)]
  simp
theorem told_pair (f : Str) (a c : Nat) : f ++ (⟨(List.replicate ((a : Int) - 48).toNat c).toArray⟩ : Str) = ⟨(f.cps.toList ++ List.replicate (a - 48) c).toArray⟩ := by
  have e : ((a : Int) - 48).toNat = a - 48 := by omega
  rw [e]
  obtain ⟨f⟩ := f
  apply Str.ext'
  simp [Str.cps_append]
theorem back_claim (x : Str) (t : Tok) (hl : x.length ≤ 40) (hp : pairsOk x.cps.toList = true) : Claim w mean mg mb 4 177 [] [.str x t] (fun t' => .str ⟨(backF x.cps.toList).toArray⟩ t') := by
  unfold Claim
  k_fill
  intro dp un gd cn cs a ccd cl outer A₀ base h₀ L m news s Q E B F X N T hk hd hu hn hret
  have hxl : x.cps.toList.length = x.length := by simp [Str.length]
  have hev := pairsOk_even _ hp
  have hbl := backF_len _ hp
  have hMark := haltMark
  refine wpAny_call ?_
  k_dflt cell_enter
  k_steps
  unfold Halt
  rename Fr _ _ _ _ => F1
  rename News _ _ _ _ => N1
  rename IsRange _ _ _ _ _ _ _ _ => R1
  refine' range_loop (σ := Str × Tok) (n := x.length / 2) (fun _ => news) (fun c => [(Str.ofString "found", .str c.1 c.2)]) [Str.ofString "many"] (fun i c => pairsOk (x.cps.toList.drop (2 * i)) = true ∧ c.1.cps.toList ++ backF (x.cps.toList.drop (2 * i)) = backF x.cps.toList) (Str.ofString "", ?t1) rfl R1 ?k1 ?k2 F1 N1 ?k3 ⟨hp, rfl⟩ ?_ ?_
  (case k1 => exact small_two _ (by omega) (by omega))
  (case k2 => exact size_two _ (by omega))
  (case k3 => kst_all)
  · rintro ⟨f, t1⟩ i t2 u h tk own hi hoff ⟨hp1, hinv⟩ F2 N2
    clear F1 N1
    have hi2 : 2 * i < x.cps.toList.length := by omega
    have hat := pairsOk_at i _ hp hi2
    dsimp only at hinv F2 N2
    have e1 : (1 + (i : Int) * 2 - 1).toNat = 2 * i := by omega
    have e2 : (1 + (i : Int) * 2 + 1 - 1).toNat = 2 * i + 1 := by omega
    have ha1 : 48 ≤ x.cps.toList.getD (1 + (i : Int) * 2 - 1).toNat 0 := by rw [e1]; exact hat.2.1
    have ha2 : x.cps.toList.getD (1 + (i : Int) * 2 - 1).toNat 0 ≤ 57 := by rw [e1]; exact hat.2.2.1
    have hfl : f.length + (backF (List.drop (2 * i) x.cps.toList)).length = (backF x.cps.toList).length := by
      have := congrArg List.length hinv
      rw [List.length_append, Array.length_toList] at this
      exact this
    rw [hat.2.2.2, List.length_append, List.length_replicate] at hfl
    have g1 : f.length + (⟨(List.replicate ((x.cps.toList.getD (1 + (i : Int) * 2 - 1).toNat 0 : Int) - 48).toNat (x.cps.toList.getD (1 + (i : Int) * 2 + 1 - 1).toNat 0)).toArray⟩ : Str).length ≤ 255 := by
      rw [e1, e2]
      simp only [Str.length, List.size_toArray, List.length_replicate] at hfl hxl hl ⊢
      omega
    k_steps
    unfold Halt
    rename Fr _ _ _ _ => F8
    rename News _ _ _ _ => N8
    rw [told_pair, e1, e2] at F8
    refine' InvEndN.intro F8 N8 ⟨(⟨(f.cps.toList ++ List.replicate (x.cps.toList.getD (2 * i) 0 - 48) (x.cps.toList.getD (2 * i + 1) 0)).toArray⟩, ?t5), rfl, ?q1, ?q2, ?q3⟩ rfl ?q4 ?q5
    (case q1 => kst_all)
    (case q2 =>
      intro z z1 z2 z3
      have n1 : z ≠ Str.ofString "found" := z2 _ (.head _)
      have n0 := z3
      simp only [List.contains_cons, List.contains_nil, Bool.or_false, Bool.or_eq_false_iff, beq_eq_false_iff_ne, ne_eq] at z3
      simp only [kstB, z1, n1, n0, z3, if_false, Bool.false_eq_true])
    (case q3 => exact ⟨hat.1, by rw [← hinv, hat.2.2.2]; simp⟩)
    (case q4 => kst_in)
    (case q5 => first | (intro p hp; kst_mem) | kst_anyIn)
  · rintro ⟨f, t1⟩ u h tk ⟨hp1, hinv⟩ F2 N2
    k_steps
    have e : f = ⟨(backF x.cps.toList).toArray⟩ := by
      have h0 : List.drop (2 * (x.length / 2)) x.cps.toList = [] := List.drop_of_length_le (by omega)
      rw [h0] at hinv
      obtain ⟨⟨f⟩⟩ := f
      simp [backF] at hinv
      simp [← hinv]
    rw [e]
    exact hret _ _ _ (by assumption) (by assumption)
local macro_rules | `(tactic| walk_at "call ref") => `(tactic| (k_here; (with_reducible show wpAny _ _ (call (Value.ref 177) _) _ _ _); k_dflt (refine' use (back_claim _ _ ?h1 ?h2) ?k1 ?k2 ?k3 ?k4 ?k5 ?k6 ?k7 ?k8 ?k9 ?_; (case k1 => k_asm); (case k2 => k_asm); (case k3 => k_asm); (case k4 => k_asm); (case k5 => k_asm); (case k6 => first | exact rfl | assumption); (case k9 => first | exact List.forall_mem_nil _ | (refine List.forall_mem_cons.mpr ⟨?n1, ?n2⟩; (case n1 => k_mem); (case n2 => exact List.forall_mem_nil _))); (case k7 => ktr_room); (case k8 => ktr_units); (case h1 => (first | assumption | omega | l_fact)); (case h2 => assumption); k_whole); intro t9 h9 tk9 F9 N9; (try dsimp only); (try k_fold); (try k_sweep)))
theorem draw_claim (b sl : Addr) (n n2 : Nat) (vs : List Value) (ns : List Int) (spot below : Int) (t t0 : Tok) (hsl : sl ≠ b) (hi : IntsAre vs ns) (hlen : ns.length ≤ 63) (hs0 : 0 ≤ spot) (hs1 : spot ≤ 100) (hb0 : 1 ≤ below) (hb1 : below ≤ 1000) :
    ∀ (dp un : Nat) (gd : Option (List Code)) (cn : Str) (cs : Scope) (a : Addr) (ccd : Value) (cl : List (Str × Addr)) (outer : List Env) (A₀ : Around) (base h₀ : Heap) (L : Addr) (m : Str → Option Value) (news : List (Addr × Obj)) (s : Shared) (Q E : Value → Shared → Prop)
    (_ : OwnOff news [b]) (_ : Below A₀ base outer h₀) (_ : Fr h₀ L s.heap m) (_ : (hd.heap_39 w.params).In h₀) (_ : News h₀ L s.heap ((b, lst [.ref sl, .int spot t] n) :: (sl, listOf vs.toArray n2) :: news)) (_ : Top hd.view_39 (looseW hd.view_39 [Str.ofString "BasicError"]) mean mg mb h₀) (_ : cs.kind = .function)
    (_ : dp + 1 < recursionLimit) (_ : un + 8 * 1 < cLine)
    (_ : ∀ (r : Int) (t t' : Tok) (h' : Heap) (tk' : Nat), 0 ≤ r → r < below → Fr h₀ L h' m → News h₀ L h' ((b, lst [.ref sl, .int (spot + 1) t'] n) :: (sl, listOf vs.toArray n2) :: news) → Q (.int r t) { s with heap := h', toks := tk' }),
    wpAny (model PySem.Challenge.rw_xm0061_01.row.prog w) (ktrTop dp un gd cn cs L a ccd cl outer) (call (.ref 163) [.ref b, .int below t0]) Q E s := by
  k_fill
  intro dp un gd cn cs a ccd cl outer A₀ base h₀ L m news s Q E hoff B F X N T hk hd hu hret
  have kM := kstMark
  refine wpAny_call ?_
  k_dflt cell_enter
  k_steps
  · refine hret _ _ _ _ _ ?_ ?_ (by assumption) (by assumption)
    · exact Int.fmod_nonneg_of_pos _ (by omega)
    · exact Int.fmod_lt_of_pos _ (by omega)
  · refine hret _ _ _ _ _ ?_ ?_ (by assumption) (by assumption)
    · exact Int.fmod_nonneg_of_pos _ (by omega)
    · exact Int.fmod_lt_of_pos _ (by omega)
local macro_rules | `(tactic| walk_at "call ref") => `(tactic| (k_here; (with_reducible show wpAny _ _ (call (Value.ref 163) _) _ _ _); refine halt ?_))
local macro_rules | `(tactic| walk_at "CompSrc") => `(tactic| refine halt ?_)
local macro_rules | `(tactic| walk_at "CompEnd") => `(tactic| refine halt ?_)
local macro_rules | `(tactic| walk_at "call builtin:str.join") => `(tactic| refine halt ?_)
theorem comp_all {prog : Program} {A : Around} {h₀ : Heap} {L : Addr} {m : Str → Option Value} {env : Env} {elt : Expr} {x : Str} {scope : Scope} {cl : List (Str × Addr)} {s : Shared} {S : List (Addr × Obj) → Prop} {P : Nat → Value → Prop} {Fin : List Value → List (Addr × Obj) → Prop}
    (J : List Value → List (Addr × Obj) → Prop) (tot : Nat)
    (step : ∀ i ys news, ys.length < tot → J ys news → ∀ v I oI C oC D m₂ h tk (E' : Value → Shared → Prop), P i v → LCg.NsObj oC m₂ → m₂ x = some v → Fr h₀ L h m → News h₀ L h ((I, oI) :: (C, oC) :: (D, LCg.lst ys) :: news) → LCg.Off3 I C D news → ((@Ne Nat I C) ∧ (@Ne Nat I D) ∧ (@Ne Nat C D)) →
      wpAny (model prog w) A (eval elt (compEnvC scope cl C env)) (LCg.CompEnd h₀ L m { s with heap := h, toks := tk } I oI C oC D (LCg.lst ys) S (fun y news' => J (ys ++ [y]) news')) E' { s with heap := h, toks := tk }) :
    ∀ (k i : Nat) (ys : List Value) (news : List (Addr × Obj)), ys.length + k = tot → J ys news → (∀ ys' news', ys'.length = tot → J ys' news' → Fin ys' news') → LCg.CompRest prog w A h₀ L m env elt x scope cl s S P Fin k i ys news
  | 0, _, ys, news, hk, hj, hf => hf ys news hk hj
  | k + 1, i, ys, news, hk, hj, hf => by
    intro v I oI C oC D m₂ h tk E' hP hC hx F N off ne
    refine wpAny_mono (step i ys news (by omega) hj v I oI C oC D m₂ h tk E' hP hC hx F N off ne) (fun y s₂ q => ?_) fun _ _ e => e
    obtain ⟨h', tk', news', e, F', N', off', hS, hj'⟩ := q
    exact ⟨h', tk', news', e, F', N', off', hS, comp_all J tot step k (i + 1) (ys ++ [y]) news' (by rw [List.length_append, List.length_singleton]; omega) hj' hf⟩
theorem draw_use {b sl : Addr} {n n2 : Nat} {vs : List Value} {ns : List Int} {spot below : Int} {t t0 : Tok} (rest l : List (Addr × Obj))
    {dp un : Nat} {gd : Option (List Code)} {cn : Str} {cs : Scope} {a : Addr} {ccd : Value} {cl : List (Str × Addr)} {outer : List Env} {A₀ : Around} {base h₀ : Heap} {L : Addr} {m : Str → Option Value} {s : Shared} {Q E : Value → Shared → Prop}
    (B : Below A₀ base outer h₀) (F : Fr h₀ L s.heap m) (X : (hd.heap_39 w.params).In h₀) (N : News h₀ L s.heap l) (T : Top hd.view_39 (looseW hd.view_39 [Str.ofString "BasicError"]) mean mg mb h₀) (hk : cs.kind = .function)
    (hr : dp + 1 < recursionLimit) (hu : un + 8 * 1 < cLine)
    (hi : IntsAre vs ns) (hlen : ns.length ≤ 63) (hs0 : 0 ≤ spot) (hs1 : spot ≤ 100) (hb0 : 1 ≤ below) (hb1 : below ≤ 1000)
    (hm : ∀ p ∈ ((b, lst [.ref sl, .int spot t] n) :: (sl, listOf vs.toArray n2) :: rest), p ∈ l) (hsl : sl ≠ b) (hoff : OwnOff rest [b])
    (ret : ∀ (r : Int) (t t' : Tok) (h' : Heap) (tk' : Nat), 0 ≤ r → r < below → Fr h₀ L h' m → News h₀ L h' ((b, lst [.ref sl, .int (spot + 1) t'] n) :: (sl, listOf vs.toArray n2) :: rest) → Q (.int r t) { s with heap := h', toks := tk' }) :
    wpAny (model PySem.Challenge.rw_xm0061_01.row.prog w) (ktrTop dp un gd cn cs L a ccd cl outer) (call (.ref 163) [.ref b, .int below t0]) Q E s :=
  draw_claim b sl n n2 vs ns spot below t t0 hsl hi hlen hs0 hs1 hb0 hb1 dp un gd cn cs a ccd cl outer A₀ base h₀ L m rest s Q E hoff B F X (fun p hp => N p (hm p hp)) T hk hr hu ret
/-- between the draws of the comprehension -/
def DrawJ (b sl : Addr) (n2 : Nat) (ws : List Value) (rest : List (Addr × Obj)) (ys : List Value) (nw : List (Addr × Obj)) : Prop :=
  ∃ (ss : List Str) (spot : Int) (t : Tok), StrsAre ys ss ∧ (∀ z ∈ ss, z ∈ ([⟨#[49]⟩, ⟨#[50]⟩, ⟨#[51]⟩] : List Str)) ∧ nw = (b, lst [.ref sl, .int spot t] 0) :: (sl, listOf ws.toArray n2) :: rest ∧ spot = 1 + (ys.length : Int)
theorem perm3 {p1 p2 p3 A B : Addr × Obj} {r : List (Addr × Obj)} : ∀ p ∈ A :: B :: p1 :: p2 :: p3 :: r, p ∈ p1 :: p2 :: p3 :: A :: B :: r := by
  intro p hp
  simp only [List.mem_cons] at hp ⊢
  rcases hp with h | h | h | h | h | h <;> simp only [h, true_or, or_true]
theorem perm3' {p1 p2 p3 A B : Addr × Obj} {r : List (Addr × Obj)} : ∀ p ∈ p1 :: p2 :: p3 :: A :: B :: r, p ∈ A :: B :: p1 :: p2 :: p3 :: r := by
  intro p hp
  simp only [List.mem_cons] at hp ⊢
  rcases hp with h | h | h | h | h | h <;> simp only [h, true_or, or_true]
theorem item_figure (r : Int) (h0 : 0 ≤ r) (h1 : r < 3) : Txt.item (Str.ofString "123") r ∈ ([⟨#[49]⟩, ⟨#[50]⟩, ⟨#[51]⟩] : List Str) := by
  obtain rfl | rfl | rfl : r = 0 ∨ r = 1 ∨ r = 2 := by omega
  all_goals decide +kernel
theorem comp_allT {prog : Program} {A : Around} {h₀ : Heap} {L : Addr} {m : Str → Option Value} {env : Env} {ct elt : Expr} {x : Str} {scope : Scope} {cl : List (Str × Addr)} {s : Shared} {S : List (Addr × Obj) → Prop} {P : Nat → Value → Prop} {Fin : List Value → List (Addr × Obj) → Prop}
    (J : Nat → List Value → List (Addr × Obj) → Prop) (tot : Nat)
    (step : ∀ i ys news, i < tot → J i ys news → ∀ v I oI C oC D m₂ h tk (E' : Value → Shared → Prop), P i v → LCg.NsObj oC m₂ → m₂ x = some v → Fr h₀ L h m → News h₀ L h ((I, oI) :: (C, oC) :: (D, LCg.lst ys) :: news) → LCg.Off3 I C D news → ((@Ne Nat I C) ∧ (@Ne Nat I D) ∧ (@Ne Nat C D)) →
      wpAny (model prog w) A (isTrue ct (compEnvC scope cl C env) (eval ct (compEnvC scope cl C env))) (fun ok s' => if ok = true then
        wpAny (model prog w) A (eval elt (compEnvC scope cl C env)) (LCg.CompEnd h₀ L m { s with heap := h, toks := tk } I oI C oC D (LCg.lst ys) S (fun y news' => J (i + 1) (ys ++ [y]) news')) E' s'
        else LCg.CompEnd h₀ L m { s with heap := h, toks := tk } I oI C oC D (LCg.lst ys) S (fun _ news' => J (i + 1) ys news') Value.none s') E' { s with heap := h, toks := tk }) :
    ∀ (k i : Nat) (ys : List Value) (news : List (Addr × Obj)), i + k = tot → J i ys news → (∀ ys' news', J tot ys' news' → Fin ys' news') → LCt.CompRestT prog w A h₀ L m env ct elt x scope cl s S P Fin k i ys news
  | 0, i, ys, news, hk, hj, hf => by
    have e : i = tot := by omega
    subst e
    exact LCt.CompRestT.zero (hf ys news hj)
  | k + 1, i, ys, news, hk, hj, hf => by
    refine LCt.CompRestT.succ ?_
    intro v I oI C oC D m₂ h tk E' hP hC hx F N off ne
    refine wpAny_mono (step i ys news (by omega) hj v I oI C oC D m₂ h tk E' hP hC hx F N off ne) (fun ok s₂ q => ?_) fun _ _ e => e
    cases ok with
    | true =>
      simp only [if_true] at q ⊢
      refine wpAny_mono q (fun y s₃ q => ?_) fun _ _ e => e
      obtain ⟨h', tk', news', e, F', N', off', hS, hj'⟩ := q
      exact ⟨h', tk', news', e, F', N', off', hS, comp_allT J tot step k (i + 1) (ys ++ [y]) news' (by omega) hj' hf⟩
    | false =>
      simp only [Bool.false_eq_true, if_false] at q ⊢
      obtain ⟨h', tk', news', e, F', N', off', hS, hj'⟩ := q
      exact ⟨h', tk', news', e, F', N', off', hS, comp_allT J tot step k (i + 1) ys news' (by omega) hj' hf⟩
theorem cell_store {M : Model} {A : Around} {E : Value → Shared → Prop} {s : Shared} {h₀ : Heap} {L a : Addr} {m : Str → Option Value} {cn : Str} {cs : Scope} {ccd : Value} {cl : List (Str × Addr)}
    {x : Str} {v : Value} {Q : Unit → Shared → Prop} {l : List (Addr × Obj)} {c : Addr} {o : Obj} {v₀ : Option Value} (rest : List (Addr × Obj))
    (F : Fr h₀ L s.heap m) (N : News h₀ L s.heap l) (hc : cl.lookup x = some c) (hm : ∀ p ∈ (c, o) :: rest, p ∈ l) (hoff : ∀ p ∈ rest, p.1 ≠ c) (hd : o.data = .cell v₀)
    (h : ∀ h' o', Fr h₀ L h' m → News h₀ L h' ((c, o') :: rest) → o'.data = .cell (some v) → Q () { s with heap := h' })
    (hk : cs.kind = .function := by rfl) (hx : (envX cn cs L a ccd cl).kindOf x = some .cell := by rfl) : wpAny M A (storeName (envX cn cs L a ccd cl) x v) Q E s := by
  have N' : News h₀ L s.heap ([] ++ (c, o) :: rest) := fun p hp => N p (hm p hp)
  have hmem := N' (c, o) (List.mem_append_right _ (.head _))
  refine wpAny_storeName_cell hk hx hc ⟨o, hmem.1, hd⟩ fun h' hv hs => ?_
  obtain ⟨o', ho', hd'⟩ := hv
  refine h h' o' ⟨F.ns.sameBut hs (Ne.symm hmem.2.1), fun b ob e => (hs.2 b (fun q => ?_)).trans (F.keep b ob e), F.above⟩ (N'.setAt (fun _ h => nomatch h) hoff hs ho') hd'
  rw [q, hmem.2.2] at e; cases e
theorem perm4 {d A B c1 c2 : Addr × Obj} {own : List (Addr × Obj)} : ∀ p ∈ A :: B :: d :: c1 :: c2 :: own, p ∈ d :: ([A, B, c1, c2] ++ own) := by
  intro p hp
  simp only [List.mem_cons, List.cons_append, List.nil_append] at hp ⊢
  rcases hp with h | h | h | h | h | h <;> simp only [h, true_or, or_true]
theorem perm5 {d e A B c1 c2 : Addr × Obj} {own : List (Addr × Obj)} : ∀ p ∈ c1 :: A :: B :: c2 :: own, p ∈ e :: d :: ([A, B, c1, c2] ++ own) := by
  intro p hp
  simp only [List.mem_cons, List.cons_append, List.nil_append] at hp ⊢
  rcases hp with h | h | h | h | h <;> simp only [h, true_or, or_true]
theorem perm6 {A B c1 c2 : Addr × Obj} {own : List (Addr × Obj)} : ∀ p ∈ [A, B, c1, c2], p ∈ c1 :: A :: B :: c2 :: own := by
  intro p hp
  simp only [List.mem_cons, List.not_mem_nil, or_false] at hp ⊢
  rcases hp with h | h | h | h <;> simp only [h, true_or, or_true]
theorem perm7 {A B c1 c2 : Addr × Obj} {own : List (Addr × Obj)} : ∀ p ∈ own, p ∈ c1 :: A :: B :: c2 :: own := by
  intro p hp
  simp only [List.mem_cons]
  exact Or.inr (Or.inr (Or.inr (Or.inr hp)))
theorem perm8 {q1 q2 q3 d A B c1 c2 : Addr × Obj} {own : List (Addr × Obj)} : ∀ p ∈ c1 :: A :: B :: c2 :: own, p ∈ q1 :: q2 :: q3 :: A :: B :: d :: c1 :: c2 :: own := by
  intro p hp
  simp only [List.mem_cons] at hp ⊢
  rcases hp with h | h | h | h | h <;> simp only [h, true_or, or_true]
-- the plain law: the texts that the law reaches
def starts : List (List Nat) := ([49, 50, 51].map fun a => [a]) ++ ([49, 50, 51].flatMap fun a => [49, 50, 51].map fun b => [a, b]) ++ ([49, 50, 51].flatMap fun a => [49, 50, 51].flatMap fun b => [49, 50, 51].map fun c => [a, b, c])
def iterL : Nat → List Nat → List Nat
  | 0, xs => xs
  | n + 1, xs => nextL (iterL n xs)
-- a text that is parted between two unlike signs goes on part by part
theorem nextL_cons (c : Nat) (r : List Nat) : nextL (c :: r) = (49 + runLen c r) :: c :: nextL (r.drop (runLen c r)) := by
  show nextF (r.length + 1) (c :: r) = _
  rw [nextF]
  unfold nextL
  rw [nextF_fuel r.length _ (r.drop (runLen c r)) (by rw [List.length_drop]; omega) (Nat.le_refl _)]
theorem runLen_lt (c : Nat) : ∀ (l r : List Nat), runLen c l < l.length → runLen c (l ++ r) = runLen c l
  | [], _, h => nomatch h
  | d :: l, r, h => by
    unfold runLen at h ⊢
    rw [List.cons_append]
    by_cases hd : d = c
    · simp only [hd, if_true, List.length_cons] at h ⊢
      rw [runLen_lt c l r (by omega)]
    · simp only [if_neg hd]
theorem runLen_full (c : Nat) : ∀ (l r : List Nat), runLen c l = l.length → runLen c (l ++ r) = l.length + runLen c r
  | [], r, _ => by simp
  | d :: l, r, h => by
    by_cases hd : d = c
    · simp only [runLen, List.cons_append, hd, if_true, List.length_cons] at h ⊢
      rw [runLen_full c l r (by omega)]
      omega
    · simp only [runLen, if_neg hd, List.length_cons] at h
      omega
theorem last_full (c : Nat) : ∀ (l : List Nat), runLen c l = l.length → (c :: l).getLast? = some c
  | [], _ => rfl
  | d :: l, h => by
    by_cases hd : d = c
    · simp only [runLen, hd, if_true, List.length_cons] at h
      rw [List.getLast?_cons_cons, hd]
      exact last_full c l (by omega)
    · simp only [runLen, if_neg hd, List.length_cons] at h
      omega
theorem last_drop (d : Nat) : ∀ (k : Nat) (l : List Nat), k < l.length → (d :: l).getLast? = (l.drop k).getLast?
  | _, [], h => nomatch h
  | 0, e :: l, _ => by rw [List.getLast?_cons_cons, List.drop_zero]
  | k + 1, e :: l, h => by
    rw [List.getLast?_cons_cons, List.drop_succ_cons]
    exact last_drop e k l (by simpa using h)
theorem next_parts : ∀ (n : Nat) (l r : List Nat), l.length ≤ n → (∀ d, r.head? = some d → l.getLast? ≠ some d) → nextL (l ++ r) = nextL l ++ nextL r
  | _, [], _, _, _ => rfl
  | 0, _ :: _, _, h, _ => nomatch h
  | n + 1, c :: l, r, h, hne => by
    rw [List.cons_append, nextL_cons, nextL_cons]
    have hle := runLen_le c l
    by_cases hf : runLen c l = l.length
    · have h0 : runLen c r = 0 := by
        cases r with
        | nil => rfl
        | cons d r =>
          have := hne d rfl
          rw [last_full c l hf] at this
          unfold runLen
          rw [if_neg fun e => this (by rw [e])]
      rw [runLen_full c l r hf, h0, Nat.add_zero, hf, List.drop_left, List.drop_length]
      rfl
    · have hlt : runLen c l < l.length := by omega
      rw [runLen_lt c l r hlt, List.drop_append_of_le_length hle, next_parts n (l.drop (runLen c l)) r (by rw [List.length_drop]; simp only [List.length_cons] at h; omega) fun d hd => by rw [← last_drop c _ l hlt]; exact hne d hd]
      rfl
theorem runLen_take (c : Nat) : ∀ (a : Nat) (l : List Nat), runLen c (l.take a) ≤ runLen c l
  | 0, _ => Nat.zero_le _
  | _ + 1, [] => Nat.le_refl _
  | a + 1, d :: l => by
    simp only [List.take_succ_cons, runLen]
    have := runLen_take c a l
    split <;> omega
theorem runsOk_take : ∀ (a : Nat) (l : List Nat), runsOk l = true → runsOk (l.take a) = true
  | 0, _, _ => rfl
  | _ + 1, [], _ => rfl
  | a + 1, d :: l, h => by
    simp only [List.take_succ_cons, runsOk, Bool.and_eq_true, decide_eq_true_eq] at h ⊢
    exact ⟨Nat.le_trans (runLen_take d a l) h.1, runsOk_take a l h.2⟩
theorem next_cut {xs : List Nat} {a : Nat} (h1 : 1 ≤ a) (h2 : a < xs.length) (h : xs.getD a 0 ≠ xs.getD (a - 1) 0) : nextL (xs.take a) ++ nextL (xs.drop a) = nextL xs := by
  rw [← next_parts _ (xs.take a) (xs.drop a) (Nat.le_refl _), List.take_append_drop]
  intro d hd hl
  rw [List.head?_drop] at hd
  rw [List.getLast?_take, if_neg (by omega)] at hl
  rw [List.getD_eq_getElem?_getD, List.getD_eq_getElem?_getD, hd] at h
  rw [List.getElem?_eq_getElem (by omega)] at hl h
  simp only [Option.some_or, Option.some.injEq, Option.getD_some] at hl h
  exact h hl.symm
def turnOk (xs : List Nat) : Bool :=
  decide (1 ≤ xs.length) && decide (xs.length ≤ 20) && runsOk xs && pairsOk (nextL xs) && decide ((nextL xs).length ≤ 40) && backF (nextL xs) == xs && decide ((nextL xs).length % 2 = 0) && (nextL xs).all (fun c => c == 49 || c == 50 || c == 51)
theorem all_turns : (starts.all fun s => (List.range 5).all fun i => turnOk (iterL i s)) = true := by decide +kernel
def Turn (i : Nat) (x : Str) : Prop := ∃ s ∈ starts, x.cps.toList = iterL i s
theorem Turn.ok {i : Nat} {x : Str} (h : Turn i x) (hi : i < 5) : turnOk x.cps.toList = true := by
  obtain ⟨s, hs, e⟩ := h
  rw [e]
  exact List.all_eq_true.mp (List.all_eq_true.mp all_turns s hs) i (List.mem_range.mpr hi)
theorem Turn.next {i : Nat} {x : Str} (h : Turn i x) : Turn (i + 1) (nextS x) := by
  obtain ⟨s, hs, e⟩ := h
  exact ⟨s, hs, by rw [iterL, ← e]⟩
theorem turn_facts {x : Str} (h : turnOk x.cps.toList = true) : 1 ≤ x.length ∧ x.length ≤ 20 ∧ runsOk x.cps.toList = true ∧ pairsOk (nextS x).cps.toList = true ∧ (nextS x).length ≤ 40 ∧ (⟨(backF (nextS x).cps.toList).toArray⟩ : Str) = x ∧ (nextS x).length % 2 = 0 ∧ (∀ c ∈ (nextS x).cps.toList, c = 49 ∨ c = 50 ∨ c = 51) ∧
    ∀ a : Nat, 1 ≤ a → a < x.length → x.cps.toList.getD a 0 ≠ x.cps.toList.getD (a - 1) 0 → runsOk (x.cps.toList.take a) = true ∧ runsOk (x.cps.toList.drop a) = true ∧ nextL (x.cps.toList.take a) ++ nextL (x.cps.toList.drop a) = nextL x.cps.toList := by
  unfold turnOk at h
  simp only [Bool.and_eq_true, decide_eq_true_eq, beq_iff_eq] at h
  obtain ⟨⟨⟨⟨⟨⟨⟨h0, h1⟩, h2⟩, h3⟩, h4⟩, h5⟩, h6⟩, h7⟩ := h
  have hl : x.cps.toList.length = x.length := by simp [Str.length]
  refine ⟨by omega, by omega, h2, h3, by simpa [Str.length] using h4, ?_, by simpa [Str.length] using h6, ?_, ?_⟩
  · show (⟨(backF (nextL x.cps.toList)).toArray⟩ : Str) = x
    rw [h5]
  · intro c hc
    have := List.all_eq_true.mp h7 c hc
    simp only [Bool.or_eq_true, beq_iff_eq] at this
    omega
  · intro a ha1 ha2 hne
    exact ⟨runsOk_take a _ h2, runsOk_drop a _ h2, next_cut ha1 (by omega) hne⟩
theorem turn_start {ss : List Str} (h : ∀ z ∈ ss, z ∈ ([⟨#[49]⟩, ⟨#[50]⟩, ⟨#[51]⟩] : List Str)) (h1 : 1 ≤ ss.length) (h2 : ss.length ≤ 3) : Turn 0 (Txt.join (Str.ofString "") ss) := by
  match ss, h1, h2 with
  | [a], _, _ =>
    have ha := h a (by simp)
    simp only [List.mem_cons, List.not_mem_nil, or_false] at ha
    rcases ha with rfl | rfl | rfl <;> exact ⟨_, (by decide +kernel : (Txt.join (Str.ofString "") [_]).cps.toList ∈ starts), rfl⟩
  | [a, b], _, _ =>
    have ha := h a (by simp)
    have hb := h b (by simp)
    simp only [List.mem_cons, List.not_mem_nil, or_false] at ha hb
    rcases ha with rfl | rfl | rfl <;> rcases hb with rfl | rfl | rfl <;> exact ⟨_, (by decide +kernel : (Txt.join (Str.ofString "") [_, _]).cps.toList ∈ starts), rfl⟩
  | [a, b, c], _, _ =>
    have ha := h a (by simp)
    have hb := h b (by simp)
    have hc := h c (by simp)
    simp only [List.mem_cons, List.not_mem_nil, or_false] at ha hb hc
    rcases ha with rfl | rfl | rfl <;> rcases hb with rfl | rfl | rfl <;> rcases hc with rfl | rfl | rfl <;> exact ⟨_, (by decide +kernel : (Txt.join (Str.ofString "") [_, _, _]).cps.toList ∈ starts), rfl⟩
theorem item_get {x : Str} {k : Int} (h0 : 0 ≤ k) (h1 : k < x.length) : Txt.item x k = ⟨#[x.cps.toList.getD k.toNat 0]⟩ := by
  rw [item_meets ⟨h0, h1⟩, List.getD_eq_getElem?_getD, Array.getElem?_toList, Array.getD_eq_getD_getElem?]
theorem cut_facts {x : Str} {A : Int} (h : turnOk x.cps.toList = true) (h1 : 1 ≤ A) (h2 : A < x.length) (h3 : (Txt.item x A != Txt.item x (A - 1)) = true) :
    (Txt.slice x none (some A)).length ≤ 20 ∧ runsOk (Txt.slice x none (some A)).cps.toList = true ∧ (Txt.slice x (some (A + 1 - 1)) (some (A + 1 - 1 + 255))).length ≤ 20 ∧ runsOk (Txt.slice x (some (A + 1 - 1)) (some (A + 1 - 1 + 255))).cps.toList = true ∧
      (nextS (Txt.slice x none (some A))).length + (nextS (Txt.slice x (some (A + 1 - 1)) (some (A + 1 - 1 + 255)))).length ≤ 255 ∧
      nextS (Txt.slice x none (some A)) ++ nextS (Txt.slice x (some (A + 1 - 1)) (some (A + 1 - 1 + 255))) = nextS x := by
  obtain ⟨hx1, hx2, hx3, hx4, hx5, hx6, hx7, hx8, hx9⟩ := turn_facts h
  have hl : x.cps.toList.length = x.length := by simp [Str.length]
  have e1 : Txt.slice x none (some A) = ⟨(x.cps.toList.take A.toNat).toArray⟩ := slice_to x A (by omega)
  have e2 : Txt.slice x (some (A + 1 - 1)) (some (A + 1 - 1 + 255)) = ⟨(x.cps.toList.drop A.toNat).toArray⟩ := by
    rw [slice_ss x _ _ (by omega) (by omega)]
    have e3 : (A + 1 - 1).toNat = A.toNat := by omega
    rw [e3, List.take_of_length_le (by rw [List.length_drop]; omega)]
  rw [item_get (by omega) h2, item_get (by omega) (by omega), bne_iff_ne, ne_eq, Str.mk.injEq] at h3
  have h4 : x.cps.toList.getD A.toNat 0 ≠ x.cps.toList.getD (A.toNat - 1) 0 := by
    intro e
    apply h3
    have e5 : (A - 1).toNat = A.toNat - 1 := by omega
    rw [e5, e]
  obtain ⟨g1, g2, g3⟩ := hx9 A.toNat (by omega) (by omega) h4
  rw [e1, e2]
  have hn : (nextS x).length = (nextL (x.cps.toList.take A.toNat)).length + (nextL (x.cps.toList.drop A.toNat)).length := by
    have := congrArg List.length g3
    rw [List.length_append] at this
    simp only [Str.length, List.size_toArray]
    exact this.symm
  refine ⟨?_, g1, ?_, g2, ?_, ?_⟩
  · simp only [Str.length, List.size_toArray, List.length_take]
    omega
  · simp only [Str.length, List.size_toArray, List.length_drop]
    omega
  · simp only [Str.length, List.size_toArray] at hn hx5 ⊢
    omega
  · apply Str.ext'
    rw [Str.cps_append]
    show (nextL _).toArray ++ (nextL _).toArray = (nextL _).toArray
    rw [List.append_toArray]
    exact congrArg List.toArray g3
theorem known_claim (a b : Str) (t : Tok) (e : nextS a = b) (h1 : a.length ≤ 20) (h2 : runsOk a.cps.toList = true) : Claim w mean mg mb 4 170 [] [.str a t] (fun t' => .str b t') := by
  have h := next_claim (w := w) (mean := mean) (mg := mg) (mb := mb) a t h1 h2
  rw [e] at h
  exact h
local macro_rules | `(tactic| walk_at "call ref") => `(tactic| (k_here; (with_reducible show wpAny _ _ (call (Value.ref 170) _) _ _ _); k_dflt (refine' use (known_claim (Str.ofString "1") (Str.ofString "11") _ ?h1 ?h2 ?h3) ?k1 ?k2 ?k3 ?k4 ?k5 ?k6 ?k7 ?k8 ?k9 ?_; (case k1 => k_asm); (case k2 => k_asm); (case k3 => k_asm); (case k4 => k_asm); (case k5 => k_asm); (case k6 => first | exact rfl | assumption); (case k9 => first | exact List.forall_mem_nil _ | (refine List.forall_mem_cons.mpr ⟨?n1, ?n2⟩; (case n1 => k_mem); (case n2 => exact List.forall_mem_nil _))); (case k7 => ktr_room); (case k8 => ktr_units); (case h1 => decide +kernel); (case h2 => decide +kernel); (case h3 => decide +kernel); k_whole); intro t9 h9 tk9 F9 N9; (try dsimp only); (try k_fold); (try k_sweep)))
local macro_rules | `(tactic| walk_at "call ref") => `(tactic| (k_here; (with_reducible show wpAny _ _ (call (Value.ref 170) _) _ _ _); k_dflt (refine' use (known_claim (Str.ofString "11") (Str.ofString "21") _ ?h1 ?h2 ?h3) ?k1 ?k2 ?k3 ?k4 ?k5 ?k6 ?k7 ?k8 ?k9 ?_; (case k1 => k_asm); (case k2 => k_asm); (case k3 => k_asm); (case k4 => k_asm); (case k5 => k_asm); (case k6 => first | exact rfl | assumption); (case k9 => first | exact List.forall_mem_nil _ | (refine List.forall_mem_cons.mpr ⟨?n1, ?n2⟩; (case n1 => k_mem); (case n2 => exact List.forall_mem_nil _))); (case k7 => ktr_room); (case k8 => ktr_units); (case h1 => decide +kernel); (case h2 => decide +kernel); (case h3 => decide +kernel); k_whole); intro t9 h9 tk9 F9 N9; (try dsimp only); (try k_fold); (try k_sweep)))
local macro_rules | `(tactic| walk_at "call ref") => `(tactic| (k_here; (with_reducible show wpAny _ _ (call (Value.ref 170) _) _ _ _); k_dflt (refine' use (known_claim (Str.ofString "21") (Str.ofString "1211") _ ?h1 ?h2 ?h3) ?k1 ?k2 ?k3 ?k4 ?k5 ?k6 ?k7 ?k8 ?k9 ?_; (case k1 => k_asm); (case k2 => k_asm); (case k3 => k_asm); (case k4 => k_asm); (case k5 => k_asm); (case k6 => first | exact rfl | assumption); (case k9 => first | exact List.forall_mem_nil _ | (refine List.forall_mem_cons.mpr ⟨?n1, ?n2⟩; (case n1 => k_mem); (case n2 => exact List.forall_mem_nil _))); (case k7 => ktr_room); (case k8 => ktr_units); (case h1 => decide +kernel); (case h2 => decide +kernel); (case h3 => decide +kernel); k_whole); intro t9 h9 tk9 F9 N9; (try dsimp only); (try k_fold); (try k_sweep)))
local macro_rules | `(tactic| walk_at "call ref") => `(tactic| (k_here; (with_reducible show wpAny _ _ (call (Value.ref 170) _) _ _ _); k_dflt (refine' use (known_claim (Str.ofString "1211") (Str.ofString "111221") _ ?h1 ?h2 ?h3) ?k1 ?k2 ?k3 ?k4 ?k5 ?k6 ?k7 ?k8 ?k9 ?_; (case k1 => k_asm); (case k2 => k_asm); (case k3 => k_asm); (case k4 => k_asm); (case k5 => k_asm); (case k6 => first | exact rfl | assumption); (case k9 => first | exact List.forall_mem_nil _ | (refine List.forall_mem_cons.mpr ⟨?n1, ?n2⟩; (case n1 => k_mem); (case n2 => exact List.forall_mem_nil _))); (case k7 => ktr_room); (case k8 => ktr_units); (case h1 => decide +kernel); (case h2 => decide +kernel); (case h3 => decide +kernel); k_whole); intro t9 h9 tk9 F9 N9; (try dsimp only); (try k_fold); (try k_sweep)))
local macro_rules | `(tactic| walk_at "call ref") => `(tactic| (k_here; (with_reducible show wpAny _ _ (call (Value.ref 170) _) _ _ _); k_dflt (refine' use (known_claim (Str.ofString "111221") (Str.ofString "312211") _ ?h1 ?h2 ?h3) ?k1 ?k2 ?k3 ?k4 ?k5 ?k6 ?k7 ?k8 ?k9 ?_; (case k1 => k_asm); (case k2 => k_asm); (case k3 => k_asm); (case k4 => k_asm); (case k5 => k_asm); (case k6 => first | exact rfl | assumption); (case k9 => first | exact List.forall_mem_nil _ | (refine List.forall_mem_cons.mpr ⟨?n1, ?n2⟩; (case n1 => k_mem); (case n2 => exact List.forall_mem_nil _))); (case k7 => ktr_room); (case k8 => ktr_units); (case h1 => decide +kernel); (case h2 => decide +kernel); (case h3 => decide +kernel); k_whole); intro t9 h9 tk9 F9 N9; (try dsimp only); (try k_fold); (try k_sweep)))
structure HaltMark2 : Prop where
  mark :: (one : True)
theorem haltMark2 : HaltMark2 := ⟨trivial⟩
structure HaltMark3 : Prop where
  mark :: (one : True)
theorem haltMark3 : HaltMark3 := ⟨trivial⟩
local macro_rules | `(tactic| walk_at "execs cons") => `(tactic| ((rename HaltMark2 => hHalt9); refine halt ?_))
local macro_rules | `(tactic| walk_at "CompSrcT") => `(tactic| ((rename HaltMark3 => hHalt9); refine halt ?_))
local macro_rules | `(tactic| walk_at "compareOp NotEq ref ref") => `(tactic| ((rename HaltMark => hHalt9); refine halt ?_))
local macro_rules | `(tactic| walk_at "eval List") => `(tactic| (k_here; (with_reducible rename NewPlain _ _ _ _ => npX); (obtain ⟨nX, NX⟩ := made_enters npX (by with_reducible assumption) (by with_reducible assumption) (by with_reducible assumption)); clear npX; walk_at "eval List"))
theorem no_other {x : Str} (h : ∀ c ∈ x.cps.toList, c = 49 ∨ c = 50 ∨ c = 51) {ys : List Value}
    (hC : CarriedAll ys (List.map PyData.str (List.filter (fun a => !!(Builtin.Str.occurrences (Str.ofString "123") a 0 (Str.ofString "123").length 1).isEmpty) (signs x)))) : ys = [] := by
  have e : List.filter (fun a => !!(Builtin.Str.occurrences (Str.ofString "123") a 0 (Str.ofString "123").length 1).isEmpty) (signs x) = [] := by
    rw [List.filter_eq_nil_iff]
    intro z hz
    unfold signs at hz
    simp only [List.mem_map] at hz
    obtain ⟨c, hc, rfl⟩ := hz
    rcases h c hc with rfl | rfl | rfl <;> decide +kernel
  rw [e] at hC
  cases hC
  rfl
/-- an int list whose items are the places of a text between two unlike signs -/
def CutsJ (x : Str) (nw : List (Addr × Obj)) (i : Nat) (ys : List Value) (nw' : List (Addr × Obj)) : Prop :=
  nw' = nw ∧ ys.length ≤ i ∧ ∃ l : List Int, IntsAre ys l ∧ ∀ a ∈ l, 1 ≤ a ∧ a < x.length ∧ (Txt.item x a != Txt.item x (a - 1)) = true
abbrev LawS := Str × Tok × Int × Tok × Obj
/-- the ledger between the turns of the law -/
abbrev LawLed (b sl ct cb : Addr) (n2 : Nat) (ws : List Value) (oB : Obj) (c : LawS) : List (Addr × Obj) :=
  [(b, lst [.ref sl, .int c.2.2.1 c.2.2.2.1] 0), (sl, listOf ws.toArray n2), (ct, c.2.2.2.2), (cb, oB)]
theorem law_walk : PySem.Challenge.rw_xm0061_01.Holds := by
  refine hd ?_
  have hMark := haltMark
  k_go0
  all_goals try k_fold
  k_steps
  unfold Halt
  rename Fr _ _ _ _ => F1
  rename News _ _ _ _ => N1
  rename IntsAre _ (List.take 9 _) => hI9
  rename (List.take 9 _).length = min 9 _ => hC9
  refine' draw_use _ _ ?k1 F1 ?k3 N1 ?k5 ?k6 ?k7 ?k8 hI9 ?k9 ?k10 ?k11 ?k12 ?k13 ?k14 ?k15 ?k16 ?_
  (case k14 => with_unfolding_all exact fun _ hp => by with_unfolding_all exact hp)
  (case k1 => k_asm)
  (case k3 => k_asm)
  (case k5 => k_asm)
  (case k6 => first | exact rfl | assumption)
  (case k7 => ktr_room)
  (case k8 => ktr_units)
  (case k9 => omega)
  (case k10 => decide)
  (case k11 => decide)
  (case k12 => decide)
  (case k13 => decide)
  (case k15 => exact Nat.ne_of_lt (by omega))
  (case k16 => (intro p hp q hq; rw [List.mem_singleton.mp hq]; simp only [List.mem_cons, List.not_mem_nil, or_false] at hp; rcases hp with rfl | rfl <;> exact Nat.ne_of_lt (by omega)))
  intro r1 t1 t2 h1 tk1 hr0 hr1 F2 N2
  clear F1 N1
  k_steps
  unfold Halt
  rename IsRange _ _ _ _ _ _ _ _ => R1
  refine LCg.CompSrc.range (by rfl) (by k_asm) (by k_asm) R1 (small_one (by omega) (by omega) (by omega) (by omega)) (rangeSize_nat _ _) (by rw [sizeLine_eq]; omega) ?_
  intro g3
  refine comp_all (DrawJ _ _ _ _ _) _ ?step _ 0 [] _ (Nat.zero_add _) ⟨[], 1, _, .nil, (fun _ h => nomatch h), rfl, rfl⟩ ?fin
  case step =>
    rintro i ys nw hlt ⟨ss, spot, t, hss, hz, rfl, hsp⟩ v I oI C oC D m₂ h tk E' ⟨ti, rfl⟩ hC hx F3 N3 off ne
    k_steps
    unfold Halt
    have hbI := (off.mem _ (List.Mem.head _)).1
    have hbC := (off.mem _ (List.Mem.head _)).2.1
    have hbD := (off.mem _ (List.Mem.head _)).2.2
    have hsb : ys.length ≤ 3 := by omega
    refine' draw_use _ _ ?a1 F3 ?a3 N3 ?a5 ?a6 ?a7 ?a8 hI9 ?a9 ?a10 ?a11 ?a12 ?a13 ?a14 ?a15 ?a16 ?_
    (case a14 => with_unfolding_all exact fun _ hp => by with_unfolding_all (refine perm3 _ ?_; exact hp))
    (case a1 => k_asm)
    (case a3 => k_asm)
    (case a5 => k_asm)
    (case a6 => first | exact rfl | assumption)
    (case a7 => ktr_room)
    (case a8 => ktr_units)
    (case a9 => omega)
    (case a10 => omega)
    (case a11 => omega)
    (case a12 => decide)
    (case a13 => decide)
    (case a15 => exact Nat.ne_of_lt (by omega))
    (case a16 => (intro p hp q hq; rw [List.mem_singleton.mp hq]; simp only [List.mem_cons, List.not_mem_nil, or_false] at hp; rcases hp with rfl | rfl | rfl | rfl | rfl; (exact fun e => hbI e.symm); (exact fun e => hbC e.symm); (exact fun e => hbD e.symm); all_goals exact Nat.ne_of_lt (by omega)))
    intro r2 t3 t4 h4 tk4 hr2 hr3 F4 N4
    clear F3 N3
    k_steps
    unfold Halt
    rename Fr _ _ _ _ => F5
    rename News _ _ _ _ => N5
    refine' LCg.CompEnd.intro F5 N5 _ ?b1 ?b0 trivial ⟨ss ++ [_], spot + 1, t4, hss.append' (.cons _ _ .nil), ?b2, rfl, ?b3⟩
    (case b0 => exact off)
    (case b1 => exact perm3')
    (case b2 =>
      intro z hz'
      rcases List.mem_append.mp hz' with hz' | hz'
      · exact hz z hz'
      · rw [List.mem_singleton.mp hz']
        exact item_figure r2 hr2 hr3)
    (case b3 =>
      rw [hsp, List.length_append, List.length_singleton]
      omega)
  case fin =>
    rintro ys nw hyl ⟨ss, spot, t, hss, hz, rfl, hsp⟩ D h3 tk3 F3 N3 off
    k_steps
    unfold Halt
    have hsl : ss.length = ys.length := hss.length.symm
    have hsw : (ss.map (·.length)).sum + ss.length ≤ 1048576 := by
      have : ss.map (·.length) = ss.map fun _ => 1 := List.map_congr_left fun z hz9 => by
        have := hz z hz9
        simp only [List.mem_cons, List.not_mem_nil, or_false] at this
        rcases this with rfl | rfl | rfl <;> rfl
      rw [this]
      simp only [List.map_const', List.sum_replicate_nat]
      omega
    refine join_listW (News.isList N3 (List.Mem.head _)) hss (by decide +kernel) hsw ?_
    intro t5 k5
    have hturn : Turn 0 (Txt.join (Str.ofString "") ss) := turn_start hz (by omega) (by omega)
    k_steps
    unfold Halt
    rename Fr _ _ _ _ => F6
    rename News _ _ _ _ => N6
    rename IsRange _ _ _ _ _ _ _ _ => R6
    simp only [List.cons_append, List.nil_append] at N6
    rename _ = Data.cell (some (Value.str _ _)) => hT6
    have N7 := fun p hp => N6 p (List.mem_cons_of_mem _ hp)
    refine' range_loop (σ := LawS) (n := 5) (LawLed _ _ _ _ _ _ _) (fun _ => []) [Str.ofString "after", Str.ofString "cuts", Str.ofString "at", Str.ofString "parts"] (fun i c => Turn i c.1 ∧ (0 ≤ c.2.2.1 ∧ c.2.2.1 ≤ 1 + (ys.length : Int) + i) ∧ c.2.2.2.2.data = Data.cell (some (Value.str c.1 c.2.1))) (_, _, _, _, _) rfl R6 (by decide +kernel) (by decide +kernel) F6 N7 ?k3 ⟨hturn, ⟨by dsimp only; omega, by dsimp only; omega⟩, hT6⟩ ?_ ?_
    (case k3 => exact fun _ h => nomatch h)
    · rintro ⟨x, tx, spot2, ts, oT⟩ i t2 u h tk own hi hoff ⟨hx, hspot, hdT⟩ F8 N8
      dsimp only [LawLed] at hx hspot hdT F8 N8 hoff
      clear F6 N6 N7 hT6
      have hok := Turn.ok hx hi
      obtain ⟨hx1, hx2, hx3, hx4, hx5, hx6, hx7, hx8, hx9⟩ := turn_facts hok
      have hx3' : runsOk x.cps.toList = true := hx3
      k_steps
      rename CarriedAll _ _ => hCa
      have hnil := no_other hx8 hCa
      clear hCa
      subst hnil
      unfold Halt
      rename News _ _ _ _ => N9
      have hL1 := N9.isList (List.Mem.head _)
      have hL2 := N9.isList (List.Mem.tail _ (List.Mem.head _))
      refine ne_intsK (vs := []) (us := []) hL2 .nil hL1 .nil (by units_room) ?_
      rw [show (!decide (([] : List Int) = [])) = false from rfl]
      clear hL1 hL2
      have hM2 := haltMark2
      k_steps
      rename HaltMark2 => hM2
      clear hM2
      unfold Halt
      have hMark := haltMark
      have hM3 := haltMark3
      rename News _ _ _ _ => N10
      have N11 := kst_newsOf N10 (fun p hp => List.Mem.tail _ (List.Mem.tail _ hp))
      clear N10
      k_steps
      unfold Halt
      rename HaltMark3 => hM3
      clear hM3
      rename IsRange _ _ _ _ _ _ _ _ => R7
      refine LCt.CompSrcT.range (by rfl) (by k_asm) (by k_asm) R7 (small_one (by omega) (by omega) (by omega) (by omega)) (rangeSize_nat _ _) (by rw [sizeLine_eq]; omega) ?_
      intro g4
      refine comp_allT (CutsJ x _) _ ?step _ 0 [] _ (Nat.zero_add _) ⟨rfl, Nat.le_refl _, [], .nil, fun _ h => nomatch h⟩ ?fin
      case step =>
        rintro j ysc nw hlt ⟨rfl, hlen, l, hil, hal⟩ v I oI C oC D m₂ h tk E' ⟨ti, rfl⟩ hC hx F3 N3 off ne
        k_steps
        · unfold Halt
          rename (_ != _) = true => hne
          refine' LCg.CompEnd.intro F3 N3 _ ?d1 ?d0 trivial ⟨rfl, ?d2, l ++ [_], hil.append (.cons _ _ .nil), ?d3⟩
          (case d0 => exact off)
          (case d1 => exact fun _ hp => hp)
          (case d2 => rw [List.length_append, List.length_singleton]; omega)
          (case d3 =>
            intro a ha
            rcases List.mem_append.mp ha with ha | ha
            · exact hal a ha
            · rw [List.mem_singleton.mp ha]
              exact ⟨by omega, by omega, hne⟩)
        · unfold Halt
          refine' LCg.CompEnd.intro F3 N3 _ ?d1 ?d0 trivial ⟨rfl, ?d2, l, hil, hal⟩
          (case d0 => exact off)
          (case d1 => exact fun _ hp => hp)
          (case d2 => omega)
      case fin =>
        rintro ysc nw ⟨rfl, hlen, l, hil, hal⟩ D3 h5 tk5 F5 N5 off5
        have hlen2 : l.length = ysc.length := hil.length.symm
        k_steps
        unfold Halt
        rename News _ _ _ _ => N12
        have hL4 := N12.isList (List.Mem.head _)
        have hL3 := N12.isList (List.Mem.tail _ (List.Mem.head _))
        refine ne_intsK (us := []) hL3 hil hL4 .nil (by units_room) ?_
        clear hL3 hL4
        by_cases hln : l = []
        · rw [show (!decide (l = [])) = false by rw [decide_eq_true hln]; rfl]
          k_steps
          rename Fr _ _ _ _ => F14
          rename News _ _ _ _ => N14
          have hob := hoff
          refine' cell_store _ F14 N14 ?e1 ?e2 ?e3 hdT ?_
          (case e1 => rfl)
          (case e2 => exact perm5)
          (case e3 =>
            intro p hp
            simp only [List.mem_cons] at hp
            rcases hp with rfl | rfl | rfl | hp
            · exact Nat.ne_of_gt (by omega)
            · exact Nat.ne_of_gt (by omega)
            · exact Nat.ne_of_lt (by omega)
            · exact hoff p hp _ (List.Mem.tail _ (List.Mem.tail _ (List.Mem.head _))))
          intro h15 o15 F15 N15 d15
          clear F14 N14
          k_steps
          unfold Halt
          rename Fr _ _ _ _ => F17
          rename News _ _ _ _ => N17
          refine' InvEndN.intro F17 N17 ⟨(nextS x, _, spot2, ts, o15), rfl, ?q1, ?q2, hx.next, ⟨?q3, ?q4⟩, d15⟩ rfl ?q5 ?q6
          (case q1 => exact fun _ h => nomatch h)
          (case q5 => exact perm6)
          (case q6 => exact perm7)
          (case q3 => dsimp only; omega)
          (case q4 => dsimp only; omega)
          (case q2 =>
            intro z z1 z2 z3
            have n0 := z3
            simp only [List.contains_cons, List.contains_nil, Bool.or_false, Bool.or_eq_false_iff, beq_eq_false_iff_ne, ne_eq] at z3
            simp only [kstB, z1, n0, z3.1, z3.2.1, z3.2.2.1, z3.2.2.2, if_false, Bool.false_eq_true])
        · rw [show (!decide (l = [])) = true by rw [decide_eq_false hln]; rfl]
          have hl0 : 1 ≤ l.length := by
            rcases l with _ | ⟨a, r⟩
            · exact absurd rfl hln
            · simp only [List.length_cons]; omega
          have N13 := kst_newsOf N12 (fun p hp => List.Mem.tail _ hp)
          clear N12
          k_steps
          unfold Halt
          have hbD := off5.1
          rename Fr _ _ _ _ => F14
          refine' draw_use _ _ ?f1 F14 ?f3 N13 ?f5 ?f6 ?f7 ?f8 hI9 ?f9 ?f10 ?f11 ?f12 ?f13 ?f14 ?f15 ?f16 ?_
          (case f14 => with_unfolding_all exact fun _ hp => by with_unfolding_all (refine perm4 _ ?_; exact hp))
          (case f1 => k_asm)
          (case f3 => k_asm)
          (case f5 => k_asm)
          (case f6 => first | exact rfl | assumption)
          (case f7 => ktr_room)
          (case f8 => ktr_units)
          (case f9 => omega)
          (case f10 => omega)
          (case f11 => omega)
          (case f12 => omega)
          (case f13 => omega)
          (case f15 => exact Nat.ne_of_lt (by omega))
          (case f16 =>
            intro p hp q hq
            rw [List.mem_singleton.mp hq]
            simp only [List.mem_cons] at hp
            rcases hp with rfl | rfl | rfl | hp
            · exact fun e => hbD e.symm
            · exact Nat.ne_of_lt (by omega)
            · exact Nat.ne_of_lt (by omega)
            · exact hoff p hp _ (List.Mem.head _))
          intro r9 t9 t10 h9 tk9 hr90 hr91 F16 N16
          clear F14 N13
          have hmem : l.getD r9.toNat 0 ∈ l := by
            rw [List.getD_eq_getElem?_getD, List.getElem?_eq_getElem (by omega)]
            exact List.getElem_mem _
          obtain ⟨hc1, hc2, hc3⟩ := hal _ hmem
          obtain ⟨hq1, hq2, hq3, hq4, hq5, hq6⟩ := cut_facts hok hc1 hc2 hc3
          have hxl : x.length ≤ 255 := by omega
          k_steps
          rename Fr _ _ _ _ => F14
          rename News _ _ _ _ => N14
          refine' cell_store _ F14 N14 ?e1 ?e2 ?e3 hdT ?_
          (case e1 => rfl)
          (case e2 => exact perm8)
          (case e3 =>
            intro p hp
            simp only [List.mem_cons] at hp
            rcases hp with rfl | rfl | rfl | hp
            · exact Nat.ne_of_gt (by omega)
            · exact Nat.ne_of_gt (by omega)
            · exact Nat.ne_of_lt (by omega)
            · exact hoff p hp _ (List.Mem.tail _ (List.Mem.tail _ (List.Mem.head _))))
          intro h15 o15 F15 N15 d15
          clear F14 N14
          k_steps
          unfold Halt
          rename Fr _ _ _ _ => F17
          rename News _ _ _ _ => N17
          refine' InvEndN.intro F17 N17 ⟨(nextS x, _, spot2 + 1, t10, o15), rfl, ?q1, ?q2, hx.next, ⟨?q3, ?q4⟩, d15⟩ rfl ?q5 ?q6
          (case q1 => exact fun _ h => nomatch h)
          (case q5 => exact perm6)
          (case q6 => exact perm7)
          (case q3 => dsimp only; omega)
          (case q4 => dsimp only; omega)
          (case q2 =>
            intro z z1 z2 z3
            have n0 := z3
            simp only [List.contains_cons, List.contains_nil, Bool.or_false, Bool.or_eq_false_iff, beq_eq_false_iff_ne, ne_eq] at z3
            simp only [kstB, z1, n0, z3.1, z3.2.1, z3.2.2.1, z3.2.2.2, if_false, Bool.false_eq_true])
    · rintro ⟨x, tx, spot2, ts, oT⟩ u h tk ⟨hx, hspot, hdT⟩ F8 N8
      dsimp only [LawLed] at hx hspot hdT F8 N8
      clear F6 N6 N7 hT6
      rename HaltMark => hM
      clear hM
      k_steps
end
end Mine
theorem PySem.Challenge.cw_xm0061_01_holds : PySem.Challenge.rw_xm0061_01.Holds := by
  exact Mine.law_walk
