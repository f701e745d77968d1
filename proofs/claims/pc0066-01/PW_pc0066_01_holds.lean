import PyProof.Rows.All
import Wide.All
import OpenK.AllK
import Wide.FinOn
import Lean
import PySem.Challenge.RW_pc0066_01
open PySem PySem.W PyProof.Rows
set_option Elab.async false
set_option compiler.extract_closed false
namespace Mine
local macro_rules | `(tactic| walk_at "my pad1") => `(tactic| skip)
section
-- the head by one check of the kernel: o_law and o_head are turned to plain steps, so that no twins of the program's constants are laid (they took 9 MB of the compiled file)
noncomputable abbrev pick {n0 a1 a2 a3 a4 a5 a6 n1 a7 n2 a8 a9 a10 a11 a12 a13 : Stmt} (_ : PySem.Challenge.pw_pc0066_01.main.body = [n0, a1, a2, a3, a4, a5, a6, n1, a7, n2, a8, a9, a10, a11, a12, a13]) : List Stmt := [a1, a2, a3, a4, a5, a6, a7, a8, a9, a10, a11, a12, a13]
noncomputable def body13 : List Stmt := pick rfl
noncomputable def view : Program := { PySem.Challenge.pw_pc0066_01 with main := { PySem.Challenge.pw_pc0066_01.main with body := body13 } }
set_option maxRecDepth 100000 in
theorem said_well : PySem.Challenge.rw_pc0066_01.wellSaid = true := by
  unfold OpenLaw.wellSaid OpenRow.wellSaid
  repeat' (first | with_reducible refine look_both ?_ ?_ | (with_reducible show OpenRow.partSaid _ = true; unfold OpenRow.partSaid) | (unfold looksOpen; with_reducible refine look_both ?_ ?_))
  all_goals decide +kernel
local macro_rules | `(tactic| o_law) => `(tactic| refine holds_law said_well fun said => ?_)
local macro_rules | `(tactic| o_head $H) => `(tactic| refine holds_open (q := view) (loose := []) (Xt := fun s => xlAt view [] s && recOk (RowW.records PySem.Challenge.rw_pc0066_01.row.toRowW) s) (XP := XL view []) (Yf := Hook.obs $H) (Ya := Hook.val $H) (YP := Hook.says $H) (N := 1000) (fun w => by kernel_rfl) (Hook.of $H) (Hook.keeps $H) (fun s e => xl_of s (Bool.and_eq_true_iff.mp e).1) XL.keeps (by rfl) (by rfl) (by rfl) (fun s e => recFacts_of (Bool.and_eq_true_iff.mp e).2) (by rfl) (by first | assumption | decide +kernel) (by decide +kernel) ⟨rfl, rfl, rfl, rfl, rfl, by decide +kernel⟩ ?hw ?hc)
set_option maxRecDepth 100000 in
set_option maxHeartbeats 8000000 in
open_top hd for PySem.Challenge.rw_pc0066_01
end
/-- what the urn's draw gives: `k` draws were made before -/
def drawF (ns : List Int) (k many : Int) : Int :=
  if k + 1 ≤ (ns.length : Int) then (if ns.getD (k + 1 - 1).toNat 0 < 0 then -ns.getD (k + 1 - 1).toNat 0 else ns.getD (k + 1 - 1).toNat 0).fmod many
  else (5 * (k + 1) + (k + 1).fdiv 3).fmod many

theorem drawF_lo (ns : List Int) (k many : Int) (h : 0 < many) : 0 ≤ drawF ns k many := by
  unfold drawF
  split <;> exact Int.fmod_nonneg_of_pos _ h

theorem drawF_hi (ns : List Int) (k many : Int) (h : 0 < many) : drawF ns k many < many := by
  unfold drawF
  split <;> exact Int.fmod_lt_of_pos _ h

/-- the urn's object -/
abbrev urnO (k : Int) (tk : Tok) (sl : Addr) (n : Nat) : Obj := listOf #[.int k tk, .ref sl] n

theorem isList_up {g H : Heap} {b : Addr} {its : Array Value} {adr : List Addr} (G : GSub H g adr) (hl : H.IsList b its) (hn : b ∉ adr) : g.IsList b its := hl.at fun o e => G b o e hn

theorem news_after {h₀ H g h' : Heap} {L L' u : Addr} {m' : Str → Option Value} {o o' : Obj} {news news' tl : List (Addr × Obj)} (U : Upd u o o' news news') (N : News h₀ L H news) (kN : News h₀ L h' ((u, o') :: tl)) (F' : Fr g L' h' m') (G : GSub H g [u]) :
    News h₀ L h' news' := by
  obtain ⟨pre, post, rfl, rfl, h1, h2⟩ := U.split
  have off : ∀ p ∈ pre ++ (u, o) :: post, p.1 ≠ u → h'.get? p.1 = some p.2 := fun p hp hne => F'.keep _ _ (G _ _ (N p hp).1 (by simpa using hne))
  intro p hp
  rcases List.mem_append.mp hp with q | q
  · have z := List.mem_append_left ((u, o) :: post) q
    exact ⟨off p z (h1 p q), (N p z).2⟩
  · rcases List.mem_cons.mp q with rfl | q
    · exact kN _ (.head _)
    · have z := List.mem_append_right pre (List.mem_cons_of_mem (u, o) q)
      exact ⟨off p z (h2 p q), (N p z).2⟩
theorem news_sub {h₀ h : Heap} {L : Addr} {news news' : List (Addr × Obj)} (N : News h₀ L h news') (hs : ∀ p ∈ news, p ∈ news') : News h₀ L h news := fun p hp => N p (hs p hp)
theorem upd_mem {u : Addr} {o o' : Obj} {news news' : List (Addr × Obj)} (U : Upd u o o' news news') : (u, o) ∈ news := by
  obtain ⟨pre, post, rfl, rfl, h1, h2⟩ := U.split
  simp
theorem news_one {h₀ h : Heap} {L : Addr} {p : Addr × Obj} {news : List (Addr × Obj)} (N : News h₀ L h news) (hm : p ∈ news) : News h₀ L h [p] := fun q hq => by
  rw [List.mem_singleton.mp hq]; exact N p hm
/-- a fact laid out of the walk's sight -/
structure Hid (P : Prop) : Prop where
  out : P
theorem hid {P : Prop} (h : P) : Hid P := ⟨h⟩
theorem retV {s : Shared} {Q : Value → Shared → Prop} {h' : Heap} {tk' : Nat} {v v' : Value} (h : Q v' { s with heap := h', toks := tk' }) (e : v = v') : Q v { s with heap := h', toks := tk' } := e ▸ h
theorem retI {s : Shared} {Q : Value → Shared → Prop} {h' : Heap} {tk' : Nat} {x y : Int} {t : Tok} (h : Q (.int x t) { s with heap := h', toks := tk' }) (e : y = x) : Q (.int y t) { s with heap := h', toks := tk' } := e ▸ h

def AllNe (d : Addr) : List (Addr × Obj) → Prop
  | [] => True
  | p :: r => @Ne Nat p.1 d ∧ AllNe d r
theorem allNe_of {d : Addr} : ∀ {l : List (Addr × Obj)}, (∀ p ∈ l, p.1 ≠ d) → AllNe d l
  | [], _ => trivial
  | p :: _, h => ⟨h p (.head _), allNe_of fun q hq => h q (.tail _ hq)⟩
theorem AllNe.all {d : Addr} {l : List (Addr × Obj)} (h : AllNe d l) : ∀ p ∈ l, p.1 ≠ d := by
  induction l with
  | nil => intro p hp; cases hp
  | cons q r ih =>
    intro p hp
    rcases List.mem_cons.mp hp with e | hp
    · rw [e]; exact h.1
    · exact ih h.2 p hp
theorem upd_addr {u : Addr} {o o' : Obj} {news news' : List (Addr × Obj)} (U : Upd u o o' news news') : ∀ p ∈ news', ∃ q ∈ news, q.1 = p.1 := by
  obtain ⟨pre, post, rfl, rfl, h1, h2⟩ := U.split
  intro p hp
  rcases List.mem_append.mp hp with q | q
  · exact ⟨p, List.mem_append_left _ q, rfl⟩
  · rcases List.mem_cons.mp q with rfl | q
    · exact ⟨(u, o), by simp, rfl⟩
    · exact ⟨p, List.mem_append_right _ (List.mem_cons_of_mem _ q), rfl⟩
/-- what a callee has made lies off its caller's ledger -/
theorem ne_new {h₀ H g h' : Heap} {L L' ad u : Addr} {o : Obj} {news tl : List (Addr × Obj)} (N : News h₀ L H news) (G : GSub H g [u]) (N' : News g L' h' ((ad, o) :: tl)) (hu : u ≠ ad) : ∀ p ∈ news, p.1 ≠ ad := fun p hp e => by
  have h1 := (N p hp).1
  have h2 := (N' _ (.head _)).2.2
  have h3 := G _ _ h1 (by simpa [e] using fun q => hu q.symm)
  rw [e] at h3
  rw [h2] at h3; cases h3
theorem ne_newU {h₀ H g h' : Heap} {L L' ad u : Addr} {o a b : Obj} {news news' tl : List (Addr × Obj)} (U : Upd u a b news news') (N : News h₀ L H news) (G : GSub H g [u]) (N' : News g L' h' ((ad, o) :: tl)) (hu : u ≠ ad) : ∀ p ∈ news', p.1 ≠ ad := fun p hp => by
  obtain ⟨q, hq, e⟩ := upd_addr U p hp
  rw [← e]; exact ne_new N G N' hu q hq
theorem news_cons {h₀ h : Heap} {L : Addr} {p : Addr × Obj} {news tl : List (Addr × Obj)} (N : News h₀ L h (p :: tl)) (N' : News h₀ L h news) : News h₀ L h (p :: news) := fun q hq => by
  rcases List.mem_cons.mp hq with rfl | hq
  · exact N _ (.head _)
  · exact N' q hq
theorem news_all {h₀ H g h' : Heap} {L L' : Addr} {m' : Str → Option Value} {news : List (Addr × Obj)} (N : News h₀ L H news) (G : GSub H g []) (F' : Fr g L' h' m') : News h₀ L h' news := fun p hp => ⟨F'.keep _ _ (G _ _ (N p hp).1 (by simp)), (N p hp).2⟩
theorem retS {s : Shared} {Q : Value → Shared → Prop} {h' : Heap} {tk' : Nat} {x y : Str} {t : Tok} (h : Q (.str x t) { s with heap := h', toks := tk' }) (e : y = x) : Q (.str y t) { s with heap := h', toks := tk' } := e ▸ h
/-- what is left of a ledger where the callee wrote nothing -/
theorem ne_new0 {h₀ H g h' : Heap} {L L' ad : Addr} {o : Obj} {news tl : List (Addr × Obj)} (N : News h₀ L H news) (G : GSub H g []) (N' : News g L' h' ((ad, o) :: tl)) : ∀ p ∈ news, p.1 ≠ ad := fun p hp e => by
  have h1 := (N p hp).1
  have h2 := (N' _ (.head _)).2.2
  have h3 := G _ _ h1 (by simp)
  rw [e] at h3
  rw [h2] at h3; cases h3
theorem prN {p q : Prop} (h : p ∧ q) : p := h.1
theorem prS {p q r : Prop} (f : q → r) (h : p ∧ q) : r := f h.2
theorem ltJ {a b x : Nat} {r : Prop} (h : x < b ∧ r) (f : x < b ∧ r → a < b) : a < b := f h
theorem ltK {a b k : Nat} (h : a < b) : a ≠ b + k := by omega
theorem neJ {a b x : Nat} {r : Prop} (h : x ≠ b ∧ r) (f : x ≠ b ∧ r → a ≠ b) : a ≠ b := f h
theorem toNat_sub2 {a b : Int} (h : 0 ≤ b) : (a - b).toNat = a.toNat - b.toNat := by
  obtain ⟨b, rfl⟩ := Int.eq_ofNat_of_zero_le h
  rcases Int.le_total 0 a with q | q
  · obtain ⟨a, rfl⟩ := Int.eq_ofNat_of_zero_le q
    exact Int.toNat_sub a b
  · rw [Int.toNat_of_nonpos (Int.sub_nonpos_of_le (Int.le_trans q h)), Int.toNat_of_nonpos q, Nat.zero_sub]
local macro_rules | `(tactic| walk_at "my enter") => `(tactic| (refine' code_defG ?k1 ?k2 ?k3 ?k4 ?k5 ?kA ?kF ?kK ?k6 ?k7 ?k8 ?k9 ?kB ?_ ?c2 ?c3 ?c4 ?c5; (case kA => exact rfl); (case kF => exact rfl); (case kK => assumption); (case k1 => k_asm); (case k2 => k_asm); (case k3 => k_asm); (case k4 => k_asm); (case k5 => k_asm); (case k6 => k_is); (case k7 => k_is); (case k8 => ktr_room); (case k9 => exact BindsTo.of_eq rfl); (case c5 => decide); (case kB => exact locs rfl); (case c2 => exact rfl); (case c3 => exact rfl); (case c4 => exact rfl); k_whole; intro g' L' h' FG' F' N' B' X' T' GS'; (try dsimp only); (try k_fold)))
local macro_rules | `(tactic| walk_at "my list") => `(tactic| first | assumption | exact News.isList (by k_asm) (by k_mem) | (refine Heap.IsList.at (by assumption) ?_; intro o e; exact Fr.keep (by assumption) _ _ e))
local macro_rules | `(tactic| k_all) => `(tactic| exact AllNe.all (by assumption))
local macro_rules | `(tactic| ktr_room) => `(tactic| ((try dsimp only [ktrTop, Around.deeper, Around.in1, Around.mark]); omega))
local macro_rules | `(tactic| ktr_units) => `(tactic| ((try dsimp only [ktrTop, Around.deeper, Around.in1, Around.mark]); omega))
local macro_rules | `(tactic| k_mem) => `(tactic| assumption)
local macro_rules | `(tactic| walk_at "my and") => `(tactic| (iterate 30 (first | done | exact prN | exact id | refine prS ?_)); done)
local macro_rules | `(tactic| walk_at "my lt") => `(tactic| (refine' ltJ ?h ?f; (case h => with_reducible assumption); (case f => with_reducible walk_at "my and")))
local macro_rules | `(tactic| walk_at "my nq") => `(tactic| first | with_reducible assumption | (refine' neJ ?h ?f; (case h => with_reducible assumption); (case f => with_reducible walk_at "my and")))
local macro_rules | `(tactic| k_ne) => `(tactic| ((try dsimp only); first | walk_at "my nq" | (refine Nat.ne_of_gt ?_; walk_at "my lt") | (refine Nat.ne_of_lt ?_; walk_at "my lt") | (refine Ne.symm ?_; walk_at "my nq") | (refine ltK ?_; walk_at "my lt") | (refine Ne.symm (ltK ?_); walk_at "my lt") | fail "k_ne"))
local macro_rules | `(tactic| k_lt $h) => `(tactic| (replace $h := allLt_of $h; dsimp only [AllLt] at $h:ident))
set_option maxRecDepth 100000 in
set_option maxHeartbeats 8000000 in
theorem draw_call {w : World} {loose : List Str} {mean : ExcName → Option Value} {mg mb : Str → Option Value} {dp un : Nat} {gd : Option (List Code)} {cn : Str} {cs : Scope} {a : Addr} {ccd : Value} {cl : List (Str × Addr)} {outer : List Env} {A₀ : Around} {base h₀ : Heap} {L : Addr} {m : Str → Option Value} {s : Shared} {Q E : Value → Shared → Prop}
    {u sl : Addr} {k many : Int} {tk tm : Tok} {vs : List Value} {ns : List Int} {n : Nat} {news : List (Addr × Obj)} {news' : Tok → List (Addr × Obj)}
    (B : Below A₀ base outer h₀) (F : Fr h₀ L s.heap m) (X : (Mine.hd.heap_1 w.params).In h₀) (N : News h₀ L s.heap news) (T : Top Mine.view loose mean mg mb h₀) (hk : cs.kind = .function)
    (U : ∀ t', Upd u (urnO k tk sl n) (urnO (k + 1) t' sl n) news (news' t')) (hl : s.heap.IsList sl vs.toArray) (hne : sl ≠ u)
    (hi : IntsAre vs ns) (hsz : ns.length ≤ 40) (k0 : 0 ≤ k) (k1 : k ≤ 1000) (m0 : 0 < many) (m1 : many ≤ 1000) (hd : dp + 1 < recursionLimit) (hun : un + 8 < cLine)
    (ret : ∀ t t' h' tk', Fr h₀ L h' m → News h₀ L h' (news' t') → Q (.int (drawF ns k many) t) {s with heap := h', toks := tk'}) :
    wpAny (model PySem.Challenge.rw_pc0066_01.row.prog w) (ktrTop dp un gd cn cs L a ccd cl outer) (call (.ref 68) [.ref u, .int many tm]) Q E s := by
  w_top off
  revert X; k_fill; intro X
  have N1 := news_one N (upd_mem (U 0))
  have N2 := Mine.hid N
  clear N
  refine wpAny_call ?_
  k_dflt walk_at "my enter"
  rename_i g' L' h' FG F' N' B' X' T' GS
  have hl' : g'.IsList sl vs.toArray := isList_up GS hl (by simpa using hne)
  clear hl
  k_steps
  all_goals (with_reducible rename Fr g' L' _ _ => Fz)
  all_goals (with_reducible rename News h₀ L _ [_] => Nz)
  all_goals (refine retI (ret _ _ _ _ (by assumption) (news_after (U _) N2.out Nz Fz GS)) ?_)
  all_goals (unfold drawF; (repeat' split) <;> first | rfl | omega)
local macro_rules | `(tactic| walk_at "call ref") => `(tactic| (k_here; (with_reducible show wpAny _ _ (call (Value.ref 68) _ _) _ _ _); k_dflt (refine' draw_call ?kB ?kF ?kX ?kN ?kT ?khk ?kU ?khl ?khne ?khi ?khsz ?kk0 ?kk1 ?km0 ?km1 ?khd ?khun ?_; (case kB => k_asm); (case kF => k_asm); (case kX => k_asm); (case kN => k_asm); (case kT => k_asm); (case khk => first | exact rfl | assumption); (case kU => (intro t'; k_upd)); (case khl => walk_at "my list"); (case khi => assumption); (case khne => first | assumption | k_ne); (case khsz => first | assumption | omega); (case kk0 => omega); (case kk1 => omega); (case km0 => omega); (case km1 => omega); (case khd => ktr_room); (case khun => ktr_units); k_whole); intro t' t' h' tk' F' N'; (try k_sweep)))
set_option maxRecDepth 100000 in
set_option maxHeartbeats 8000000 in
theorem stretch_call {w : World} {loose : List Str} {mean : ExcName → Option Value} {mg mb : Str → Option Value} {dp un : Nat} {gd : Option (List Code)} {cn : Str} {cs : Scope} {a : Addr} {ccd : Value} {cl : List (Str × Addr)} {outer : List Env} {A₀ : Around} {base h₀ : Heap} {L : Addr} {m : Str → Option Value} {s : Shared} {Q E : Value → Shared → Prop}
    {u sl : Addr} {k size : Int} {tk tm : Tok} {vs : List Value} {ns : List Int} {n : Nat} {news : List (Addr × Obj)} {news' : Tok → List (Addr × Obj)}
    (B : Below A₀ base outer h₀) (F : Fr h₀ L s.heap m) (X : (Mine.hd.heap_1 w.params).In h₀) (N : News h₀ L s.heap news) (T : Top Mine.view loose mean mg mb h₀) (hk : cs.kind = .function)
    (U : ∀ t', Upd u (urnO k tk sl n) (urnO (k + 1 + 1) t' sl n) news (news' t')) (hl : s.heap.IsList sl vs.toArray) (hne : sl ≠ u)
    (hi : IntsAre vs ns) (hsz : ns.length ≤ 40) (k0 : 0 ≤ k) (k1 : k ≤ 998) (m0 : 0 ≤ size) (m1 : size < 1000) (hd : dp + 2 < recursionLimit) (hun : un + 16 < cLine)
    (ret : ∀ b e t1 t2 ad t' h' tk', 0 ≤ b → b ≤ e → e ≤ size → Fr h₀ L h' m → News h₀ L h' ((ad, ({ cls := .type "tuple", data := .seq #[.int b t1, .int e t2] 0 } : Obj)) :: news' t') → (∀ p ∈ news' t', p.1 ≠ ad) → Q (.ref ad) {s with heap := h', toks := tk'}) :
    wpAny (model PySem.Challenge.rw_pc0066_01.row.prog w) (ktrTop dp un gd cn cs L a ccd cl outer) (call (.ref 75) [.ref u, .int size tm]) Q E s := by
  w_top off
  revert X; k_fill; intro X
  have N1 := news_one N (upd_mem (U 0))
  have N2 := Mine.hid N
  clear N
  refine wpAny_call ?_
  k_dflt walk_at "my enter"
  rename_i g' L' h' FG F' N' B' X' T' GS
  have hl' : g'.IsList sl vs.toArray := isList_up GS hl (by simpa using hne)
  clear hl
  k_steps
  (with_reducible rename Fr g' L' _ _ => Fz)
  (with_reducible rename News g' L' _ _ => Nz)
  (with_reducible rename Fr h₀ L _ _ => Fr')
  (with_reducible rename News h₀ L _ _ => Nr)
  have hd1 := drawF_hi ns k (size + 1) (by omega)
  have hd2 := drawF_hi ns (k + 1) (size + 1) (by omega)
  have hd3 := drawF_lo ns k (size + 1) (by omega)
  have hd4 := drawF_lo ns (k + 1) (size + 1) (by omega)
  refine ret _ _ _ _ _ _ _ _ (by omega) (by omega) (by omega) (by assumption) (news_cons Nr (news_after (U _) N2.out (news_one Nr (by k_mem)) Fz GS)) (ne_newU (U _) N2.out GS Nz (by k_ne))
local macro_rules | `(tactic| walk_at "call ref") => `(tactic| (k_here; (with_reducible show wpAny _ _ (call (Value.ref 75) _ _) _ _ _); k_dflt (refine' stretch_call ?kB ?kF ?kX ?kN ?kT ?khk ?kU ?khl ?khne ?khi ?khsz ?kk0 ?kk1 ?km0 ?km1 ?khd ?khun ?_; (case kB => k_asm); (case kF => k_asm); (case kX => k_asm); (case kN => k_asm); (case kT => k_asm); (case khk => first | exact rfl | assumption); (case kU => (intro t'; k_upd)); (case khl => walk_at "my list"); (case khi => assumption); (case khne => first | assumption | k_ne); (case khsz => first | assumption | omega); (case kk0 => omega); (case kk1 => omega); (case km0 => omega); (case km1 => omega); (case khd => ktr_room); (case khun => ktr_units); k_whole); intro b' e' t' t' ad' t' h' tk' lb' le' ls' F' N' l1; (replace l1 := allNe_of l1; simp only [AllNe, and_true] at l1); (try k_sweep)))
section
/-- a value that is None or a text -/
inductive OptV : Value → Option Str → Prop where
  | none : OptV .none none
  | str (x : Str) (t : Tok) : OptV (.str x t) (some x)
theorem list_item {prog : Program} {w : World} {A : Around} {E : Value → Shared → Prop} {s : Shared} {value slice : PySem.Expr} {l : Addr} {vs : List Value} {k : Int} {u : Tok} {v : Value} {Q : Value → Shared → Prop}
    (hl : s.heap.IsList l vs.toArray) (h0 : 0 ≤ k) (hhi : k < 2 ^ 63) (hx : vs[k.toNat]? = some v) (h : Q v s)
    (hs : subscripted slice false (.ref l) (.int k u) = operate [.ref l, .int k u] (getItem (.ref l) (.int k u)) := by with_unfolding_all rfl) :
    wpAny (model prog w) A (subscriptTail value slice (.ref l) (.int k u)) Q E s :=
  tail_any hl.typeIs slot_list_getitem.lookup (wpAny_getItem_list hl h0 hhi (by simpa using hx) h) hs
/-- a list's values, each None or a text -/
inductive OptVs : List Value → List (Option Str) → Prop where
  | nil : OptVs [] []
  | cons {v : Value} {o : Option Str} {vs : List Value} {T : List (Option Str)} : OptV v o → OptVs vs T → OptVs (v :: vs) (o :: T)
theorem OptVs.length {vs : List Value} {T : List (Option Str)} (h : OptVs vs T) : vs.length = T.length := by
  induction h with
  | nil => rfl
  | cons _ _ ih => simp [ih]
theorem OptVs.at {vs : List Value} {T : List (Option Str)} (h : OptVs vs T) : ∀ i, i < T.length → ∃ v, vs[i]? = some v ∧ OptV v (T.getD i none) := by
  induction h with
  | nil => intro i hi; exact absurd hi (Nat.not_lt_zero _)
  | cons hv _ ih =>
    intro i hi
    cases i with
    | zero => exact ⟨_, rfl, hv⟩
    | succ i => exact ih i (by simpa using hi)
theorem OptVs.snoc {vs : List Value} {T : List (Option Str)} (h : OptVs vs T) {v : Value} {o : Option Str} (hv : OptV v o) : OptVs (vs ++ [v]) (T ++ [o]) := by
  induction h with
  | nil => exact .cons hv .nil
  | cons a _ ih => exact .cons a ih
/-- the group's text, '' where it holds nothing (`number` counts from one) -/
def grpS (T : List (Option Str)) (num : Int) : Str := (T.getD (num - 1).toNat none).getD (Str.ofString "")
theorem len_optV {prog : Program} {w : World} {A : Around} {E : Value → Shared → Prop} {s : Shared} {l : Addr} {vs : List Value} {T : List (Option Str)} {Q : Value → Shared → Prop}
    (hl : s.heap.IsList l vs.toArray) (hT : OptVs vs T) (hz : T.length ≤ 1000) (h : Q (.int T.length (s.toks + 1)) { s with toks := s.toks + 1 + 1 }) :
    wpAny (model prog w) A (call (.builtin "len") [.ref l]) Q E s := by
  have e : vs.toArray.size = T.length := by rw [List.size_toArray]; exact hT.length
  refine len_list hl (by rw [e]; omega) ?_
  rw [e]; exact h
theorem news_consM {h₀ h : Heap} {L : Addr} {p : Addr × Obj} {news tl : List (Addr × Obj)} (N : News h₀ L h tl) (hm : p ∈ tl) (N' : News h₀ L h news) : News h₀ L h (p :: news) := fun q hq => by
  rcases List.mem_cons.mp hq with rfl | hq
  · exact N _ hm
  · exact N' q hq
/-- a figure's text -/
abbrev dg (x : Int) : Str := Str.ofString (toString x)
/-- what a drawn piece tells: form `f`, number `nb` -/
def toldS (f nb : Int) : Str :=
  if f = 0 then Str.ofString "$$" else if f = 1 then Str.ofString "$&" else if f = 2 then Str.ofString "$`" else if f = 3 then Str.ofString "$'"
  else if f = 4 then Str.ofString "$" ++ dg (nb.fmod 10)
  else if f = 5 then Str.ofString "$" ++ dg (nb.fdiv 10) ++ dg (nb.fmod 10)
  else if f = 6 then Str.ofString "$" ++ Txt.item (Str.ofString "axZ(") (nb.fmod 4)
  else Txt.slice (Str.ofString "pq\\") none (some (nb.fmod 4))
/-- what it means -/
def meantS (T : List (Option Str)) (a0 a1 a2 : Str) (f nb : Int) : Str :=
  if f = 0 then Str.ofString "$" else if f = 1 then a0 else if f = 2 then a1 else if f = 3 then a2
  else if f = 4 then (if 1 ≤ nb.fmod 10 ∧ nb.fmod 10 ≤ T.length then grpS T (nb.fmod 10) else toldS f nb)
  else if f = 5 then (if 1 ≤ nb ∧ nb ≤ T.length then grpS T nb else if 1 ≤ nb.fdiv 10 ∧ nb.fdiv 10 ≤ T.length then grpS T (nb.fdiv 10) ++ dg (nb.fmod 10) else toldS f nb)
  else toldS f nb
section
variable {f nb : Int} {T : List (Option Str)} {a0 a1 a2 : Str}
theorem told_0 (h : f = 0) : toldS f nb = Str.ofString "$$" := by subst h; rfl
theorem told_1 (h : f = 1) : toldS f nb = Str.ofString "$&" := by subst h; rfl
theorem told_2 (h : f = 2) : toldS f nb = Str.ofString "$`" := by subst h; rfl
theorem told_3 (h : f = 3) : toldS f nb = Str.ofString "$'" := by subst h; rfl
theorem told_4 (h : f = 4) : toldS f nb = Str.ofString "$" ++ Str.ofString (toString (nb.fmod 10)) := by subst h; rfl
theorem told_5 (h : f = 5) : toldS f nb = Str.ofString "$" ++ Str.ofString (toString (nb.fdiv 10)) ++ Str.ofString (toString (nb.fmod 10)) := by subst h; rfl
theorem told_6 (h : f = 6) : toldS f nb = Str.ofString "$" ++ Txt.item (Str.ofString "axZ(") (nb.fmod 4) := by subst h; rfl
theorem told_7 (h : ¬ f < 4) (h4 : ¬ f = 4) (h5 : ¬ f = 5) (h6 : ¬ f = 6) : toldS f nb = Txt.slice (Str.ofString "pq\\") none (some (nb.fmod 4)) := by
  unfold toldS
  rw [if_neg (by omega), if_neg (by omega), if_neg (by omega), if_neg (by omega), if_neg h4, if_neg h5, if_neg h6]
theorem meant_0 (h : f = 0) : meantS T a0 a1 a2 f nb = Str.ofString "$" := by subst h; rfl
theorem meant_1 (h : f = 1) : meantS T a0 a1 a2 f nb = a0 := by subst h; rfl
theorem meant_2 (h : f = 2) : meantS T a0 a1 a2 f nb = a1 := by subst h; rfl
theorem meant_3 (h : f = 3) : meantS T a0 a1 a2 f nb = a2 := by subst h; rfl
theorem meant_4 (h : f = 4) : meantS T a0 a1 a2 f nb = (if 1 ≤ nb.fmod 10 ∧ nb.fmod 10 ≤ T.length then grpS T (nb.fmod 10) else toldS f nb) := by subst h; rfl
theorem meant_5 (h : f = 5) : meantS T a0 a1 a2 f nb = (if 1 ≤ nb ∧ nb ≤ T.length then grpS T nb else if 1 ≤ nb.fdiv 10 ∧ nb.fdiv 10 ≤ T.length then grpS T (nb.fdiv 10) ++ dg (nb.fmod 10) else toldS f nb) := by subst h; rfl
theorem meant_6 (h : ¬ f < 4) (h4 : ¬ f = 4) (h5 : ¬ f = 5) : meantS T a0 a1 a2 f nb = toldS f nb := by
  unfold meantS
  rw [if_neg (by omega), if_neg (by omega), if_neg (by omega), if_neg (by omega), if_neg h4, if_neg h5]
theorem meant_4a (h : f = 4) (h1 : 1 ≤ nb.fmod 10) (h2 : nb.fmod 10 ≤ T.length) : meantS T a0 a1 a2 f nb = grpS T (nb.fmod 10) := by rw [meant_4 h, if_pos ⟨h1, h2⟩]
theorem meant_4b (h : f = 4) (h1 : ¬ (1 ≤ nb.fmod 10 ∧ nb.fmod 10 ≤ T.length)) : meantS T a0 a1 a2 f nb = Str.ofString "$" ++ Str.ofString (toString (nb.fmod 10)) := by rw [meant_4 h, if_neg h1, told_4 h]
theorem meant_5a (h : f = 5) (h1 : 1 ≤ nb) (h2 : nb ≤ T.length) : meantS T a0 a1 a2 f nb = grpS T nb := by rw [meant_5 h, if_pos ⟨h1, h2⟩]
theorem meant_5b (h : f = 5) (hn : ¬ (1 ≤ nb ∧ nb ≤ T.length)) (h1 : 1 ≤ nb.fdiv 10) (h2 : nb.fdiv 10 ≤ T.length) : meantS T a0 a1 a2 f nb = grpS T (nb.fdiv 10) ++ Str.ofString (toString (nb.fmod 10)) := by rw [meant_5 h, if_neg hn, if_pos ⟨h1, h2⟩]
theorem meant_5c (h : f = 5) (hn : ¬ (1 ≤ nb ∧ nb ≤ T.length)) (h1 : ¬ (1 ≤ nb.fdiv 10 ∧ nb.fdiv 10 ≤ T.length)) : meantS T a0 a1 a2 f nb = Str.ofString "$" ++ Str.ofString (toString (nb.fdiv 10)) ++ Str.ofString (toString (nb.fmod 10)) := by rw [meant_5 h, if_neg hn, if_neg h1, told_5 h]
theorem meant_5d (h : f = 5) (h0 : ¬ 1 ≤ nb) : meantS T a0 a1 a2 f nb = Str.ofString "$" ++ Str.ofString (toString (nb.fdiv 10)) ++ Str.ofString (toString (nb.fmod 10)) :=
  meant_5c h (fun q => h0 q.1) fun q => by
    have e : nb.fdiv 10 = nb / 10 := Int.fdiv_eq_ediv_of_nonneg _ (by decide)
    rw [e] at q; omega
end
end
local macro_rules | `(tactic| walk_at "subscriptTail") => `(tactic| (k_here; (with_reducible show wpAny _ _ (subscriptTail _ _ (Value.ref _) (Value.int _ _)) _ _ _); (with_unfolding_all refine' list_item ?k1 ?k2 ?k3 ?k4 ?_ ?k6; (case k1 => walk_at "my list"); (case k4 => assumption); (case k2 => omega); (case k3 => omega); (case k6 => with_unfolding_all rfl); k_whole)))
local macro_rules | `(tactic| walk_at "call builtin:len") => `(tactic| (k_here; (with_reducible show wpAny _ _ (call (Value.builtin "len") [Value.ref _]) _ _ _); k_dflt (refine' len_optV ?k1 ?k2 ?k3 ?_; (case k1 => walk_at "my list"); (case k2 => assumption); (case k3 => omega); k_whole)))
set_option maxRecDepth 100000 in
set_option maxHeartbeats 8000000 in
theorem group_call {w : World} {loose : List Str} {mean : ExcName → Option Value} {mg mb : Str → Option Value} {dp un : Nat} {gd : Option (List Code)} {cn : Str} {cs : Scope} {a : Addr} {ccd : Value} {cl : List (Str × Addr)} {outer : List Env} {A₀ : Around} {base h₀ : Heap} {L : Addr} {m : Str → Option Value} {s : Shared} {Q E : Value → Shared → Prop}
    {tl : Addr} {num : Int} {tm : Tok} {vs : List Value} {TT : List (Option Str)} {news : List (Addr × Obj)}
    (B : Below A₀ base outer h₀) (F : Fr h₀ L s.heap m) (X : (Mine.hd.heap_1 w.params).In h₀) (N : News h₀ L s.heap news) (T : Top Mine.view loose mean mg mb h₀) (hk : cs.kind = .function)
    (hl : s.heap.IsList tl vs.toArray) (hT : OptVs vs TT) (n1 : 1 ≤ num) (n2 : num ≤ TT.length) (n3 : num ≤ 1000) (hd : dp + 1 < recursionLimit) (hun : un + 8 < cLine)
    (ret : ∀ t h' tk', Fr h₀ L h' m → News h₀ L h' news → Q (.str (grpS TT num) t) {s with heap := h', toks := tk'}) :
    wpAny (model PySem.Challenge.rw_pc0066_01.row.prog w) (ktrTop dp un gd cn cs L a ccd cl outer) (call (.ref 82) [.ref tl, .int num tm]) Q E s := by
  w_top off
  revert X; k_fill; intro X
  have N1 : News h₀ L s.heap [] := News.nil
  have N2 := Mine.hid N
  clear N
  refine wpAny_call ?_
  k_dflt walk_at "my enter"
  rename_i g' L' h' FG F' N' B' X' T' GS
  have hl' : g'.IsList tl vs.toArray := isList_up GS hl (by simp)
  clear hl
  obtain ⟨v, hx, hv⟩ := hT.at (num - 1).toNat (by omega)
  unfold grpS at ret
  revert ret hv
  generalize TT.getD (num - 1).toNat none = o
  intro ret hv
  cases hv
  all_goals k_steps
  all_goals (with_reducible rename Fr g' L' _ _ => Fz)
  all_goals exact ret _ _ _ (by assumption) (news_all N2.out GS Fz)
local macro_rules | `(tactic| walk_at "call ref") => `(tactic| (k_here; (with_reducible show wpAny _ _ (call (Value.ref 82) _ _) _ _ _); k_dflt (refine' group_call ?kB ?kF ?kX ?kN ?kT ?khk ?khl ?khT ?kn1 ?kn2 ?kn3 ?khd ?khun ?_; (case kB => k_asm); (case kF => k_asm); (case kX => k_asm); (case kN => k_asm); (case kT => k_asm); (case khk => first | exact rfl | assumption); (case khl => walk_at "my list"); (case khT => assumption); (case kn1 => omega); (case kn2 => omega); (case kn3 => omega); (case khd => ktr_room); (case khun => ktr_units); k_whole); intro t' h' tk' F' N'; (try k_sweep)))
set_option maxRecDepth 100000 in
set_option maxHeartbeats 8000000 in
theorem piece_call {w : World} {loose : List Str} {mean : ExcName → Option Value} {mg mb : Str → Option Value} {dp un : Nat} {gd : Option (List Code)} {cn : Str} {cs : Scope} {a : Addr} {ccd : Value} {cl : List (Str × Addr)} {outer : List Env} {A₀ : Around} {base h₀ : Heap} {L : Addr} {m : Str → Option Value} {s : Shared} {Q E : Value → Shared → Prop}
    {u sl tl ar : Addr} {k : Int} {tk t0 t1 t2 : Tok} {vs tvs : List Value} {ns : List Int} {TT : List (Option Str)} {a0 a1 a2 : Str} {n : Nat} {news : List (Addr × Obj)} {news' : Tok → List (Addr × Obj)}
    (B : Below A₀ base outer h₀) (F : Fr h₀ L s.heap m) (X : (Mine.hd.heap_1 w.params).In h₀) (N : News h₀ L s.heap news) (T : Top Mine.view loose mean mg mb h₀) (hk : cs.kind = .function)
    (U : ∀ t', Upd u (urnO k tk sl n) (urnO (k + 1 + 1) t' sl n) news (news' t')) (hl : s.heap.IsList sl vs.toArray) (hne : sl ≠ u)
    (hi : IntsAre vs ns) (hsz : ns.length ≤ 40) (k0 : 0 ≤ k) (k1 : k ≤ 998) 
    (hT : OptVs tvs TT) (hTl : s.heap.IsList tl tvs.toArray) (hTne : tl ≠ u) (hT14 : TT.length ≤ 14) (hTs : ∀ i, (grpS TT i).length ≤ 20) (hA : IsTup s.heap ar #[.str a0 t0, .str a1 t1, .str a2 t2]) (hAne : ar ≠ u)
    (hd : dp + 2 < recursionLimit) (hun : un + 16 < cLine)
    (ret : ∀ told meant t1 t2 ad t' h' tk', told = toldS (drawF ns k 9) (drawF ns (k + 1) 20) → meant = meantS TT a0 a1 a2 (drawF ns k 9) (drawF ns (k + 1) 20) → Fr h₀ L h' m → News h₀ L h' ((ad, ({ cls := .type "tuple", data := .seq #[.str told t1, .str meant t2] 0 } : Obj)) :: news' t') → (∀ p ∈ news' t', p.1 ≠ ad) → Q (.ref ad) {s with heap := h', toks := tk'}) :
    wpAny (model PySem.Challenge.rw_pc0066_01.row.prog w) (ktrTop dp un gd cn cs L a ccd cl outer) (call (.ref 89) [.ref u, .ref tl, .ref ar]) Q E s := by
  w_top off
  revert X; k_fill; intro X
  have N1 := news_one N (upd_mem (U 0))
  have N2 := Mine.hid N
  clear N
  have f0 := drawF_lo ns k 9 (by omega)
  have f1 := drawF_hi ns k 9 (by omega)
  have n0 := drawF_lo ns (k + 1) 20 (by omega)
  have n1 := drawF_hi ns (k + 1) 20 (by omega)
  have tlen := hT.length
  have g10 := hTs ((drawF ns (k + 1) 20).fdiv 10)
  refine wpAny_call ?_
  k_dflt walk_at "my enter"
  rename_i g' L' h' FG F' N' B' X' T' GS
  have hl' : g'.IsList sl vs.toArray := isList_up GS hl (by simpa using hne)
  have hTl' : g'.IsList tl tvs.toArray := isList_up GS hTl (by simpa using hTne)
  have hA' : IsTup g' ar #[.str a0 t0, .str a1 t1, .str a2 t2] := by obtain ⟨o, e, r⟩ := hA; exact ⟨o, GS _ _ e (by simpa using hAne), r⟩
  clear hl hTl hA
  k_steps
  all_goals (with_reducible rename Fr g' L' _ _ => Fz)
  all_goals (with_reducible rename News g' L' _ _ => Nz)
  all_goals (with_reducible rename News h₀ L _ _ => Nr)
  all_goals refine ret _ _ _ _ _ _ _ _ ?_ ?_ (by assumption) (news_consM Nr (by k_mem) (news_after (U _) N2.out (news_one Nr (by k_mem)) Fz GS)) (ne_newU (U _) N2.out GS (news_one Nz (by k_mem)) (by k_ne))
  all_goals clear ret Fz Nz Nr N1 N2 GS U B F X T FG B' X' T' hd hun
  all_goals refine Eq.symm ?_
  all_goals first
    | exact told_0 (by assumption) | exact told_1 (by assumption) | exact told_2 (by assumption) | exact told_3 (by assumption) | exact told_4 (by assumption) | exact told_5 (by assumption) | exact told_6 (by assumption) | exact told_7 (by assumption) (by assumption) (by assumption) (by assumption)
    | exact meant_0 (by assumption) | exact meant_1 (by assumption) | exact meant_2 (by assumption) | exact meant_3 (by assumption)
    | exact meant_4a (by assumption) (by assumption) (by assumption) | exact meant_4b (by assumption) (fun q => absurd q.1 (by assumption)) | exact meant_4b (by assumption) (fun q => absurd q.2 (by assumption))
    | exact meant_5a (by assumption) (by assumption) (by assumption) | exact meant_5d (by assumption) (by assumption)
    | exact meant_5b (by assumption) (fun q => absurd q.2 (by assumption)) (by assumption) (by assumption)
    | exact meant_5c (by assumption) (fun q => absurd q.2 (by assumption)) (fun q => absurd q.1 (by assumption))
    | exact meant_5c (by assumption) (fun q => absurd q.2 (by assumption)) (fun q => absurd q.2 (by assumption))
    | exact (meant_6 (by assumption) (by assumption) (by assumption)).trans (told_6 (by assumption))
    | exact (meant_6 (by assumption) (by assumption) (by assumption)).trans (told_7 (by assumption) (by assumption) (by assumption) (by assumption))
local macro_rules | `(tactic| walk_at "call ref") => `(tactic| (k_here; (with_reducible show wpAny _ _ (call (Value.ref 89) _ _) _ _ _); k_dflt (refine' piece_call ?kB ?kF ?kX ?kN ?kT ?khk ?kU ?khl ?khne ?khi ?khsz ?kk0 ?kk1 ?khT ?khTl ?khTne ?khT14 ?khTs ?khA ?khAne ?khd ?khun ?_; (case kB => k_asm); (case kF => k_asm); (case kX => k_asm); (case kN => k_asm); (case kT => k_asm); (case khk => first | exact rfl | assumption); (case kU => (intro t'; k_upd)); (case khl => walk_at "my list"); (case khi => assumption); (case khne => walk_at "my ne"); (case khsz => assumption); (case kk0 => omega); (case kk1 => omega); (case khTl => walk_at "my list"); (case khT => walk_at "my texts"); (case khTne => walk_at "my ne"); (case khT14 => omega); (case khTs => walk_at "my sizes"); (case khA => walk_at "my tup"); (case khAne => walk_at "my ne"); (case khd => ktr_room); (case khun => ktr_units); k_whole); intro told' meant' t' t' ad' t' h' tk' htold hmeant F' N' l1; (replace l1 := allNe_of l1; simp only [AllNe, and_true] at l1); (try k_sweep)))
theorem clamp1 (k n : Nat) : max (0 : Int) (min (k : Int) (n : Int)) = ((min k n : Nat) : Int) := by omega
theorem clamp2 (k n : Nat) : max (0 : Int) (min ((min k n : Nat) : Int) (n : Int)) = ((min k n : Nat) : Int) := by
  rw [clamp1, Nat.min_assoc, Nat.min_self]
theorem nonneg1 (k : Nat) : ¬ (k : Int) < 0 := by omega
theorem indices_clamp (i j : Int) (n : Nat) (hi : 0 ≤ i) (hj : 0 ≤ j) : Builtin.Str.strSliceIndices (some i) (some j) 1 n = Builtin.Str.strSliceIndices (some ((min i.toNat n : Nat) : Int)) (some ((min j.toNat n : Nat) : Int)) 1 n := by
  obtain ⟨a, rfl⟩ := Int.eq_ofNat_of_zero_le hi
  obtain ⟨b, rfl⟩ := Int.eq_ofNat_of_zero_le hj
  rw [Int.toNat_natCast, Int.toNat_natCast]
  unfold Builtin.Str.strSliceIndices
  simp only [nonneg1, if_false, clamp1 a n, clamp1 b n, clamp2 a n, clamp2 b n, show ((1 : Int) > 0) = True from by simp, if_true]
theorem take_clamp {α : Type} (l : List α) (a b : Nat) : (l.drop (min a l.length)).take (min b l.length - min a l.length) = (l.drop a).take (b - a) := by
  rcases Nat.le_total a l.length with h | h
  · rw [Nat.min_eq_left h]
    rcases Nat.le_total b l.length with k | k
    · rw [Nat.min_eq_left k]
    · rw [Nat.min_eq_right k, List.take_of_length_le (by rw [List.length_drop]; exact Nat.le_refl _), List.take_of_length_le (by rw [List.length_drop]; exact Nat.sub_le_sub_right k _)]
  · rw [Nat.min_eq_right h, List.drop_of_length_le h, List.drop_of_length_le (Nat.le_refl _), List.take_nil, List.take_nil]
theorem min_mono {a b : Nat} (n : Nat) (h : a ≤ b) : min a n ≤ min b n := by omega
theorem slice_list {x : Str} {i j : Int} (h0 : 0 ≤ i) (h1 : i ≤ j) : (Txt.slice x (some i) (some j)).cps.toList = (x.cps.toList.drop i.toNat).take (j - i).toNat := by
  have e : Txt.slice x (some i) (some j) = StrLaws.sliceText x (some ((min i.toNat x.length : Nat) : Int)) (some ((min j.toNat x.length : Nat) : Int)) := by
    unfold Txt.slice StrLaws.sliceText
    rw [indices_clamp i j x.length h0 (Int.le_trans h0 h1)]
  have hl : x.length = x.cps.toList.length := by simp [Str.length]
  rw [e, StrLaws.sliceText_nat x (min_mono _ (Int.toNat_le_toNat h1)) (Nat.min_le_right _ _), toNat_sub2 h0]
  show List.take _ (List.drop _ _) = _
  rw [hl]
  exact take_clamp _ _ _
theorem slice_to_list {x : Str} {j : Int} (h1 : 0 ≤ j) : (Txt.slice x none (some j)).cps.toList = x.cps.toList.take j.toNat := by
  have e : Txt.slice x none (some j) = Txt.slice x (some 0) (some j) := by unfold Txt.slice; rw [StrLaws.sliceIdx_none_lo]
  rw [e, slice_list (Int.le_refl 0) h1]; simp
theorem slice_from_list {x : Str} {i : Int} (h0 : 0 ≤ i) : (Txt.slice x (some i) none).cps.toList = x.cps.toList.drop i.toNat := by
  have e : Txt.slice x (some i) none = Txt.slice x (some i) (some (x.length : Int)) := by unfold Txt.slice; rw [StrLaws.sliceIdx_none_hi]
  have hl : x.cps.toList.length = x.length := by simp [Str.length]
  rw [e]
  rcases Int.le_total i x.length with h | h
  · rw [slice_list h0 h, List.take_of_length_le (by rw [List.length_drop, hl, toNat_sub2 h0]; exact Nat.le_refl _)]
  · have hn : x.length ≤ i.toNat := Int.le_toNat h0 |>.mpr h
    have e2 : Txt.slice x (some i) (some (x.length : Int)) = Txt.slice x (some (x.length : Int)) (some (x.length : Int)) := by
      unfold Txt.slice
      rw [indices_clamp i _ _ h0 (Int.natCast_nonneg _), indices_clamp (x.length : Int) _ _ (Int.natCast_nonneg _) (Int.natCast_nonneg _), Int.toNat_natCast, Nat.min_eq_right hn, Nat.min_self]
    rw [e2, slice_list (Int.natCast_nonneg _) (Int.le_refl _), Int.toNat_natCast, List.drop_of_length_le (Nat.le_of_eq hl), List.drop_of_length_le (by rw [hl]; exact hn), List.take_nil]
/-- the text of at most one sign -/
def chS : Option Nat → Str
  | none => ⟨#[]⟩
  | some c => ⟨#[c]⟩
theorem str_ext {x y : Str} (h : x.cps.toList = y.cps.toList) : x = y := by
  cases x; cases y; congr 1; exact Array.ext' h
theorem slice_ch {x : Str} {i j : Int} (h0 : 0 ≤ i) (hj : j = i + 1) : Txt.slice x (some i) (some j) = chS x.cps[i.toNat]? := by
  apply str_ext
  rw [slice_list h0 (by omega), show (j - i).toNat = 1 by omega]
  have e : x.cps[i.toNat]? = x.cps.toList[i.toNat]? := by simp
  rw [e]
  generalize x.cps.toList = l
  generalize i.toNat = k
  cases q : l[k]? with
  | none =>
    have : l.length ≤ k := by simpa using q
    rw [List.drop_of_length_le this]; rfl
  | some c =>
    have hk : k < l.length := by
      rcases Nat.lt_or_ge k l.length with h | h
      · exact h
      · rw [List.getElem?_eq_none h] at q; cases q
    rw [List.drop_eq_getElem_cons hk]
    have : l[k] = c := by rw [List.getElem?_eq_getElem hk] at q; exact Option.some.inj q
    rw [this]; rfl
local macro_rules | `(tactic| walk_at "my pad2") => `(tactic| skip)
section
def isFig : Option Nat → Bool
  | none => false
  | some c => decide (48 ≤ c ∧ c ≤ 57)
theorem ge_zero (c : Nat) : (!decide ([c] < (Str.ofString "0").cps.toList)) = decide (48 ≤ c) := by
  have e : (Str.ofString "0").cps.toList = [48] := by decide +kernel
  rw [e, StrLaws.lt_cons_cons]
  by_cases h : c < 48 <;> simp [h] <;> omega
theorem le_nine (c : Nat) : (!decide ((Str.ofString "9").cps.toList < [c])) = decide (c ≤ 57) := by
  have e : (Str.ofString "9").cps.toList = [57] := by decide +kernel
  rw [e, StrLaws.lt_cons_cons]
  by_cases h : 57 < c <;> simp [h] <;> omega
theorem retB {s : Shared} {Q : Value → Shared → Prop} {h' : Heap} {tk' : Nat} {x y : Bool} (h : Q (.bool x) { s with heap := h', toks := tk' }) (e : y = x) : Q (.bool y) { s with heap := h', toks := tk' } := e ▸ h
theorem len_any {prog : Program} {w : World} {A : Around} {E : Value → Shared → Prop} {s : Shared} {x : Str} {t : Tok} {Q : Value → Shared → Prop} (hz : x.length ≤ 100000) (h : Q (.int x.length (s.toks + 1)) { s with toks := s.toks + 1 + 1 }) :
    wpAny (model prog w) A (call (.builtin "len") [.str x t]) Q E s := P.len_str (by omega) h
local macro_rules | `(tactic| walk_at "call builtin:len") => `(tactic| ((with_reducible show wpAny _ _ (call (Value.builtin "len") [Value.str _ _]) _ _ _); refine len_any (by first | omega | decide) ?_))
set_option maxRecDepth 100000 in
set_option maxHeartbeats 8000000 in
theorem figure_call {w : World} {loose : List Str} {mean : ExcName → Option Value} {mg mb : Str → Option Value} {dp un : Nat} {gd : Option (List Code)} {cn : Str} {cs : Scope} {a : Addr} {ccd : Value} {cl : List (Str × Addr)} {outer : List Env} {A₀ : Around} {base h₀ : Heap} {L : Addr} {m : Str → Option Value} {s : Shared} {Q E : Value → Shared → Prop}
    {c : Option Nat} {x : Str} {tm : Tok} {news : List (Addr × Obj)}
    (B : Below A₀ base outer h₀) (F : Fr h₀ L s.heap m) (X : (Mine.hd.heap_1 w.params).In h₀) (N : News h₀ L s.heap news) (T : Top Mine.view loose mean mg mb h₀) (hk : cs.kind = .function)
    (hx : x = chS c) (hd : dp + 1 < recursionLimit) (hun : un + 8 < cLine)
    (ret : ∀ h' tk', Fr h₀ L h' m → News h₀ L h' news → Q (.bool (isFig c)) {s with heap := h', toks := tk'}) :
    wpAny (model PySem.Challenge.rw_pc0066_01.row.prog w) (ktrTop dp un gd cn cs L a ccd cl outer) (call (.ref 33) [.str x tm]) Q E s := by
  w_top off
  subst hx
  revert X; k_fill; intro X
  have N1 : News h₀ L s.heap [] := News.nil
  have N2 := Mine.hid N
  clear N
  refine wpAny_call ?_
  k_dflt walk_at "my enter"
  rename_i g' L' h' FG F' N' B' X' T' GS
  cases c with
  | none =>
    simp only [chS] at *
    k_steps
    (with_reducible rename Fr g' L' _ _ => Fz)
    exact retB (ret _ _ (by assumption) (news_all N2.out GS Fz)) rfl
  | some c =>
    simp only [chS] at *
    k_steps
    all_goals (with_reducible rename Fr g' L' _ _ => Fz)
    all_goals refine retB (ret _ _ (by assumption) (news_all N2.out GS Fz)) ?_
    · rename_i hq _ _ _ _
      have h1 := ge_zero c
      rw [h1]
      have : ¬ 48 ≤ c := by
        intro h2
        have h3 : decide ([c] < (Str.ofString "0").cps.toList) = true := decide_eq_true hq
        rw [h3] at h1; simp [h2] at h1
      simp only [isFig]
      rw [decide_eq_decide]; omega
    · rename_i hq _ _ _ _
      have h1 := ge_zero c
      have : 48 ≤ c := by
        rw [decide_eq_false hq] at h1
        exact of_decide_eq_true h1.symm
      rw [le_nine c]
      simp only [isFig]
      rw [decide_eq_decide]; omega
end
local macro_rules | `(tactic| walk_at "call builtin:len") => `(tactic| ((with_reducible show wpAny _ _ (call (Value.builtin "len") [Value.str _ _]) _ _ _); refine len_any (by first | omega | decide) ?_))
local macro_rules | `(tactic| walk_at "call ref") => `(tactic| (k_here; (with_reducible show wpAny _ _ (call (Value.ref 33) _ _) _ _ _); k_dflt (refine' figure_call ?kB ?kF ?kX ?kN ?kT ?khk ?khx ?khd ?khun ?_; (case kB => k_asm); (case kF => k_asm); (case kX => k_asm); (case kN => k_asm); (case kT => k_asm); (case khk => first | exact rfl | assumption); (case khx => assumption); (case khd => ktr_room); (case khun => ktr_units); k_whole); intro h' tk' F' N'; (try simp only [isFig, Bool.not_true, Bool.not_false]); (try k_sweep)))
section
theorem ord_is {prog : Program} {w : World} {A : Around} {E : Value → Shared → Prop} {s : Shared} {x : Str} {c : Nat} {t : Tok} {Q : Value → Shared → Prop} (hx : x = chS (some c)) (h : Q (.int c s.toks) { s with toks := s.toks + 1 }) :
    wpAny (model prog w) A (call (.builtin "ord") [.str x t]) Q E s := by subst hx; exact P.ord_of_char h
/-- the group that '$' tells with the signs behind it, and how many figures -/
def toldN (o1 o2 : Option Nat) (many : Int) : Int × Int :=
  match o1 with
  | none => (0, 0)
  | some c1 => if 48 ≤ c1 ∧ c1 ≤ 57 then
      (match o2 with
        | none => if 1 ≤ (c1 : Int) - 48 ∧ (c1 : Int) - 48 ≤ many then ((c1 : Int) - 48, 1) else (0, 0)
        | some c2 => if (48 ≤ c2 ∧ c2 ≤ 57) ∧ 1 ≤ ((c1 : Int) - 48) * 10 + c2 - 48 ∧ ((c1 : Int) - 48) * 10 + c2 - 48 ≤ many then (((c1 : Int) - 48) * 10 + c2 - 48, 2)
            else if 1 ≤ (c1 : Int) - 48 ∧ (c1 : Int) - 48 ≤ many then ((c1 : Int) - 48, 1) else (0, 0))
    else (0, 0)
local macro_rules | `(tactic| walk_at "call builtin:ord") => `(tactic| ((with_reducible show wpAny _ _ (call (Value.builtin "ord") [Value.str _ _]) _ _ _); refine ord_is (by assumption) ?_))
set_option maxRecDepth 100000 in
set_option maxHeartbeats 8000000 in
theorem told_call {w : World} {loose : List Str} {mean : ExcName → Option Value} {mg mb : Str → Option Value} {dp un : Nat} {gd : Option (List Code)} {cn : Str} {cs : Scope} {a : Addr} {ccd : Value} {cl : List (Str × Addr)} {outer : List Env} {A₀ : Around} {base h₀ : Heap} {L : Addr} {m : Str → Option Value} {s : Shared} {Q E : Value → Shared → Prop}
    {x : Str} {spot many : Int} {tx ts tm : Tok} {news : List (Addr × Obj)}
    (B : Below A₀ base outer h₀) (F : Fr h₀ L s.heap m) (X : (Mine.hd.heap_1 w.params).In h₀) (N : News h₀ L s.heap news) (T : Top Mine.view loose mean mg mb h₀) (hk : cs.kind = .function)
    (hs0 : 0 ≤ spot) (hs1 : spot ≤ 10000) (hm0 : 0 ≤ many) (hm1 : many ≤ 1000) (hxl : x.length ≤ 10000) (hd : dp + 2 < recursionLimit) (hun : un + 16 < cLine)
    (ret : ∀ a1 a2 t1 t2 ad h' tk', (a1, a2) = toldN x.cps[(spot + 1).toNat]? x.cps[(spot + 2).toNat]? many → Fr h₀ L h' m → News h₀ L h' ((ad, ({ cls := .type "tuple", data := .seq #[.int a1 t1, .int a2 t2] 0 } : Obj)) :: news) → (∀ p ∈ news, p.1 ≠ ad) → Q (.ref ad) {s with heap := h', toks := tk'}) :
    wpAny (model PySem.Challenge.rw_pc0066_01.row.prog w) (ktrTop dp un gd cn cs L a ccd cl outer) (call (.ref 40) [.str x tx, .int spot ts, .int many tm]) Q E s := by
  w_top off
  revert X; k_fill; intro X
  have N1 : News h₀ L s.heap [] := News.nil
  have N2 := Mine.hid N
  clear N
  have e1 : Txt.slice x (some (spot + 1)) (some (spot + 2)) = chS x.cps[(spot + 1).toNat]? := slice_ch (by omega) (by omega)
  have e2 : Txt.slice x (some (spot + 2)) (some (spot + 3)) = chS x.cps[(spot + 2).toNat]? := slice_ch (by omega) (by omega)
  generalize x.cps[(spot + 1).toNat]? = o1 at *
  generalize x.cps[(spot + 2).toNat]? = o2 at *
  refine wpAny_call ?_
  k_dflt walk_at "my enter"
  rename_i g' L' h' FG F' N' B' X' T' GS
  have hc1 : o1 = none ∨ ∃ c1, o1 = some c1 := by cases o1 <;> simp
  have hc2 : o2 = none ∨ ∃ c2, o2 = some c2 := by cases o2 <;> simp
  rcases hc1 with rfl | ⟨c1, rfl⟩
  rotate_left
  by_cases hf1 : 48 ≤ c1 ∧ c1 ≤ 57
  rcases hc2 with rfl | ⟨c2, rfl⟩
  rotate_left
  by_cases hf2 : 48 ≤ c2 ∧ c2 ≤ 57
  all_goals k_steps
  all_goals (with_reducible rename Fr g' L' _ _ => Fz)
  all_goals (with_reducible rename News g' L' _ _ => Nz)
  all_goals (with_reducible rename News h₀ L _ _ => Nr)
  all_goals refine ret _ _ _ _ _ _ _ ?_ (by assumption) (news_consM Nr (by k_mem) (news_all N2.out GS Fz)) (ne_new0 N2.out GS (news_one Nz (by k_mem)))
  all_goals clear ret Fz Nz Nr N1 N2 GS B F X T FG B' X' T' hd hun
  all_goals dsimp only [toldN]
  all_goals ((repeat' split) <;> first | rfl | (exfalso; omega))
end
local macro_rules | `(tactic| walk_at "call ref") => `(tactic| (k_here; (with_reducible show wpAny _ _ (call (Value.ref 40) _ _) _ _ _); k_dflt (refine' told_call ?kB ?kF ?kX ?kN ?kT ?khk ?ks0 ?ks1 ?km0 ?km1 ?kxl ?khd ?khun ?_; (case kB => k_asm); (case kF => k_asm); (case kX => k_asm); (case kN => k_asm); (case kT => k_asm); (case khk => first | exact rfl | assumption); (case ks0 => omega); (case ks1 => omega); (case km0 => omega); (case km1 => omega); (case kxl => omega); (case khd => ktr_room); (case khun => ktr_units); k_whole); intro a' b' t' t' ad' h' tk' he' F' N' l1; (try (have he2 := he'.trans (by assumption); simp only [Prod.mk.injEq] at he2; obtain ⟨ha2, hb2⟩ := he2; clear he'; subst ha2 hb2)); (replace l1 := allNe_of l1; simp only [AllNe, and_true] at l1); (try k_sweep)))
/-- a value that is None or a stretch -/
inductive SpanV (h : Heap) : Value → Option (Int × Int) → Prop where
  | none : SpanV h .none none
  | tup {a : Addr} {b e : Int} {t1 t2 : Tok} (ht : IsTup h a #[.int b t1, .int e t2]) (h0 : 0 ≤ b) (h1 : b ≤ e) (h2 : e ≤ 1000) : SpanV h (.ref a) (some (b, e))
theorem SpanV.keeps {h h' : Heap} {v : Value} {o : Option (Int × Int)} (x : SpanV h v o) (hk : ∀ b o, h.get? b = some o → h'.get? b = some o) : SpanV h' v o := by
  cases x with
  | none => exact .none
  | tup ht h0 h1 h2 => exact .tup (ht.keeps hk) h0 h1 h2
inductive SpanVs (h : Heap) : List Value → List (Option (Int × Int)) → Prop where
  | nil : SpanVs h [] []
  | cons {v : Value} {o : Option (Int × Int)} {vs : List Value} {G : List (Option (Int × Int))} : SpanV h v o → SpanVs h vs G → SpanVs h (v :: vs) (o :: G)
theorem SpanVs.length {h : Heap} {vs : List Value} {T : List (Option (Int × Int))} (x : SpanVs h vs T) : vs.length = T.length := by
  induction x with
  | nil => rfl
  | cons _ _ ih => simp [ih]
theorem SpanVs.keeps {h h' : Heap} {vs : List Value} {T : List (Option (Int × Int))} (x : SpanVs h vs T) (hk : ∀ b o, h.get? b = some o → h'.get? b = some o) : SpanVs h' vs T := by
  induction x with
  | nil => exact .nil
  | cons a _ ih => exact .cons (a.keeps hk) ih
theorem SpanVs.at {h : Heap} {vs : List Value} {T : List (Option (Int × Int))} (x : SpanVs h vs T) : ∀ i, i < T.length → ∃ v, vs[i]? = some v ∧ SpanV h v (T.getD i none) := by
  induction x with
  | nil => intro i hi; exact absurd hi (Nat.not_lt_zero _)
  | cons hv _ ih =>
    intro i hi
    cases i with
    | zero => exact ⟨_, rfl, hv⟩
    | succ i => exact ih i (by simpa using hi)
theorem SpanVs.snoc {h : Heap} {vs : List Value} {T : List (Option (Int × Int))} (x : SpanVs h vs T) {v : Value} {o : Option (Int × Int)} (hv : SpanV h v o) : SpanVs h (vs ++ [v]) (T ++ [o]) := by
  induction x with
  | nil => exact .cons hv .nil
  | cons a _ ih => exact .cons a ih
theorem OptV.ways {v : Value} {o : Option Str} (h : OptV v o) : (v = .none ∧ o = Option.none) ∨ ∃ x t, v = .str x t ∧ o = some x := by
  cases h with
  | none => exact .inl ⟨rfl, rfl⟩
  | str x t => exact .inr ⟨x, t, rfl, rfl⟩
/-- the stretch's text -/
def spanS (x : Str) (o : Option (Int × Int)) : Option Str := o.map fun p => Txt.slice x (some p.1) (some p.2)
theorem isTup_up {g H : Heap} {b : Addr} {its : Array Value} {adr : List Addr} (G : GSub H g adr) (hl : IsTup H b its) (hn : b ∉ adr) : IsTup g b its := by
  obtain ⟨o, e, r⟩ := hl; exact ⟨o, G _ _ e hn, r⟩
theorem tup_item {prog : Program} {w : World} {A : Around} {E : Value → Shared → Prop} {s : Shared} {value slice : PySem.Expr} {l : Addr} {vs : List Value} {k : Int} {j : Nat} {u : Tok} {v : Value} {Q : Value → Shared → Prop}
    (hl : IsTup s.heap l vs.toArray) (hlo : -(2 ^ 63) ≤ k) (hhi : k < 2 ^ 63) (hj : seqIndex? k vs.length = some j) (hx : vs[j]? = some v) (h : Q v s)
    (hs : subscripted slice false (.ref l) (.int k u) = operate [.ref l, .int k u] (getItem (.ref l) (.int k u)) := by with_unfolding_all rfl) :
    wpAny (model prog w) A (subscriptTail value slice (.ref l) (.int k u)) Q E s := item_tupleT hl hlo hhi (by simpa using hj) (by simpa using hx) h hs
local macro_rules | `(tactic| walk_at "my tup") => `(tactic| first | assumption | exact News.isTup (by k_asm) (by k_mem) | (refine IsTup.keeps (by assumption) ?_; exact Fr.keep (by assumption)))
local macro_rules | `(tactic| walk_at "subscriptTail") => `(tactic| (k_here; (with_reducible show wpAny _ _ (subscriptTail _ _ (Value.ref _) (Value.int _ _)) _ _ _); (with_unfolding_all refine' item_tupleT ?k1 ?k2 ?k3 ?k4 ?k5 ?_ ?k6; (case k1 => walk_at "my tup"); (case k2 => decide); (case k3 => decide); (case k4 => rfl); (case k5 => rfl); (case k6 => with_unfolding_all rfl); k_whole)))
set_option maxRecDepth 100000 in
set_option maxHeartbeats 8000000 in
theorem span_call {w : World} {loose : List Str} {mean : ExcName → Option Value} {mg mb : Str → Option Value} {dp un : Nat} {gd : Option (List Code)} {cn : Str} {cs : Scope} {a : Addr} {ccd : Value} {cl : List (Str × Addr)} {outer : List Env} {A₀ : Around} {base h₀ : Heap} {L : Addr} {m : Str → Option Value} {s : Shared} {Q E : Value → Shared → Prop}
    {x : Str} {tx : Tok} {v : Value} {o : Option (Int × Int)} {news : List (Addr × Obj)}
    (B : Below A₀ base outer h₀) (F : Fr h₀ L s.heap m) (X : (Mine.hd.heap_1 w.params).In h₀) (N : News h₀ L s.heap news) (T : Top Mine.view loose mean mg mb h₀) (hk : cs.kind = .function)
    (hv : SpanV s.heap v o) (hxl : x.length ≤ 10000) (hd : dp + 1 < recursionLimit) (hun : un + 8 < cLine)
    (ret : ∀ r h' tk', OptV r (spanS x o) → Fr h₀ L h' m → News h₀ L h' news → Q r {s with heap := h', toks := tk'}) :
    wpAny (model PySem.Challenge.rw_pc0066_01.row.prog w) (ktrTop dp un gd cn cs L a ccd cl outer) (call (.ref 21) [.str x tx, v]) Q E s := by
  w_top off
  revert X; k_fill; intro X
  have N1 : News h₀ L s.heap [] := News.nil
  have N2 := Mine.hid N
  clear N
  refine wpAny_call ?_
  cases hv with
  | none =>
    k_dflt walk_at "my enter"
    rename_i g' L' h' FG F' N' B' X' T' GS
    k_steps
    (with_reducible rename Fr g' L' _ _ => Fz)
    exact ret _ _ _ .none (by assumption) (news_all N2.out GS Fz)
  | tup ht h0 h1 h2 =>
    k_dflt walk_at "my enter"
    rename_i g' L' h' FG F' N' B' X' T' GS
    have ht' := isTup_up GS ht (by simp)
    clear ht
    k_steps
    (with_reducible rename Fr g' L' _ _ => Fz)
    exact ret _ _ _ (.str _ _) (by assumption) (news_all N2.out GS Fz)
local macro_rules | `(tactic| walk_at "my span") => `(tactic| first | assumption | (refine SpanV.keeps (by assumption) ?_; exact Fr.keep (by assumption)))
local macro_rules | `(tactic| walk_at "call ref") => `(tactic| (k_here; (with_reducible show wpAny _ _ (call (Value.ref 21) _ _) _ _ _); k_dflt (refine' span_call ?kB ?kF ?kX ?kN ?kT ?khk ?khv ?kxl ?khd ?khun ?_; (case kB => k_asm); (case kF => k_asm); (case kX => k_asm); (case kN => k_asm); (case kT => k_asm); (case khk => first | exact rfl | assumption); (case khv => walk_at "my span"); (case kxl => omega); (case khd => ktr_room); (case khun => ktr_units); k_whole); intro r' h' tk' hr' F' N'; (try k_sweep)))
section
/-- one turn of the filling: what is given out, how many signs are taken -/
def stepL (A B C : List Nat) (T : List (Option Str)) (c : Nat) (o1 o2 : Option Nat) : List Nat × Nat :=
  if c = 36 then
    if o1 = some 36 then ([36], 2) else if o1 = some 38 then (A, 2) else if o1 = some 96 then (B, 2) else if o1 = some 39 then (C, 2)
    else if 0 < (toldN o1 o2 T.length).2 then ((grpS T (toldN o1 o2 T.length).1).cps.toList, (1 + (toldN o1 o2 T.length).2).toNat)
    else ([36], 1)
  else ([c], 1)
/-- the whole filling -/
def fgL (A B C : List Nat) (T : List (Option Str)) (l : List Nat) : List Nat :=
  match l with
  | [] => []
  | c :: r => (stepL A B C T c r[0]? r[1]?).1 ++ fgL A B C T (r.drop ((stepL A B C T c r[0]? r[1]?).2 - 1))
termination_by l.length
decreasing_by simp only [List.length_drop, List.length_cons]; omega
section
variable {A B C : List Nat} {T : List (Option Str)}
theorem fgL_nil : fgL A B C T [] = [] := by rw [fgL]
theorem fgL_cons (c : Nat) (r : List Nat) : fgL A B C T (c :: r) = (stepL A B C T c r[0]? r[1]?).1 ++ fgL A B C T (r.drop ((stepL A B C T c r[0]? r[1]?).2 - 1)) := by rw [fgL]
theorem toldN_bounds (o1 o2 : Option Nat) (many : Int) : toldN o1 o2 many = (0, 0) ∨ (((toldN o1 o2 many).2 = 1 ∨ ((toldN o1 o2 many).2 = 2 ∧ ∃ c2, o2 = some c2)) ∧ 1 ≤ (toldN o1 o2 many).1 ∧ (toldN o1 o2 many).1 ≤ many ∧ ∃ c1, o1 = some c1) := by
  unfold toldN
  cases o1 with
  | none => simp
  | some c1 =>
    dsimp only
    split
    · cases o2 with
      | none => dsimp only; split <;> simp_all
      | some c2 => dsimp only; split <;> (try split) <;> simp_all
    · simp
theorem stepL_pos (c : Nat) (o1 o2 : Option Nat) : 1 ≤ (stepL A B C T c o1 o2).2 := by
  unfold stepL
  repeat' split
  all_goals first | decide | omega
theorem fg_step {l : List Nat} {s c : Nat} (hc : l[s]? = some c) :
    fgL A B C T (l.drop s) = (stepL A B C T c l[s + 1]? l[s + 2]?).1 ++ fgL A B C T (l.drop (s + (stepL A B C T c l[s + 1]? l[s + 2]?).2)) := by
  have hs : s < l.length := by
    rcases Nat.lt_or_ge s l.length with h | h
    · exact h
    · rw [List.getElem?_eq_none h] at hc; cases hc
  have e0 : l[s] = c := by rw [List.getElem?_eq_getElem hs] at hc; exact Option.some.inj hc
  have h1 : (l.drop (s + 1))[0]? = l[s + 1]? := by rw [List.getElem?_drop]
  have h2 : (l.drop (s + 1))[1]? = l[s + 2]? := by rw [List.getElem?_drop]
  have hp := stepL_pos (A := A) (B := B) (C := C) (T := T) c l[s + 1]? l[s + 2]?
  rw [List.drop_eq_getElem_cons hs, fgL_cons, e0, h1, h2, List.drop_drop]
  congr 3
  omega
end
end
/-- the walk stops here -/
structure Stop (P : Prop) : Prop where
  out : P
theorem stop_here {P : Prop} (h : Stop P) : P := h.out
structure FS where
  spot : Int
  ts : Tok
  its : Array Value
  n : Nat
  ys : List Str
def knd (w : World) := PySem.strKind PySem.Challenge.rw_pc0066_01.row.prog w
theorem fill_pack {w : World} {g h : Heap} {L fl d gl : Addr} {m : Str → Option Value} {o : Obj} {news : List (Addr × Obj)} {tpl txt x1 x2 x3 : Str} {tp tx ts t0 t1 t2 t3 : Tok}
    (F : Fr g L h m) (N : News g L h news) (hd : Obj.IsDictOf (PySem.strKind PySem.Challenge.rw_pc0066_01.row.prog w) o [(Str.ofString "$", .str (Str.ofString "$") t0), (Str.ofString "&", .str x1 t1), (Str.ofString "`", .str x2 t2), (Str.ofString "'", .str x3 t3)])
    (n1 : (fl, listOf #[] 0) ∈ news) (n2 : (d, o) ∈ news) (m1 : m (Str.ofString "found") = some (.ref fl)) (m2 : m (Str.ofString "spot") = some (.int 0 ts)) (m3 : m (Str.ofString "template") = some (.str tpl tp)) (m4 : m (Str.ofString "text") = some (.str txt tx))
    (m5 : m (Str.ofString "groups") = some (.ref gl)) (m6 : m (Str.ofString "plain") = some (.ref d)) (lo : (d == sysModules) = false) (ne : @Ne Nat d fl) :
    ∃ (fl d : Addr) (o : Obj) (m : Str → Option Value) (ts t0 t1 t2 t3 : Tok), Fr g L h m ∧ News g L h [(fl, listOf #[] 0), (d, o)] ∧ Obj.IsDictOf (PySem.strKind PySem.Challenge.rw_pc0066_01.row.prog w) o [(Str.ofString "$", .str (Str.ofString "$") t0), (Str.ofString "&", .str x1 t1), (Str.ofString "`", .str x2 t2), (Str.ofString "'", .str x3 t3)]
      ∧ m (Str.ofString "found") = some (.ref fl) ∧ m (Str.ofString "spot") = some (.int 0 ts) ∧ m (Str.ofString "template") = some (.str tpl tp) ∧ m (Str.ofString "text") = some (.str txt tx) ∧ m (Str.ofString "groups") = some (.ref gl) ∧ m (Str.ofString "plain") = some (.ref d) ∧ (d == sysModules) = false ∧ @Ne Nat d fl :=
  ⟨fl, d, o, m, ts, t0, t1, t2, t3, F, fun p hp => by
    rcases List.mem_cons.mp hp with rfl | hp
    · exact N _ n1
    · rw [List.mem_singleton.mp hp]; exact N _ n2, hd, m1, m2, m3, m4, m5, m6, lo, ne⟩
/-- what holds between two turns -/
structure FInv (tpl : Str) (A B C : List Nat) (T : List (Option Str)) (c : FS) : Prop where
  s0 : 0 ≤ c.spot
  s1 : c.spot ≤ tpl.length
  are : StrsAre c.its.toList c.ys
  len : (c.its.size : Int) ≤ c.spot
  wt : ((c.ys.map (·.length)).sum : Int) + c.ys.length ≤ 12 * c.spot
  res : (c.ys.flatMap (·.cps.toList)) ++ fgL A B C T (tpl.cps.toList.drop c.spot.toNat) = fgL A B C T tpl.cps.toList
theorem item_sign {prog : Program} {w : World} {A : Around} {E : Value → Shared → Prop} {s : Shared} {value slice : PySem.Expr} {x : Str} {i : Int} {c : Nat} {t u : Tok} {Q : Value → Shared → Prop} (h0 : 0 ≤ i) (hc : x.cps[i.toNat]? = some c) (hl : x.length ≤ 100000)
    (h : ∀ t' k, Q (.str ⟨#[c]⟩ t') { s with toks := k })
    (hs : subscripted slice false (.str x t) (.int i u) = operate [.str x t, .int i u] (getItem (.str x t) (.int i u)) := by with_unfolding_all rfl)
    (ht : ∀ r, letTemporaryGo value (.str x t) r = pure () := by intro _; with_unfolding_all rfl) :
    wpAny (model prog w) A (subscriptTail value slice (.str x t) (.int i u)) Q E s := by
  have hi : i.toNat < x.cps.size := by
    rcases Nat.lt_or_ge i.toNat x.cps.size with q | q
    · exact q
    · rw [Array.getElem?_eq_none q] at hc; cases hc
  have hi' : i < x.length := by unfold Str.length; omega
  have e : Txt.item x i = ⟨#[c]⟩ := item_meets h0 hc
  refine tail_of_ItemOn (SBL.item (by omega) hi' (by omega) fun _ => ?_) hs ht
  rw [e]; exact h _ _
theorem slice_known {prog : Program} {w : World} {A : Around} {E : Value → Shared → Prop} {s : Shared} {h₀ : Heap} {L : Addr} {m : Str → Option Value} {news : List (Addr × Obj)} {value slice : PySem.Expr} {x y : Str} {i j : Int} {t ui uj : Tok} {Q : Value → Shared → Prop} (e : Txt.slice x (some i) (some j) = y) (hF : Fr h₀ L s.heap m) (hN : News h₀ L s.heap news)
    (h : ∀ h' t' k, Fr h₀ L h' m → News h₀ L h' news → Q (.str y t') { s with heap := h', toks := k }) (hl : x.length ≤ 100000)
    (hs : subscripted slice false (.str x t) (.ref s.heap.objs.size) = operate [.ref s.heap.objs.size, .str x t] (getItem (.str x t) (.ref s.heap.objs.size)) := by with_unfolding_all rfl)
    (ht : ∀ r, letTemporaryGo value (.str x t) r = pure () := by intro _; with_unfolding_all rfl) :
    wpAny (model prog w) A (subscriptTail value slice (.str x t) (.ref s.heap.objs.size)) Q E { s with heap := s.heap.push { cls := .type "slice", data := .fields #[.int i ui, .int j uj, .none] } } := by
  subst e
  exact slice_strN_ss hF hN h hs ht (by rw [sizeLine_eq]; omega)
theorem eq_known {prog : Program} {w : World} {A : Around} {E : Value → Shared → Prop} {s : Shared} {x y : Str} {t u : Tok} {b : Bool} {Q : Value → Shared → Prop} (e : (x.cps.toList == y.cps.toList) = b) (h : Q (.bool b) s) : wpAny (model prog w) A (compareOp .Eq (.str x t) (.str y u)) Q E s := by
  subst e; exact P.eq_str h
theorem len_spans {prog : Program} {w : World} {A : Around} {E : Value → Shared → Prop} {s : Shared} {l : Addr} {vs : List Value} {n : Nat} {Q : Value → Shared → Prop}
    (hl : s.heap.IsList l vs.toArray) (hT : vs.length = n) (hz : n ≤ 1000) (h : Q (.int n (s.toks + 1)) { s with toks := s.toks + 1 + 1 }) :
    wpAny (model prog w) A (call (.builtin "len") [.ref l]) Q E s := by
  have e : vs.toArray.size = n := by rw [List.size_toArray]; exact hT
  refine len_list hl (by rw [e]; omega) ?_
  rw [e]; exact h
local macro_rules | `(tactic| walk_at "subscriptTail Name Name str int") => `(tactic| ((with_reducible show wpAny _ _ (subscriptTail _ _ (Value.str _ _) (Value.int _ _)) _ _ _); refine' item_sign ?k1 ?k2 ?k3 ?_; (case k2 => assumption); (case k1 => omega); (case k3 => omega); intro t' k'))
local macro_rules | `(tactic| walk_at "subscriptTail Name Slice str ref") => `(tactic| ((with_reducible show wpAny _ _ (subscriptTail _ (Expr.Slice (some _) (some _) none _) _ _) _ _ _); (with_reducible rename Fr _ _ _ _ => F'); (with_reducible rename News _ _ _ _ => N'); (refine' slice_known (s := ⟨_, _, _, _, _⟩) ?k1 F' N' ?_ ?k2); (case k1 => assumption); (case k2 => omega); intro h' t' k' F' N'))
local macro_rules | `(tactic| walk_at "compareOp Eq str str") => `(tactic| ((with_reducible show wpAny _ _ (compareOp CmpOp.Eq (Value.str _ _) (Value.str _ _)) _ _ _); refine' eq_known ?k1 ?_; (case k1 => assumption)))
local macro_rules | `(tactic| walk_at "newTuple") => `(tactic| (k_here; k_dflt (refine' kup_newTuple ?F ?N ?_ ?z; (case F => k_asm); (case N => k_asm); (case z => kmk_size)); intro D' h' F' N' l1; (try k_lt l1); (try k_sweep)))
local macro_rules | `(tactic| walk_at "call builtin:list.append") => `(tactic| (k_here; (with_reducible show wpAny _ _ (call (Value.builtin "list.append") [Value.ref _, _]) _ _ _); k_dflt (refine' append_K ?k1 ?k2 ?k3 ?_ ?z; (case k1 => k_asm); (case k2 => k_asm); (case k3 => k_upd); (case z => (rw [sizeLine_eq]; omega)); k_whole); intro h' F' N'; (try k_sweep)))
local macro_rules | `(tactic| walk_at "call builtin:str.join") => `(tactic| (k_here; (with_reducible show wpAny _ _ (call (Value.builtin "str.join") [Value.str _ _, Value.ref _]) _ _ _); k_dflt (refine' join_listW (News.isList (by k_asm) (by k_mem)) ?k1 ?k2 ?k3 ?_; (case k1 => assumption); (case k2 => decide); (case k3 => assumption); k_whole); intro t' k'))
local macro_rules | `(tactic| walk_at "call builtin:len") => `(tactic| (k_here; (with_reducible show wpAny _ _ (call (Value.builtin "len") [Value.ref _]) _ _ _); k_dflt (refine' len_spans ?k1 ?k2 ?k3 ?_; (case k1 => walk_at "my list"); (case k2 => with_reducible assumption); (case k3 => omega); k_whole)))
section
local macro_rules | `(tactic| walk_at "KswEnd") => `(tactic| refine stop_here ?_)
theorem in_plain_no {w : World} {A : Around} {E : Value → Shared → Prop} {s : Shared} {h₀ : Heap} {L d : Addr} {o : Obj} {news : List (Addr × Obj)} {kvs : List (Str × Value)} {x : Str} {t : Tok} {Q : Value → Shared → Prop} (N : News h₀ L s.heap news) (hm : (d, o) ∈ news)
    (hd : Obj.IsDictOf (PySem.strKind PySem.Challenge.rw_pc0066_01.row.prog w) o kvs) (lo : (d == sysModules) = false) (hv : valueAt kvs x = none) (h : Q (.bool false) { s with toks := s.toks + 1 }) :
    wpAny (model PySem.Challenge.rw_pc0066_01.row.prog w) A (compareOp .In (.str x t) (.ref d)) Q E s := by
  have D : s.heap.DictOf (PySem.strKind PySem.Challenge.rw_pc0066_01.row.prog w) d kvs := Heap.dictOf_iff.mpr ⟨o, (N _ hm).1, hd⟩
  refine wpAny_in_of (strKind_is _ _ _ _) lo D.mapOf ?_
  rw [hv]; exact h
theorem in_plain_yes {w : World} {A : Around} {E : Value → Shared → Prop} {s : Shared} {h₀ : Heap} {L d : Addr} {o : Obj} {news : List (Addr × Obj)} {kvs : List (Str × Value)} {x : Str} {v : Value} {t : Tok} {Q : Value → Shared → Prop} (N : News h₀ L s.heap news) (hm : (d, o) ∈ news)
    (hd : Obj.IsDictOf (PySem.strKind PySem.Challenge.rw_pc0066_01.row.prog w) o kvs) (lo : (d == sysModules) = false) (hv : valueAt kvs x = some v) (h : Q (.bool true) { s with toks := s.toks + 1 }) :
    wpAny (model PySem.Challenge.rw_pc0066_01.row.prog w) A (compareOp .In (.str x t) (.ref d)) Q E s := by
  have D : s.heap.DictOf (PySem.strKind PySem.Challenge.rw_pc0066_01.row.prog w) d kvs := Heap.dictOf_iff.mpr ⟨o, (N _ hm).1, hd⟩
  refine wpAny_in_of (strKind_is _ _ _ _) lo D.mapOf ?_
  rw [hv]; exact h
theorem at_plain {w : World} {A : Around} {E : Value → Shared → Prop} {s : Shared} {h₀ : Heap} {L d : Addr} {o : Obj} {news : List (Addr × Obj)} {kvs : List (Str × Value)} {x : Str} {v : Value} {t : Tok} {value slice : PySem.Expr} {Q : Value → Shared → Prop} (N : News h₀ L s.heap news) (hm : (d, o) ∈ news)
    (hd : Obj.IsDictOf (PySem.strKind PySem.Challenge.rw_pc0066_01.row.prog w) o kvs) (hv : valueAt kvs x = some v) (h : Q v { s with toks := s.toks + 1 })
    (hs : subscripted slice false (.ref d) (.str x t) = operate [.ref d, .str x t] (getItem (.ref d) (.str x t)) := by with_unfolding_all rfl) :
    wpAny (model PySem.Challenge.rw_pc0066_01.row.prog w) A (subscriptTail value slice (.ref d) (.str x t)) Q E s := by
  have D : s.heap.DictOf (PySem.strKind PySem.Challenge.rw_pc0066_01.row.prog w) d kvs := Heap.dictOf_iff.mpr ⟨o, (N _ hm).1, hd⟩
  exact tail_any D.mapOf.typeIs slot_dict_getitem.lookup (wpAny_getItem_of (strKind_is _ _ _ _) D.mapOf hv h) hs
local macro_rules | `(tactic| walk_at "compareOp In str ref") => `(tactic| (k_here; (with_reducible show wpAny _ _ (compareOp CmpOp.In (Value.str _ _) (Value.ref _)) _ _ _); k_dflt (refine' in_plain_yes ?k1 ?k2 ?k3 ?k4 ?k5 ?_; (case k1 => k_asm); (case k3 => assumption); (case k2 => k_mem); (case k4 => assumption); (case k5 => assumption); k_whole)))
local macro_rules | `(tactic| walk_at "subscriptTail") => `(tactic| (k_here; (with_reducible show wpAny _ _ (subscriptTail _ _ (Value.ref _) (Value.str _ _)) _ _ _); (with_unfolding_all refine' at_plain ?k1 ?k2 ?k3 ?k5 ?_ ?k6; (case k1 => k_asm); (case k3 => assumption); (case k2 => k_mem); (case k5 => assumption); (case k6 => with_unfolding_all rfl); k_whole)))
local macro_rules | `(tactic| walk_at "compareOp In str ref") => `(tactic| (k_here; (with_reducible show wpAny _ _ (compareOp CmpOp.In (Value.str _ _) (Value.ref _)) _ _ _); k_dflt (refine' in_plain_no ?k1 ?k2 ?k3 ?k4 ?k5 ?_; (case k1 => k_asm); (case k3 => assumption); (case k2 => k_mem); (case k4 => assumption); (case k5 => assumption); k_whole)))
theorem valueAt_no {c : Nat} {v0 v1 v2 v3 : Value} (h0 : ¬ c = 36) (h1 : ¬ c = 38) (h2 : ¬ c = 96) (h3 : ¬ c = 39) : valueAt [(Str.ofString "$", v0), (Str.ofString "&", v1), (Str.ofString "`", v2), (Str.ofString "'", v3)] (⟨#[c]⟩ : Str) = none := by
  have e0 : Str.ofString "$" = ⟨#[36]⟩ := by decide +kernel
  have e1 : Str.ofString "&" = ⟨#[38]⟩ := by decide +kernel
  have e2 : Str.ofString "`" = ⟨#[96]⟩ := by decide +kernel
  have e3 : Str.ofString "'" = ⟨#[39]⟩ := by decide +kernel
  rw [e0, e1, e2, e3]
  have z : ∀ {a b : Nat}, ¬ b = a → ¬ ((⟨#[a]⟩ : Str) = ⟨#[b]⟩) := fun h q => h (by injection q with q; simpa using q.symm)
  simp [valueAt, z h0, z h1, z h2, z h3]
theorem strsAre_snoc {vs : List Value} {ys : List Str} {y : Str} {t : Tok} (h : StrsAre vs ys) : StrsAre (vs ++ [.str y t]) (ys ++ [y]) := by
  induction h with
  | nil => exact .cons y t .nil
  | cons a b _ ih => exact .cons a b ih
theorem valueAt_nil {v0 v1 v2 v3 : Value} : valueAt [(Str.ofString "$", v0), (Str.ofString "&", v1), (Str.ofString "`", v2), (Str.ofString "'", v3)] (Str.ofString "") = none := by
  have e0 : Str.ofString "$" = ⟨#[36]⟩ := by decide +kernel
  have e1 : Str.ofString "&" = ⟨#[38]⟩ := by decide +kernel
  have e2 : Str.ofString "`" = ⟨#[96]⟩ := by decide +kernel
  have e3 : Str.ofString "'" = ⟨#[39]⟩ := by decide +kernel
  have e4 : Str.ofString "" = ⟨#[]⟩ := by decide +kernel
  rw [e0, e1, e2, e3, e4]
  simp [valueAt]
theorem is_dollar : ((⟨#[36]⟩ : Str).cps.toList == (Str.ofString "$").cps.toList) = true := by decide +kernel
theorem no_dollar {c : Nat} (h : ¬ c = 36) : ((⟨#[c]⟩ : Str).cps.toList == (Str.ofString "$").cps.toList) = false := by
  have e : (Str.ofString "$").cps.toList = [36] := by decide +kernel
  rw [e]
  show ([c] == [36]) = false
  simp [h]
/-- what '$' and the next sign bring -/
theorem plain_ways {x0 x1 x2 : Str} {t0 t1 t2 t3 : Tok} (T : List (Option Str)) (o1 o2 : Option Nat) :
    (∃ z tz, valueAt [(Str.ofString "$", .str (Str.ofString "$") t0), (Str.ofString "&", .str x0 t1), (Str.ofString "`", .str x1 t2), (Str.ofString "'", .str x2 t3)] (chS o1) = some (.str z tz) ∧ o1.isSome = true ∧ (z = x0 ∨ z = x1 ∨ z = x2 ∨ z = Str.ofString "$") ∧ stepL x0.cps.toList x1.cps.toList x2.cps.toList T 36 o1 o2 = (z.cps.toList, 2)) ∨
    (valueAt [(Str.ofString "$", .str (Str.ofString "$") t0), (Str.ofString "&", .str x0 t1), (Str.ofString "`", .str x1 t2), (Str.ofString "'", .str x2 t3)] (chS o1) = none ∧
      stepL x0.cps.toList x1.cps.toList x2.cps.toList T 36 o1 o2 = if 0 < (toldN o1 o2 T.length).2 then ((grpS T (toldN o1 o2 T.length).1).cps.toList, (1 + (toldN o1 o2 T.length).2).toNat) else ([36], 1)) := by
  have e0 : Str.ofString "$" = ⟨#[36]⟩ := by decide +kernel
  have e1 : Str.ofString "&" = ⟨#[38]⟩ := by decide +kernel
  have e2 : Str.ofString "`" = ⟨#[96]⟩ := by decide +kernel
  have e3 : Str.ofString "'" = ⟨#[39]⟩ := by decide +kernel
  cases o1 with
  | none => exact .inr ⟨by rw [e0, e1, e2, e3]; simp [valueAt, chS], by simp [stepL]⟩
  | some c =>
    by_cases h0 : c = 36
    · subst h0; exact .inl ⟨_, t0, by rw [e0, e1, e2, e3]; simp [valueAt, chS], rfl, .inr (.inr (.inr e0.symm)), by simp [stepL]⟩
    · by_cases h1 : c = 38
      · subst h1; exact .inl ⟨x0, t1, by rw [e0, e1, e2, e3]; simp [valueAt, chS], rfl, .inl rfl, by simp [stepL]⟩
      · by_cases h2 : c = 96
        · subst h2; exact .inl ⟨x1, t2, by rw [e0, e1, e2, e3]; simp [valueAt, chS], rfl, .inr (.inl rfl), by simp [stepL]⟩
        · by_cases h3 : c = 39
          · subst h3; exact .inl ⟨x2, t3, by rw [e0, e1, e2, e3]; simp [valueAt, chS], rfl, .inr (.inr (.inl rfl)), by simp [stepL]⟩
          · exact .inr ⟨valueAt_no h0 h1 h2 h3, by simp [stepL, h0, h1, h2, h3]⟩
theorem finv_step {tpl y : Str} {A B C : List Nat} {T : List (Option Str)} {c : FS} {c0 k : Nat} {j : Int} {ts' ty : Tok} {n' : Nat} (I : FInv tpl A B C T c) (hc : tpl.cps[c.spot.toNat]? = some c0)
    (hst : stepL A B C T c0 tpl.cps[(c.spot + 1).toNat]? tpl.cps[(c.spot + 2).toNat]? = (y.cps.toList, k)) (hy : y.length ≤ 11) (hj : j = c.spot + k) (hk : c.spot + k ≤ tpl.length) :
    FInv tpl A B C T ⟨j, ts', c.its.push (.str y ty), n', c.ys ++ [y]⟩ := by
  have i0 := I.s0
  have hk1 : 1 ≤ k := by
    have := stepL_pos (A := A) (B := B) (C := C) (T := T) c0 tpl.cps[(c.spot + 1).toNat]? tpl.cps[(c.spot + 2).toNat]?
    rw [hst] at this; exact this
  subst hj
  have i2 := I.len
  have i3 := I.wt
  refine ⟨by show (0 : Int) ≤ c.spot + (k : Int); omega, hk, ?_, ?_, ?_, ?_⟩
  · rw [Array.toList_push]
    exact strsAre_snoc I.are
  · show ((c.its.push (Value.str y ty)).size : Int) ≤ c.spot + (k : Int)
    simp only [Array.size_push]; omega
  · show (((c.ys ++ [y]).map (·.length)).sum : Int) + (c.ys ++ [y]).length ≤ 12 * (c.spot + (k : Int))
    simp only [List.map_append, List.map_cons, List.map_nil, List.sum_append, List.sum_cons, List.sum_nil, List.length_append, List.length_cons, List.length_nil]
    omega
  · rw [← I.res]
    have h0 : tpl.cps.toList[c.spot.toNat]? = some c0 := by simpa using hc
    have h1 : tpl.cps.toList[c.spot.toNat + 1]? = tpl.cps[(c.spot + 1).toNat]? := by rw [show (c.spot + 1).toNat = c.spot.toNat + 1 by omega]; simp
    have h2 : tpl.cps.toList[c.spot.toNat + 2]? = tpl.cps[(c.spot + 2).toNat]? := by rw [show (c.spot + 2).toNat = c.spot.toNat + 2 by omega]; simp
    rw [fg_step h0, h1, h2, hst]
    dsimp only
    rw [List.flatMap_append, List.append_assoc, show (c.spot + (k : Int)).toNat = c.spot.toNat + k by omega]
    simp
abbrev fLed (fl d : Addr) (o : Obj) (c : FS) : List (Addr × Obj) := [(fl, listOf c.its c.n), (d, o)]
abbrev fPs (fl d gl : Addr) (tpl txt : Str) (tp tx : Tok) (c : FS) : List (Str × Value) := [(Str.ofString "found", .ref fl), (Str.ofString "spot", .int c.spot c.ts), (Str.ofString "template", .str tpl tp), (Str.ofString "text", .str txt tx), (Str.ofString "groups", .ref gl), (Str.ofString "plain", .ref d)]
abbrev fSt : List Str := [Str.ofString "mark", Str.ofString "number", Str.ofString "figures", Str.ofString "held"]
abbrev fMu (tpl : Str) (c : FS) : Nat := (tpl.length - c.spot).toNat
theorem my_while {prog : Program} {w : World} {A : Around} {E : Value → Shared → Prop} {Q : Flow → Shared → Prop} {s : Shared} {env : Env} {h₀ : Heap} {L : Addr} {σ : Type} {test : Expr} {body : List Stmt} {pos : Pos} {m₀ : Str → Option Value} (Led : σ → List (Addr × Obj)) (ps : σ → List (Str × Value)) (stored : List Str) (P : σ → Prop) (μ : σ → Nat) (c₀ : σ)
    (F : Fr h₀ L s.heap m₀) (N : News h₀ L s.heap (Led c₀)) (hk : ∀ p ∈ ps c₀, m₀ p.1 = some p.2) (hp : P c₀)
    (turn : ∀ (c : σ) (u : Str → Option Value) h tk (KQ : Flow → Shared → Prop), P c → Fr h₀ L h (kstB (fun z => if stored.contains z then u z else m₀ z) (ps c)) → News h₀ L h (Led c) →
      (∀ s₂, KswEnd h₀ L s Led ps (fun _ => True) stored m₀ P μ c s₂ → KQ .next s₂) →
      wpAny (model prog w) A (isTrue test env (eval test env)) (fun b s₂ =>
        if b = true then wpAny (model prog w) A (execs body env) KQ E s₂ else Q .next s₂) E { s with heap := h, toks := tk })
    (hE : PassesOwn (model prog w) A env E := by passes_own) :
    wpAny (model prog w) A (exec (.While test body [] pos) env) Q E s :=
  ksw_while Led ps (fun _ => True) stored P μ c₀ F N trivial hk hp (fun c u h tk _ hp F N => turn c u h tk _ hp F N fun _ h => h) hE
theorem two_in {α : Type} {a b : α} {l : List α} (ha : a ∈ l) (hb : b ∈ l) : ∀ p ∈ [a, b], p ∈ l := fun p hp => by
  rcases List.mem_cons.mp hp with rfl | hp
  · exact ha
  · rw [List.mem_singleton.mp hp]; exact hb
theorem all6 {α : Type} {P : α → Prop} {a b c d e f : α} (ha : P a) (hb : P b) (hc : P c) (hd : P d) (he : P e) (hf : P f) : ∀ p ∈ [a, b, c, d, e, f], P p := fun p hp => by
  simp only [List.mem_cons, List.not_mem_nil, or_false] at hp
  rcases hp with rfl | rfl | rfl | rfl | rfl | rfl <;> assumption
theorem fill_end {g h' : Heap} {L fl d gl : Addr} {o : Obj} {tpl txt y : Str} {tp tx ts ty : Tok} {A B C : List Nat} {T : List (Option Str)} {c : FS} {c0 k n' : Nat} {j : Int} {m₀ m' : Str → Option Value} {news' : List (Addr × Obj)} {s9 : Shared} {tk : Nat}
    (I : FInv tpl A B C T c) (hc : tpl.cps[c.spot.toNat]? = some c0) (F : Fr g L h' m') (N : News g L h' news') (n1 : (fl, listOf (c.its.push (.str y ty)) n') ∈ news') (n2 : (d, o) ∈ news')
    (m1 : m' (Str.ofString "found") = some (.ref fl)) (m2 : m' (Str.ofString "spot") = some (.int j ts)) (m3 : m' (Str.ofString "template") = some (.str tpl tp)) (m4 : m' (Str.ofString "text") = some (.str txt tx)) (m5 : m' (Str.ofString "groups") = some (.ref gl)) (m6 : m' (Str.ofString "plain") = some (.ref d))
    (hr : ∀ z, (∀ p ∈ fPs fl d gl tpl txt tp tx ⟨j, ts, c.its.push (.str y ty), n', c.ys ++ [y]⟩, z ≠ p.1) → fSt.contains z = false → m' z = m₀ z)
    (hst : stepL A B C T c0 tpl.cps[(c.spot + 1).toNat]? tpl.cps[(c.spot + 2).toNat]? = (y.cps.toList, k)) (hy : y.length ≤ 11) (hj : j = c.spot + k) (hk : c.spot + k ≤ tpl.length) (hlt : c.spot < tpl.length) (hk1 : 1 ≤ k) :
    KswEnd g L s9 (fLed fl d o) (fPs fl d gl tpl txt tp tx) (fun _ => True) fSt m₀ (FInv tpl A B C T) (fMu tpl) c { s9 with heap := h', toks := tk } :=
  ksw_end ⟨j, ts, c.its.push (.str y ty), n', c.ys ++ [y]⟩ F N (two_in n1 n2) trivial (all6 m1 m2 m3 m4 m5 m6) hr (finv_step I hc hst hy hj hk) (by show (tpl.length - j).toNat < (tpl.length - c.spot).toNat; omega)
theorem cps_lt {x : Str} {i : Int} {c : Nat} (h : x.cps[i.toNat]? = some c) (h0 : 0 ≤ i) : i < x.length := by
  rcases Nat.lt_or_ge i.toNat x.cps.size with q | q
  · unfold Str.length; omega
  · rw [Array.getElem?_eq_none q] at h; cases h
theorem grpS_spans {txt : Str} {G : List (Option (Int × Int))} {q : Int} {o : Option (Int × Int)} {so : Option Str} (ho : G.getD (q - 1).toNat none = o) (hs : spanS txt o = so) : grpS (G.map (spanS txt)) q = so.getD (Str.ofString "") := by
  unfold grpS
  rw [← hs, ← ho]
  congr 1
  rw [List.getD_eq_getElem?_getD, List.getD_eq_getElem?_getD, List.getElem?_map]
  cases G[(q - 1).toNat]? <;> rfl
theorem spanS_le {txt x : Str} {o : Option (Int × Int)} (h : spanS txt o = some x) : x.length ≤ txt.length := by
  cases o with
  | none => cases h
  | some p => cases h; exact Txt.slice_le _ _ _
theorem sum_cast (l : List Nat) : (l.map fun n : Nat => (n : Int)).sum = (l.sum : Int) := by
  induction l with
  | nil => rfl
  | cons a r ih => simp only [List.map_cons, List.sum_cons, ih]; omega
theorem join_cps (ys : List Str) : (Txt.join (Str.ofString "") ys).cps.toList = ys.flatMap (·.cps.toList) := by
  have e : Txt.join (Str.ofString "") ys = Str.join (Str.ofString "") ys := StrLaws.glued_eq_join _ _
  rw [e]
  have e4 : (Str.ofString "").cps.toList = [] := by decide +kernel
  induction ys with
  | nil => rfl
  | cons x r ih =>
    cases r with
    | nil => simp [Str.join]
    | cons y r =>
      show ((x ++ Str.ofString "" ++ Str.join (Str.ofString "") (y :: r)) : Str).cps.toList = _
      rw [Str.cps_append, Str.cps_append, Array.toList_append, Array.toList_append, e4, ih (StrLaws.glued_eq_join _ _)]
      simp
local macro_rules | `(tactic| walk_at "my same") => `(tactic| (intro z h2 h3; (simp only [fPs, List.forall_mem_cons, List.not_mem_nil, false_implies, implies_true, and_true, ne_eq] at h2); (simp only [fSt, List.contains_cons, List.contains_nil, Bool.or_false, Bool.or_eq_false_iff, beq_eq_false_iff_ne, ne_eq] at h3); (simp [fPs, kstB, h2, h3])))
local macro_rules | `(tactic| walk_at "call ref") => `(tactic| (k_here; (with_reducible show wpAny _ _ (call (Value.ref 21) _ _) _ _ _); k_dflt (refine' span_call ?kB ?kF ?kX ?kN ?kT ?khk ?khv ?kxl ?khd ?khun ?_; (case kB => k_asm); (case kF => k_asm); (case kX => k_asm); (case kN => k_asm); (case kT => k_asm); (case khk => first | exact rfl | assumption); (case khv => walk_at "my span"); (case kxl => omega); (case khd => ktr_room); (case khun => ktr_units); k_whole); intro r' h' tk' hr' F' N'; (try k_sweep); (rcases hr'.ways with ⟨hr1, hr2⟩ | ⟨x', t', hr1, hr2⟩ <;> subst hr1)))
local macro_rules | `(tactic| walk_at "exec While Compare cons nil") => `(tactic| refine stop_here ?_)
set_option maxRecDepth 100000 in
set_option maxHeartbeats 8000000 in
theorem fill_call {w : World} {loose : List Str} {mean : ExcName → Option Value} {mg mb : Str → Option Value} {dp un : Nat} {gd : Option (List Code)} {cn : Str} {cs : Scope} {a : Addr} {ccd : Value} {cl : List (Str × Addr)} {outer : List Env} {A₀ : Around} {base h₀ : Heap} {L : Addr} {m : Str → Option Value} {s : Shared} {Q E : Value → Shared → Prop}
    {mt gl : Addr} {tpl txt : Str} {tp tx tb te : Tok} {b e : Int} {gvs : List Value} {G : List (Option (Int × Int))} {news : List (Addr × Obj)}
    (B : Below A₀ base outer h₀) (F : Fr h₀ L s.heap m) (X : (Mine.hd.heap_1 w.params).In h₀) (N : News h₀ L s.heap news) (T : Top Mine.view loose mean mg mb h₀) (hk : cs.kind = .function)
    (hM : IsTup s.heap mt #[.int b tb, .int e te, .ref gl]) (hG : s.heap.IsList gl gvs.toArray) (hS : SpanVs s.heap gvs G) (hb : 0 ≤ b) (hbe : b ≤ e) (hee : e ≤ txt.length) (htxt : txt.length ≤ 11) (htpl : tpl.length ≤ 100) (hG14 : G.length ≤ 14)
    (hd : dp + 3 < recursionLimit) (hun : un + 24 < cLine)
    (ret : ∀ r t h' tk', r.cps.toList = fgL (Txt.slice txt (some b) (some e)).cps.toList (Txt.slice txt none (some b)).cps.toList (Txt.slice txt (some e) none).cps.toList (G.map (spanS txt)) tpl.cps.toList → Fr h₀ L h' m → News h₀ L h' news → Q (.str r t) {s with heap := h', toks := tk'}) :
    wpAny (model PySem.Challenge.rw_pc0066_01.row.prog w) (ktrTop dp un gd cn cs L a ccd cl outer) (call (.ref 47) [.str tpl tp, .str txt tx, .ref mt]) Q E s := by
  w_top off
  revert X; k_fill; intro X
  have N1 : News h₀ L s.heap [] := News.nil
  have N2 := Mine.hid N
  clear N
  refine wpAny_call ?_
  k_dflt walk_at "my enter"
  rename_i g' L' h' FG F' N' B' X' T' GS
  have hM' := isTup_up GS hM (by simp)
  have hG' := isList_up GS hG (by simp)
  have hS' : SpanVs g' gvs G := hS.keeps fun b o e => GS b o e (by simp)
  have hGl := hS'.length
  clear hM hG hS
  k_steps
  refine Stop.mk ?_
  (with_reducible rename News g' L' _ _ => Nz)
  (with_reducible rename Fr g' L' _ _ => Fz)
  have hx := fill_pack (w := w) (tpl := tpl) (txt := txt) (tp := tp) (tx := tx) (gl := gl) Fz Nz (by assumption) (by k_mem) (by k_mem) rfl rfl rfl rfl rfl rfl (by assumption) (by k_ne)
  (rename Obj.IsDictOf _ _ _ => q1); clear q1
  (rename Obj.IsDictOf _ _ _ => q1); clear q1
  clear Fz Nz
  obtain ⟨fl, d, o, m₀, ts, t0, t1, t2, t3, Fw, Nw, hdo, m1, m2, m3, m4, m5, m6, lo, hne⟩ := hx
  try dsimp only at Fw
  try dsimp only at Nw
  try dsimp only
  refine my_while (σ := FS) (fLed fl d o) (fPs fl d gl tpl txt tp tx) fSt
    (FInv tpl (Txt.slice txt (some b) (some e)).cps.toList (Txt.slice txt none (some b)).cps.toList (Txt.slice txt (some e) none).cps.toList (G.map (spanS txt)))
    (fMu tpl) ⟨0, ts, #[], 0, []⟩ Fw Nw (all6 m1 m2 m3 m4 m5 m6) ⟨by simp, by simp, .nil, by simp, by simp, by simp⟩ ?turn
  intro c u h tk KQ hI Fc Nc hKQ
  have i0 := hI.s0
  have i1 := hI.s1
  have i2 := hI.len
  have i3 := hI.wt
  have hits : c.its.size ≤ 200 := by omega
  have hD := is_dollar
  have hA1 := Txt.slice_le txt (some b) (some e)
  have hB1 := Txt.slice_le txt none (some b)
  have hC1 := Txt.slice_le txt (some e) none
  replace Nc : News g' L' h [(fl, listOf c.its c.n), (d, o)] := Nc
  clear m1 m2 m3 m4 m5 m6 Fw Nw
  by_cases hlt : c.spot < tpl.length
  · have hc : ∃ c0, tpl.cps[c.spot.toNat]? = some c0 := by
      have : c.spot.toNat < tpl.cps.size := by unfold Str.length at hlt; omega
      exact ⟨_, Array.getElem?_eq_getElem this⟩
    obtain ⟨c0, hc⟩ := hc
    have e1 : Txt.slice tpl (some (c.spot + 1)) (some (c.spot + 2)) = chS tpl.cps[(c.spot + 1).toNat]? := slice_ch (by omega) (by omega)
    by_cases h36 : c0 = 36
    · subst h36
      rcases plain_ways (x0 := Txt.slice txt (some b) (some e)) (x1 := Txt.slice txt none (some b)) (x2 := Txt.slice txt (some e) none) (t0 := t0) (t1 := t1) (t2 := t2) (t3 := t3) (G.map (spanS txt)) tpl.cps[(c.spot + 1).toNat]? tpl.cps[(c.spot + 2).toNat]? with ⟨z, tz, hV, hso, hz, hst⟩ | ⟨hV, hst⟩
      · k_steps
        (with_reducible rename Fr g' L' _ _ => Fz)
        (with_reducible rename News g' L' _ _ => Nz)
        have hs2 : c.spot + 1 < tpl.length := by
          obtain ⟨c1, hc1⟩ := Option.isSome_iff_exists.mp hso
          exact cps_lt hc1 (by omega)
        have hz2 : z.length ≤ 11 := by
          rcases hz with rfl | rfl | rfl | rfl
          · omega
          · omega
          · omega
          · decide
        (refine hKQ _ (fill_end hI hc Fz Nz (by k_mem) (by k_mem) rfl rfl rfl rfl rfl rfl (by walk_at "my same") hst ?_ ?_ ?_ hlt ?_))
        all_goals omega
      · have hq : ∃ q1 q2, toldN tpl.cps[(c.spot + 1).toNat]? tpl.cps[(c.spot + 2).toNat]? G.length = (q1, q2) := ⟨_, _, rfl⟩
        obtain ⟨q1, q2, hq⟩ := hq
        have hqb := toldN_bounds tpl.cps[(c.spot + 1).toNat]? tpl.cps[(c.spot + 2).toNat]? G.length
        rw [List.length_map, hq] at hst
        rw [hq] at hqb
        dsimp only at hst hqb
        by_cases hq2 : 0 < q2
        · rw [if_pos hq2] at hst
          have hq1 : 1 ≤ q1 ∧ q1 ≤ G.length := by
            rcases hqb with e | e
            · simp only [Prod.mk.injEq] at e; omega
            · exact ⟨e.2.1, e.2.2.1⟩
          obtain ⟨v, hv, hvs⟩ := hS'.at (q1 - 1).toNat (by omega)
          have hs3 : c.spot + q2 < tpl.length ∧ q2 ≤ 2 := by
            rcases hqb with e | ⟨hw, _, _, hw1⟩
            · simp only [Prod.mk.injEq] at e; omega
            · rcases hw with hw | ⟨hw, hw2⟩
              · obtain ⟨c1, hc1⟩ := hw1
                have := cps_lt hc1 (by omega)
                omega
              · obtain ⟨c2, hc2⟩ := hw2
                have := cps_lt hc2 (by omega)
                omega
          k_steps
          all_goals (with_reducible rename Fr g' L' _ _ => Fz)
          all_goals (with_reducible rename News g' L' _ _ => Nz)
          all_goals (with_reducible rename spanS _ _ = _ => hsp)
          all_goals have hgr := grpS_spans rfl hsp
          all_goals rw [hgr] at hst
          · (refine hKQ _ (fill_end hI hc Fz Nz (by k_mem) (by k_mem) rfl rfl rfl rfl rfl rfl (by walk_at "my same") hst ?_ ?_ ?_ hlt ?_))
            all_goals first | omega | decide
          · have hxl := spanS_le hsp
            (refine hKQ _ (fill_end hI hc Fz Nz (by k_mem) (by k_mem) rfl rfl rfl rfl rfl rfl (by walk_at "my same") hst ?_ ?_ ?_ hlt ?_))
            all_goals first | omega | (simp only [Option.getD_some]; omega)
        · rw [if_neg hq2] at hst
          have hst : stepL (Txt.slice txt (some b) (some e)).cps.toList (Txt.slice txt none (some b)).cps.toList (Txt.slice txt (some e) none).cps.toList (G.map (spanS txt)) 36 tpl.cps[(c.spot + 1).toNat]? tpl.cps[(c.spot + 2).toNat]? = ((⟨#[36]⟩ : Str).cps.toList, 1) := hst
          k_steps
          (with_reducible rename Fr g' L' _ _ => Fz)
          (with_reducible rename News g' L' _ _ => Nz)
          (refine hKQ _ (fill_end hI hc Fz Nz (by k_mem) (by k_mem) rfl rfl rfl rfl rfl rfl (by walk_at "my same") hst ?_ ?_ ?_ hlt ?_))
          all_goals first | omega | decide
    · have hN := no_dollar h36
      have hV := valueAt_nil (v0 := .str (Str.ofString "$") t0) (v1 := .str (Txt.slice txt (some b) (some e)) t1) (v2 := .str (Txt.slice txt none (some b)) t2) (v3 := .str (Txt.slice txt (some e) none) t3)
      clear hD
      have hst : stepL (Txt.slice txt (some b) (some e)).cps.toList (Txt.slice txt none (some b)).cps.toList (Txt.slice txt (some e) none).cps.toList (G.map (spanS txt)) c0 tpl.cps[(c.spot + 1).toNat]? tpl.cps[(c.spot + 2).toNat]? = ((⟨#[c0]⟩ : Str).cps.toList, 1) := by unfold stepL; rw [if_neg h36]
      k_steps
      (with_reducible rename Fr g' L' _ _ => Fz)
      (with_reducible rename News g' L' _ _ => Nz)
      (refine hKQ _ (fill_end hI hc Fz Nz (by k_mem) (by k_mem) rfl rfl rfl rfl rfl rfl (by walk_at "my same") hst ?_ ?_ ?_ hlt ?_))
      all_goals first | omega | exact Nat.le_of_ble_eq_true rfl
  · have hyl : c.ys.length = c.its.size := by rw [← hI.are.length]; simp
    have := hI.are
    have hw : (c.ys.map (·.length)).sum + c.ys.length ≤ 1048576 := by
      have := sum_cast (c.ys.map (·.length))
      rw [List.map_map] at this
      have e : (c.ys.map ((fun n : Nat => (n : Int)) ∘ fun x => x.length)) = c.ys.map fun x => (x.length : Int) := rfl
      rw [e] at this
      omega
    have hres := hI.res
    rw [show c.spot.toNat = tpl.cps.toList.length by (simp only [Array.length_toList]; unfold Str.length at i1 hlt; omega), List.drop_length, fgL_nil, List.append_nil] at hres
    k_steps
    (with_reducible rename Fr g' L' _ _ => Fz)
    exact ret _ _ _ _ ((join_cps _).trans hres) (by assumption) (news_all N2.out GS Fz)
end
local macro_rules | `(tactic| walk_at "exec While Compare cons nil") => `(tactic| refine stop_here ?_)
local macro_rules | `(tactic| walk_at "call ref") => `(tactic| (k_here; (with_reducible show wpAny _ _ (call (Value.ref 47) _ _) _ _ _); k_dflt (refine' fill_call ?kB ?kF ?kX ?kN ?kT ?khk ?khM ?khG ?khS ?khb ?khbe ?khee ?khtxt ?khtpl ?khG14 ?khd ?khun ?_; (case kB => k_asm); (case kF => k_asm); (case kX => k_asm); (case kN => k_asm); (case kT => k_asm); (case khk => first | exact rfl | assumption); (case khM => walk_at "my tup"); (case khG => walk_at "my list"); (case khS => walk_at "my spans"); (case khb => omega); (case khbe => omega); (case khee => omega); (case khtxt => omega); (case khtpl => omega); (case khG14 => first | omega | decide); (case khd => ktr_room); (case khun => ktr_units); k_whole); intro r' t' h' tk' hr' F' N'; (try k_sweep)))
local macro_rules | `(tactic| walk_at "my pad3") => `(tactic| skip)
local macro_rules | `(tactic| walk_at "my pad4") => `(tactic| skip)
local macro_rules | `(tactic| walk_at "my pad5") => `(tactic| skip)
local macro_rules | `(tactic| walk_at "my pad6") => `(tactic| skip)
local macro_rules | `(tactic| walk_at "my pad7") => `(tactic| skip)
local macro_rules | `(tactic| walk_at "my pad8") => `(tactic| skip)
section
abbrev iLed (fl : Addr) (c : FS) : List (Addr × Obj) := [(fl, listOf c.its c.n)]
abbrev iPs (fl : Addr) (tpl txt : Str) (at' many : Int) (tp tx ta tm : Tok) (c : FS) : List (Str × Value) := [(Str.ofString "found", .ref fl), (Str.ofString "spot", .int c.spot c.ts), (Str.ofString "template", .str tpl tp), (Str.ofString "whole", .str txt tx), (Str.ofString "at", .int at' ta), (Str.ofString "many", .int many tm)]
abbrev iSt : List Str := [Str.ofString "mark"]
theorem fillin_pack {g h : Heap} {L fl : Addr} {m : Str → Option Value} {news : List (Addr × Obj)} {tpl txt : Str} {at' many : Int} {tp tx ta tm ts : Tok}
    (F : Fr g L h m) (N : News g L h news) (n1 : (fl, listOf #[] 0) ∈ news) (m1 : m (Str.ofString "found") = some (.ref fl)) (m2 : m (Str.ofString "spot") = some (.int 0 ts)) (m3 : m (Str.ofString "template") = some (.str tpl tp)) (m4 : m (Str.ofString "whole") = some (.str txt tx))
    (m5 : m (Str.ofString "at") = some (.int at' ta)) (m6 : m (Str.ofString "many") = some (.int many tm)) :
    ∃ (fl : Addr) (m : Str → Option Value) (ts : Tok), Fr g L h m ∧ News g L h [(fl, listOf #[] 0)]
      ∧ m (Str.ofString "found") = some (.ref fl) ∧ m (Str.ofString "spot") = some (.int 0 ts) ∧ m (Str.ofString "template") = some (.str tpl tp) ∧ m (Str.ofString "whole") = some (.str txt tx) ∧ m (Str.ofString "at") = some (.int at' ta) ∧ m (Str.ofString "many") = some (.int many tm) :=
  ⟨fl, m, ts, F, news_one N n1, m1, m2, m3, m4, m5, m6⟩
theorem fillin_end {g h' : Heap} {L fl : Addr} {tpl txt y : Str} {at' many : Int} {tp tx ta tm ts ty : Tok} {A B C : List Nat} {T : List (Option Str)} {c : FS} {c0 k n' : Nat} {j : Int} {m₀ m' : Str → Option Value} {news' : List (Addr × Obj)} {s9 : Shared} {tk : Nat}
    (I : FInv tpl A B C T c) (hc : tpl.cps[c.spot.toNat]? = some c0) (F : Fr g L h' m') (N : News g L h' news') (n1 : (fl, listOf (c.its.push (.str y ty)) n') ∈ news')
    (m1 : m' (Str.ofString "found") = some (.ref fl)) (m2 : m' (Str.ofString "spot") = some (.int j ts)) (m3 : m' (Str.ofString "template") = some (.str tpl tp)) (m4 : m' (Str.ofString "whole") = some (.str txt tx)) (m5 : m' (Str.ofString "at") = some (.int at' ta)) (m6 : m' (Str.ofString "many") = some (.int many tm))
    (hr : ∀ z, (∀ p ∈ iPs fl tpl txt at' many tp tx ta tm ⟨j, ts, c.its.push (.str y ty), n', c.ys ++ [y]⟩, z ≠ p.1) → iSt.contains z = false → m' z = m₀ z)
    (hst : stepL A B C T c0 tpl.cps[(c.spot + 1).toNat]? tpl.cps[(c.spot + 2).toNat]? = (y.cps.toList, k)) (hy : y.length ≤ 11) (hj : j = c.spot + k) (hk : c.spot + k ≤ tpl.length) (hlt : c.spot < tpl.length) (hk1 : 1 ≤ k) :
    KswEnd g L s9 (iLed fl) (iPs fl tpl txt at' many tp tx ta tm) (fun _ => True) iSt m₀ (FInv tpl A B C T) (fMu tpl) c { s9 with heap := h', toks := tk } :=
  ksw_end ⟨j, ts, c.its.push (.str y ty), n', c.ys ++ [y]⟩ F N (fun p hp => by rw [List.mem_singleton.mp hp]; exact n1) trivial (all6 m1 m2 m3 m4 m5 m6) hr (finv_step I hc hst hy hj hk) (by show (tpl.length - j).toNat < (tpl.length - c.spot).toNat; omega)
local macro_rules | `(tactic| walk_at "my same") => `(tactic| (intro z h2 h3; (simp only [iPs, List.forall_mem_cons, List.not_mem_nil, false_implies, implies_true, and_true, ne_eq] at h2); (simp only [iSt, List.contains_cons, List.contains_nil, Bool.or_false, Bool.or_eq_false_iff, beq_eq_false_iff_ne, ne_eq] at h3); (simp [iPs, kstB, h2, h3])))
theorem toldN_none (o1 o2 : Option Nat) : toldN o1 o2 ((([] : List (Option Str)).length : Nat) : Int) = (0, 0) := by
  have e : ((([] : List (Option Str)).length : Nat) : Int) = 0 := rfl
  rw [e]
  rcases toldN_bounds o1 o2 0 with e | ⟨_, h1, h2, _⟩
  · exact e
  · omega
/-- which mark stands there -/
inductive Mark (A B C : List Nat) (o1 o2 : Option Nat) (y : Str) : Prop where
  | m0 (h0 : (y.cps.toList == (Str.ofString "$").cps.toList) = true) (ho : o1.isSome = true) (hst : stepL A B C [] 36 o1 o2 = ((Str.ofString "$").cps.toList, 2))
  | m1 (h0 : (y.cps.toList == (Str.ofString "$").cps.toList) = false) (h1 : (y.cps.toList == (Str.ofString "&").cps.toList) = true) (ho : o1.isSome = true) (hst : stepL A B C [] 36 o1 o2 = (A, 2))
  | m2 (h0 : (y.cps.toList == (Str.ofString "$").cps.toList) = false) (h1 : (y.cps.toList == (Str.ofString "&").cps.toList) = false) (h2 : (y.cps.toList == (Str.ofString "`").cps.toList) = true) (ho : o1.isSome = true) (hst : stepL A B C [] 36 o1 o2 = (B, 2))
  | m3 (h0 : (y.cps.toList == (Str.ofString "$").cps.toList) = false) (h1 : (y.cps.toList == (Str.ofString "&").cps.toList) = false) (h2 : (y.cps.toList == (Str.ofString "`").cps.toList) = false) (h3 : (y.cps.toList == (Str.ofString "'").cps.toList) = true) (ho : o1.isSome = true) (hst : stepL A B C [] 36 o1 o2 = (C, 2))
  | m4 (h0 : (y.cps.toList == (Str.ofString "$").cps.toList) = false) (h1 : (y.cps.toList == (Str.ofString "&").cps.toList) = false) (h2 : (y.cps.toList == (Str.ofString "`").cps.toList) = false) (h3 : (y.cps.toList == (Str.ofString "'").cps.toList) = false) (hst : stepL A B C [] 36 o1 o2 = ((⟨#[36]⟩ : Str).cps.toList, 1))
theorem mark_of (A B C : List Nat) (o1 o2 : Option Nat) : Mark A B C o1 o2 (chS o1) := by
  have e0 : (Str.ofString "$").cps.toList = [36] := by decide +kernel
  have e1 : (Str.ofString "&").cps.toList = [38] := by decide +kernel
  have e2 : (Str.ofString "`").cps.toList = [96] := by decide +kernel
  have e3 : (Str.ofString "'").cps.toList = [39] := by decide +kernel
  cases o1 with
  | none => exact .m4 (by rw [e0]; rfl) (by rw [e1]; rfl) (by rw [e2]; rfl) (by rw [e3]; rfl) (by unfold stepL; rw [toldN_none]; simp)
  | some c =>
    have z : (chS (some c)).cps.toList = [c] := rfl
    by_cases h0 : c = 36
    · subst h0; exact .m0 (by rw [e0]; rfl) rfl (by rw [e0]; unfold stepL; simp)
    · by_cases h1 : c = 38
      · subst h1; exact .m1 (by rw [e0]; rfl) (by rw [e1]; rfl) rfl (by unfold stepL; simp)
      · by_cases h2 : c = 96
        · subst h2; exact .m2 (by rw [e0]; rfl) (by rw [e1]; rfl) (by rw [e2]; rfl) rfl (by unfold stepL; simp)
        · by_cases h3 : c = 39
          · subst h3; exact .m3 (by rw [e0]; rfl) (by rw [e1]; rfl) (by rw [e2]; rfl) (by rw [e3]; rfl) rfl (by unfold stepL; simp)
          · exact .m4 (by rw [e0, z]; simp [h0]) (by rw [e1, z]; simp [h1]) (by rw [e2, z]; simp [h2]) (by rw [e3, z]; simp [h3]) (by unfold stepL; rw [toldN_none]; simp [h0, h1, h2, h3])
set_option maxRecDepth 100000 in
set_option maxHeartbeats 8000000 in
theorem fillin_call {w : World} {loose : List Str} {mean : ExcName → Option Value} {mg mb : Str → Option Value} {dp un : Nat} {gd : Option (List Code)} {cn : Str} {cs : Scope} {a : Addr} {ccd : Value} {cl : List (Str × Addr)} {outer : List Env} {A₀ : Around} {base h₀ : Heap} {L : Addr} {m : Str → Option Value} {s : Shared} {Q E : Value → Shared → Prop}
    {tpl txt : Str} {tp tx ta tm : Tok} {at' many : Int} {news : List (Addr × Obj)}
    (B : Below A₀ base outer h₀) (F : Fr h₀ L s.heap m) (X : (Mine.hd.heap_1 w.params).In h₀) (N : News h₀ L s.heap news) (T : Top Mine.view loose mean mg mb h₀) (hk : cs.kind = .function)
    (hb : 0 ≤ at') (hbe : 0 ≤ many) (hee : at' + many ≤ txt.length) (htxt : txt.length ≤ 11) (htpl : tpl.length ≤ 100)
    (hd : dp + 3 < recursionLimit) (hun : un + 24 < cLine)
    (ret : ∀ r t h' tk', r.cps.toList = fgL (Txt.slice txt (some at') (some (at' + many))).cps.toList (Txt.slice txt none (some at')).cps.toList (Txt.slice txt (some (at' + many)) none).cps.toList [] tpl.cps.toList → Fr h₀ L h' m → News h₀ L h' news → Q (.str r t) {s with heap := h', toks := tk'}) :
    wpAny (model PySem.Challenge.rw_pc0066_01.row.prog w) (ktrTop dp un gd cn cs L a ccd cl outer) (call (.ref 61) [.str tpl tp, .str txt tx, .int at' ta, .int many tm]) Q E s := by
  w_top off
  revert X; k_fill; intro X
  have N1 : News h₀ L s.heap [] := News.nil
  have N2 := Mine.hid N
  clear N
  refine wpAny_call ?_
  k_dflt walk_at "my enter"
  rename_i g' L' h' FG F' N' B' X' T' GS
  k_steps
  refine Stop.mk ?_
  (with_reducible rename News g' L' _ _ => Nz)
  (with_reducible rename Fr g' L' _ _ => Fz)
  have hx := fillin_pack (tpl := tpl) (txt := txt) (tp := tp) (tx := tx) (at' := at') (many := many) (ta := ta) (tm := tm) Fz Nz (by k_mem) rfl rfl rfl rfl rfl rfl
  clear Fz Nz
  obtain ⟨fl, m₀, ts, Fw, Nw, m1, m2, m3, m4, m5, m6⟩ := hx
  try dsimp only at Fw
  try dsimp only at Nw
  try dsimp only
  refine my_while (σ := FS) (iLed fl) (iPs fl tpl txt at' many tp tx ta tm) iSt
    (FInv tpl (Txt.slice txt (some at') (some (at' + many))).cps.toList (Txt.slice txt none (some at')).cps.toList (Txt.slice txt (some (at' + many)) none).cps.toList [])
    (fMu tpl) ⟨0, ts, #[], 0, []⟩ Fw Nw (all6 m1 m2 m3 m4 m5 m6) ⟨by simp, by simp, .nil, by simp, by simp, by simp⟩ ?turn
  intro c u h tk KQ hI Fc Nc hKQ
  have i0 := hI.s0
  have i1 := hI.s1
  have i2 := hI.len
  have i3 := hI.wt
  have hits : c.its.size ≤ 200 := by omega
  have hD := is_dollar
  have hA1 := Txt.slice_le txt (some at') (some (at' + many))
  have hB1 := Txt.slice_le txt none (some at')
  have hC1 := Txt.slice_le txt (some (at' + many)) none
  replace Nc : News g' L' h [(fl, listOf c.its c.n)] := Nc
  clear m1 m2 m3 m4 m5 m6 Fw Nw
  by_cases hlt : c.spot < tpl.length
  · have hc : ∃ c0, tpl.cps[c.spot.toNat]? = some c0 := by
      have : c.spot.toNat < tpl.cps.size := by unfold Str.length at hlt; omega
      exact ⟨_, Array.getElem?_eq_getElem this⟩
    obtain ⟨c0, hc⟩ := hc
    have e1 : Txt.slice tpl (some (c.spot + 1)) (some (c.spot + 2)) = chS tpl.cps[(c.spot + 1).toNat]? := slice_ch (by omega) (by omega)
    by_cases h36 : c0 = 36
    · subst h36
      have hM := mark_of (Txt.slice txt (some at') (some (at' + many))).cps.toList (Txt.slice txt none (some at')).cps.toList (Txt.slice txt (some (at' + many)) none).cps.toList tpl.cps[(c.spot + 1).toNat]? tpl.cps[(c.spot + 2).toNat]?
      have hs2 : tpl.cps[(c.spot + 1).toNat]?.isSome = true → c.spot + 1 < tpl.length := fun hso => by
        obtain ⟨c1, hc1⟩ := Option.isSome_iff_exists.mp hso
        exact cps_lt hc1 (by omega)
      generalize hy : chS tpl.cps[(c.spot + 1).toNat]? = y at *
      cases hM
      rename_i h0 ho hst
      rotate_left
      rename_i h0 h1 ho hst
      rotate_left
      rename_i h0 h1 h2 ho hst
      rotate_left
      rename_i h0 h1 h2 h3 ho hst
      rotate_left
      rename_i h0 h1 h2 h3 hst
      rotate_left
      all_goals (try have hs3 := hs2 ho)
      all_goals clear hs2
      all_goals k_steps
      all_goals (with_reducible rename Fr g' L' _ _ => Fz)
      all_goals (with_reducible rename News g' L' _ _ => Nz)
      all_goals (refine hKQ _ (fillin_end hI hc Fz Nz (by k_mem) rfl rfl rfl rfl rfl rfl (by walk_at "my same") hst ?_ ?_ ?_ hlt ?_))
      all_goals first | omega | exact Nat.le_of_ble_eq_true rfl
    · have hN := no_dollar h36
      clear hD
      have hst : stepL (Txt.slice txt (some at') (some (at' + many))).cps.toList (Txt.slice txt none (some at')).cps.toList (Txt.slice txt (some (at' + many)) none).cps.toList [] c0 tpl.cps[(c.spot + 1).toNat]? tpl.cps[(c.spot + 2).toNat]? = ((⟨#[c0]⟩ : Str).cps.toList, 1) := by unfold stepL; rw [if_neg h36]
      have z0 : ((Str.ofString "").cps.toList == (Str.ofString "$").cps.toList) = false := by decide +kernel
      have z1 : ((Str.ofString "").cps.toList == (Str.ofString "&").cps.toList) = false := by decide +kernel
      have z2 : ((Str.ofString "").cps.toList == (Str.ofString "`").cps.toList) = false := by decide +kernel
      have z3 : ((Str.ofString "").cps.toList == (Str.ofString "'").cps.toList) = false := by decide +kernel
      k_steps
      (with_reducible rename Fr g' L' _ _ => Fz)
      (with_reducible rename News g' L' _ _ => Nz)
      (refine hKQ _ (fillin_end hI hc Fz Nz (by k_mem) rfl rfl rfl rfl rfl rfl (by walk_at "my same") hst ?_ ?_ ?_ hlt ?_))
      all_goals first | omega | exact Nat.le_of_ble_eq_true rfl
  · have hyl : c.ys.length = c.its.size := by rw [← hI.are.length]; simp
    have := hI.are
    have hw : (c.ys.map (·.length)).sum + c.ys.length ≤ 1048576 := by
      have := sum_cast (c.ys.map (·.length))
      rw [List.map_map] at this
      have e : (c.ys.map ((fun n : Nat => (n : Int)) ∘ fun x => x.length)) = c.ys.map fun x => (x.length : Int) := rfl
      rw [e] at this
      omega
    have hres := hI.res
    rw [show c.spot.toNat = tpl.cps.toList.length by (simp only [Array.length_toList]; unfold Str.length at i1 hlt; omega), List.drop_length, fgL_nil, List.append_nil] at hres
    k_steps
    (with_reducible rename Fr g' L' _ _ => Fz)
    exact ret _ _ _ _ ((join_cps _).trans hres) (by assumption) (news_all N2.out GS Fz)
end
local macro_rules | `(tactic| walk_at "my pad9") => `(tactic| skip)
local macro_rules | `(tactic| walk_at "my pad10") => `(tactic| skip)
section
section
variable {prog : Program} {w : World} {A : Around} {h₀ : Heap} {L : Addr} {m : Str → Option Value} {env : Env} {elt : Expr} {x : Str} {scope : Scope} {cl : List (Str × Addr)} {s : Shared} {S : List (Addr × Obj) → Prop} {P : Nat → Value → Prop} {Fin : List Value → List (Addr × Obj) → Prop}
/-- a comprehension whose turns may change the ledger: what holds between two turns -/
theorem comp_all {n : Nat} {news : List (Addr × Obj)} (Ok : List Value → Nat → List (Addr × Obj) → Prop) (start : Ok [] 0 news)
    (turn : ∀ i v ys nw I oI C oC D m₂ h tk (E' : Value → Shared → Prop), i < n → P i v → Ok ys i nw → LCg.NsObj oC m₂ → m₂ x = some v → Fr h₀ L h m → News h₀ L h ((I, oI) :: (C, oC) :: (D, LCg.lst ys) :: nw) → LCg.Off3 I C D nw → ((@Ne Nat I C) ∧ (@Ne Nat I D) ∧ (@Ne Nat C D)) →
      wpAny (model prog w) A (eval elt (compEnvC scope cl C env)) (LCg.CompEnd h₀ L m { s with heap := h, toks := tk } I oI C oC D (LCg.lst ys) S (fun y nw' => Ok (ys ++ [y]) (i + 1) nw')) E' { s with heap := h, toks := tk })
    (fin : ∀ ys nw, Ok ys n nw → Fin ys nw) : LCg.CompRest prog w A h₀ L m env elt x scope cl s S P Fin n 0 [] news := by
  have key : ∀ (j i : Nat) (ys : List Value) (nw : List (Addr × Obj)), i + j = n → Ok ys i nw → LCg.CompRest prog w A h₀ L m env elt x scope cl s S P Fin j i ys nw := by
    intro j
    induction j with
    | zero =>
      intro i ys nw hi ho
      have e : i = n := by omega
      subst e
      exact LCg.CompRest.zero (fin ys nw ho)
    | succ j ih =>
      intro i ys nw hi ho
      refine LCg.CompRest.succ ?_
      intro v I oI C oC D m₂ h tk E' hv hC hx F N off ne
      refine wpAny_mono (turn i v ys nw I oI C oC D m₂ h tk E' (by omega) hv ho hC hx F N off ne) (fun y s₂ hq => ?_) fun _ _ e => e
      obtain ⟨h', tk', nw', e, F', N', off', hS, hok⟩ := hq
      exact ⟨h', tk', nw', e, F', N', off', hS, ih (i + 1) _ nw' (by omega) hok⟩
  exact key n 0 [] news (by omega) start
end
theorem off1_all {D : Addr} {l : List (Addr × Obj)} (h : LCg.Off1 D l) : ∀ p ∈ l, p.1 ≠ D := by
  induction l with
  | nil => intro p hp; cases hp
  | cons q r ih =>
    intro p hp
    rcases List.mem_cons.mp hp with e | hp
    · rw [e]; exact h.1
    · exact ih h.2 p hp
theorem take_snoc {α : Type} (l : List α) (i : Nat) (d : α) (h : i < l.length) : l.take (i + 1) = l.take i ++ [l.getD i d] := by
  rw [List.take_add_one, List.getElem?_eq_getElem h, List.getD_eq_getElem?_getD, List.getElem?_eq_getElem h]; rfl
end
local macro_rules | `(tactic| walk_at "eval ListComp") => `(tactic| refine stop_here ?_)
local macro_rules | `(tactic| walk_at "my enterC") => `(tactic| (refine' code_defC ?k1 ?k2 ?k3 ?k4 ?k5 ?kA ?kF ?kK ?k6 ?k7 ?k8 ?k9 ?kB ?kD ?_ ?c2 ?c3 ?c4; (case kA => exact rfl); (case kF => exact rfl); (case kK => assumption); (case k1 => k_asm); (case k2 => k_asm); (case k3 => k_asm); (case k4 => k_asm); (case k5 => k_asm); (case k6 => k_is); (case k7 => k_is); (case k8 => ktr_room); (case k9 => exact BindsTo.of_eq rfl); (case kB => exact rfl); (case kD => decide +kernel); (case c2 => exact rfl); (case c3 => exact rfl); (case c4 => exact rfl); k_whole; intro g' L' h' tk' cells' FG' F' N' Y' B' X' T' l1; k_cells Y'; (try simp only [List.cons_append, List.nil_append] at N'); (try dsimp only); (try k_fold)))
set_option maxRecDepth 100000 in
set_option maxHeartbeats 8000000 in
theorem texts_call {w : World} {loose : List Str} {mean : ExcName → Option Value} {mg mb : Str → Option Value} {dp un : Nat} {gd : Option (List Code)} {cn : Str} {cs : Scope} {a : Addr} {ccd : Value} {cl : List (Str × Addr)} {outer : List Env} {A₀ : Around} {base h₀ : Heap} {L : Addr} {m : Str → Option Value} {s : Shared} {Q E : Value → Shared → Prop}
    {txt : Str} {tx tb te : Tok} {b e : Int} {mt gl : Addr} {gvs : List Value} {G : List (Option (Int × Int))} {n n' : Nat} {news : List (Addr × Obj)}
    (B : Below A₀ base outer h₀) (F : Fr h₀ L s.heap m) (X : (Mine.hd.heap_1 w.params).In h₀) (N : News h₀ L s.heap news) (T : Top Mine.view loose mean mg mb h₀) (hk : cs.kind = .function)
    (hM : (mt, ({ cls := .type "tuple", data := .seq #[.int b tb, .int e te, .ref gl] n } : Obj)) ∈ news) (hG : (gl, listOf gvs.toArray n') ∈ news) (hS : ∀ h : Heap, (∀ p ∈ news, h.get? p.1 = some p.2) → SpanVs h gvs G)
    (htxt : txt.length ≤ 11) (hG14 : G.length ≤ 14) (hd : dp + 3 < recursionLimit) (hun : un + 24 < cLine)
    (ret : ∀ ys D h' tk', OptVs ys (G.map (spanS txt)) → Fr h₀ L h' m → News h₀ L h' ((D, listOf ys.toArray ys.length) :: news) → (∀ p ∈ news, p.1 ≠ D) → Q (.ref D) {s with heap := h', toks := tk'}) :
    wpAny (model PySem.Challenge.rw_pc0066_01.row.prog w) (ktrTop dp un gd cn cs L a ccd cl outer) (call (.ref 26) [.str txt tx, .ref mt]) Q E s := by
  w_top off
  revert X; k_fill; intro X
  refine wpAny_call ?_
  k_dflt walk_at "my enterC"
  rename_i g' L' h' tk' FG F' B' X' T' l1 oc dc N'
  have dc' : oc.data = .cell (some (.str txt tx)) := dc
  clear dc
  have hlen : gvs.length = G.length := (hS s.heap fun p hp => (N p hp).1).length
  k_steps
  refine Stop.mk ?_
  k_dflt (refine LCg.ListComp_U (F₀ := by k_asm) (by with_unfolding_all rfl) (by decide) (by rfl) (by decide) (by rfl) ?_)
  k_steps
  refine LCg.CompSrc.ledger (by rfl) (by k_asm) (by k_asm) (List.mem_cons_of_mem _ hG) (by rw [sizeLine_eq, List.size_toArray]; omega) ?_
  intro g9
  refine comp_all (fun ys i nw => nw = (L' + 1, oc) :: news ∧ OptVs ys ((G.take i).map (spanS txt))) ⟨rfl, .nil⟩ ?turn ?fin
  case turn =>
    rintro i v ys nw I oI C oC D m₂ h tk E' hi hv ⟨rfl, hok⟩ hC hx F9 N9 off ne
    have hSp : SpanVs h gvs G := hS h fun p hp => (N9 p (by simp [hp])).1
    have hi2 : i < G.length := by rw [List.size_toArray] at hi; omega
    obtain ⟨v2, hv2, hsv⟩ := hSp.at i hi2
    have ev : v2 = v := by
      have hv3 : gvs[i]? = some v := by simpa using hv
      rw [hv3] at hv2; exact (Option.some.inj hv2).symm
    subst ev
    k_steps
    (with_reducible rename Fr g' L' _ _ => Fz)
    (with_reducible rename News g' L' _ _ => Nz)
    (with_reducible rename OptV _ _ => hr)
    refine LCg.CompEnd.intro Fz Nz ((L' + 1, oc) :: news) (fun p hp => hp) off (Or.inr ⟨_, List.mem_cons_of_mem _ hG, rfl, _, rfl⟩) ⟨rfl, ?_⟩
    rw [take_snoc G i none hi2, List.map_append]
    exact hok.snoc hr
  case fin =>
    rintro ys nw ⟨rfl, hok⟩
    intro D h tk F9 N9 off1
    rw [List.size_toArray, hlen, List.take_length] at hok
    k_steps
    (with_reducible rename News h₀ L _ _ => Nr)
    exact ret ys D _ _ hok (by assumption) (fun p hp => Nr p (by rcases List.mem_cons.mp hp with rfl | hp <;> simp [*])) (fun p hp => off1_all off1 p (List.mem_cons_of_mem _ hp))
local macro_rules | `(tactic| walk_at "exec Assign cons ListComp") => `(tactic| refine stop_here ?_)
local macro_rules | `(tactic| walk_at "call ref") => `(tactic| (k_here; (with_reducible show wpAny _ _ (call (Value.ref 26) _ _) _ _ _); k_dflt (refine' texts_call ?kB ?kF ?kX ?kN ?kT ?khk ?khM ?khG ?khS ?khtxt ?khG14 ?khd ?khun ?_; (case kB => k_asm); (case kF => k_asm); (case kX => k_asm); (case kN => k_asm); (case kT => k_asm); (case khk => first | exact rfl | assumption); (case khM => k_mem); (case khG => k_mem); (case khS => walk_at "my spansL"); (case khtxt => omega); (case khG14 => omega); (case khd => ktr_room); (case khun => ktr_units); k_whole); intro ys' D' h' tk' hys' F' N' l1; (replace l1 := allNe_of l1; simp only [AllNe] at l1); (try k_sweep)))
section
abbrev metO (a b : Int) (ta tb : Tok) (e : Addr) (n : Nat) : Obj := { cls := .type "tuple", data := .seq #[.int a ta, .int b tb, .ref e] n }
theorem news_keep {h₀ H g h' : Heap} {L L' : Addr} {m' : Str → Option Value} {news sub sub' : List (Addr × Obj)} (N : News h₀ L H news) (hs : ∀ p ∈ sub, p ∈ news) (kN : News h₀ L h' sub') (hk : ∀ p ∈ sub, p ∈ sub') (F' : Fr g L' h' m') (G : GSub H g (sub.map (·.1))) : News h₀ L h' news := fun p hp => by
  by_cases hq : p.1 ∈ sub.map (·.1)
  · obtain ⟨q, hq, e⟩ := List.mem_map.mp hq
    have h1 := (N q (hs q hq)).1
    have h2 := (N p hp).1
    rw [e, h2] at h1
    have h3 := (kN q (hk q hq)).1
    rw [e, ← Option.some.inj h1] at h3
    exact ⟨h3, (N p hp).2⟩
  · exact ⟨F'.keep _ _ (G _ _ (N p hp).1 hq), (N p hp).2⟩
theorem putb1 {a b c s p : Nat} (hs : s ≤ 11) (hp : p ≤ 2) : min a (s - b) + p + (s - c) ≤ 100 := by
  have := Nat.min_le_right a (s - b)
  generalize min a (s - b) = x at *
  omega
theorem putb2 {a b c d e s p q : Nat} (hs : s ≤ 11) (hp : p ≤ 2) (hq : q ≤ 2) : min a (s - b) + p + (min c (s - d) + q + (s - e)) ≤ 100 := by
  have := Nat.min_le_right a (s - b)
  have := Nat.min_le_right c (s - d)
  generalize min a (s - b) = x at *
  generalize min c (s - d) = y at *
  omega
/-- the pieces put in -/
def putL (x : List Nat) (b : Nat) : List (Int × Int × Str) → List Nat
  | [] => x.drop b
  | (p, q, y) :: r => (x.drop b).take (p.toNat - b) ++ y.cps.toList ++ putL x q.toNat r
local macro_rules | `(tactic| walk_at "my sub") => `(tactic| first | exact List.forall_mem_nil _ | (refine List.forall_mem_cons.mpr ⟨by k_mem, ?_⟩; walk_at "my sub"))
set_option maxRecDepth 100000 in
set_option maxHeartbeats 8000000 in
theorem put0_call {w : World} {loose : List Str} {mean : ExcName → Option Value} {mg mb : Str → Option Value} {dp un : Nat} {gd : Option (List Code)} {cn : Str} {cs : Scope} {a : Addr} {ccd : Value} {cl : List (Str × Addr)} {outer : List Env} {A₀ : Around} {base h₀ : Heap} {L : Addr} {m : Str → Option Value} {s : Shared} {Q E : Value → Shared → Prop}
    {txt : Str} {tx : Tok} {ml pl : Addr} {c1 c2 : Nat} {news : List (Addr × Obj)}
    (B : Below A₀ base outer h₀) (F : Fr h₀ L s.heap m) (X : (Mine.hd.heap_1 w.params).In h₀) (N : News h₀ L s.heap news) (T : Top Mine.view loose mean mg mb h₀) (hk : cs.kind = .function)
    (hM : (ml, listOf #[] c1) ∈ news) (hP : (pl, listOf #[] c2) ∈ news) 
     (htxt : txt.length ≤ 11) (hd : dp + 3 < recursionLimit) (hun : un + 24 < cLine)
    (ret : ∀ r t h' tk', r.cps.toList = putL txt.cps.toList 0 [] → r.length ≤ 100 → Fr h₀ L h' m → News h₀ L h' news → Q (.str r t) {s with heap := h', toks := tk'}) :
    wpAny (model PySem.Challenge.rw_pc0066_01.row.prog w) (ktrTop dp un gd cn cs L a ccd cl outer) (call (.ref 54) [.str txt tx, .ref ml, .ref pl]) Q E s := by
  w_top off
  revert X; k_fill; intro X
  have hsub : ∀ p ∈ [(ml, listOf #[] c1), (pl, listOf #[] c2)], p ∈ news := by walk_at "my sub"
  have N1 : News h₀ L s.heap [(ml, listOf #[] c1), (pl, listOf #[] c2)] := fun p hp => N p (hsub p hp)
  have N2 := Mine.hid N
  clear N
  refine wpAny_call ?_
  k_dflt walk_at "my enter"
  rename_i g' L' h' FG F' N' B' X' T' GS
  k_steps
  (with_reducible rename Fr g' _ _ _ => Fz)
  (with_reducible rename News h₀ L _ _ => Nr)
  have e : ∀ y : Str, y.cps.toList = putL txt.cps.toList 0 [] → y.length ≤ 100 := fun y hy => by
    have h1 : y.length = y.cps.toList.length := by simp [Str.length]
    rw [h1, hy]
    simp only [putL, List.length_append, List.length_take, List.length_drop, Array.length_toList]
    
    have h3 : txt.length = txt.cps.size := rfl
    omega
  have e2 : ∀ ys : List Str, ys.flatMap (·.cps.toList) = putL txt.cps.toList 0 [] → (Txt.join (Str.ofString "") ys).cps.toList = putL txt.cps.toList 0 [] := fun ys h => (join_cps ys).trans h
  have e3 := e2 [Txt.slice txt (some 0) none] (by
    simp only [List.flatMap_cons, List.flatMap_nil, List.append_nil, putL]
    rw [slice_from_list (x := txt) (i := 0) (by omega)]
    simp)
  exact ret _ _ _ _ e3 (e _ e3) (by assumption) (news_keep N2.out hsub Nr (by walk_at "my sub") Fz GS)
set_option maxRecDepth 100000 in
set_option maxHeartbeats 8000000 in
theorem put1_call {w : World} {loose : List Str} {mean : ExcName → Option Value} {mg mb : Str → Option Value} {dp un : Nat} {gd : Option (List Code)} {cn : Str} {cs : Scope} {a : Addr} {ccd : Value} {cl : List (Str × Addr)} {outer : List Env} {A₀ : Around} {base h₀ : Heap} {L : Addr} {m : Str → Option Value} {s : Shared} {Q E : Value → Shared → Prop}
    {txt p0 : Str} {tx ta0 tb0 tp0 : Tok} {ml pl m0 e0 : Addr} {a0 b0 : Int} {c1 c2 n0 : Nat} {news : List (Addr × Obj)}
    (B : Below A₀ base outer h₀) (F : Fr h₀ L s.heap m) (X : (Mine.hd.heap_1 w.params).In h₀) (N : News h₀ L s.heap news) (T : Top Mine.view loose mean mg mb h₀) (hk : cs.kind = .function)
    (hM : (ml, listOf #[.ref m0] c1) ∈ news) (hP : (pl, listOf #[.str p0 tp0] c2) ∈ news) (h0 : (m0, metO a0 b0 ta0 tb0 e0 n0) ∈ news)
    (i0a : 0 ≤ a0) (i0b : a0 ≤ b0) (hp0 : p0.length ≤ 2) (il : b0 ≤ txt.length) (htxt : txt.length ≤ 11) (hd : dp + 3 < recursionLimit) (hun : un + 24 < cLine)
    (ret : ∀ r t h' tk', r.cps.toList = putL txt.cps.toList 0 [(a0, b0, p0)] → r.length ≤ 100 → Fr h₀ L h' m → News h₀ L h' news → Q (.str r t) {s with heap := h', toks := tk'}) :
    wpAny (model PySem.Challenge.rw_pc0066_01.row.prog w) (ktrTop dp un gd cn cs L a ccd cl outer) (call (.ref 54) [.str txt tx, .ref ml, .ref pl]) Q E s := by
  w_top off
  revert X; k_fill; intro X
  have hsub : ∀ p ∈ [(ml, listOf #[.ref m0] c1), (pl, listOf #[.str p0 tp0] c2), (m0, metO a0 b0 ta0 tb0 e0 n0)], p ∈ news := by walk_at "my sub"
  have N1 : News h₀ L s.heap [(ml, listOf #[.ref m0] c1), (pl, listOf #[.str p0 tp0] c2), (m0, metO a0 b0 ta0 tb0 e0 n0)] := fun p hp => N p (hsub p hp)
  have N2 := Mine.hid N
  clear N
  refine wpAny_call ?_
  k_dflt walk_at "my enter"
  rename_i g' L' h' FG F' N' B' X' T' GS
  k_steps
  (with_reducible rename Fr g' _ _ _ => Fz)
  (with_reducible rename News h₀ L _ _ => Nr)
  have e : ∀ y : Str, y.cps.toList = putL txt.cps.toList 0 [(a0, b0, p0)] → y.length ≤ 100 := fun y hy => by
    have h1 : y.length = y.cps.toList.length := by simp [Str.length]
    rw [h1, hy]
    simp only [putL, List.length_append, List.length_take, List.length_drop, Array.length_toList]
    exact putb1 htxt hp0
  have e2 : ∀ ys : List Str, ys.flatMap (·.cps.toList) = putL txt.cps.toList 0 [(a0, b0, p0)] → (Txt.join (Str.ofString "") ys).cps.toList = putL txt.cps.toList 0 [(a0, b0, p0)] := fun ys h => (join_cps ys).trans h
  have e3 := e2 [Txt.slice txt (some 0) (some a0), p0, Txt.slice txt (some b0) none] (by
    simp only [List.flatMap_cons, List.flatMap_nil, List.append_nil, putL]
    rw [slice_list (x := txt) (i := 0) (j := a0) (by omega) (by omega), slice_from_list (x := txt) (i := b0) (by omega)]
    simp)
  exact ret _ _ _ _ e3 (e _ e3) (by assumption) (news_keep N2.out hsub Nr (by walk_at "my sub") Fz GS)
set_option maxRecDepth 100000 in
set_option maxHeartbeats 8000000 in
theorem put2_call {w : World} {loose : List Str} {mean : ExcName → Option Value} {mg mb : Str → Option Value} {dp un : Nat} {gd : Option (List Code)} {cn : Str} {cs : Scope} {a : Addr} {ccd : Value} {cl : List (Str × Addr)} {outer : List Env} {A₀ : Around} {base h₀ : Heap} {L : Addr} {m : Str → Option Value} {s : Shared} {Q E : Value → Shared → Prop}
    {txt p0 p1 : Str} {tx ta0 tb0 tp0 ta1 tb1 tp1 : Tok} {ml pl m0 e0 m1 e1 : Addr} {a0 b0 a1 b1 : Int} {c1 c2 n0 n1 : Nat} {news : List (Addr × Obj)}
    (B : Below A₀ base outer h₀) (F : Fr h₀ L s.heap m) (X : (Mine.hd.heap_1 w.params).In h₀) (N : News h₀ L s.heap news) (T : Top Mine.view loose mean mg mb h₀) (hk : cs.kind = .function)
    (hM : (ml, listOf #[.ref m0, .ref m1] c1) ∈ news) (hP : (pl, listOf #[.str p0 tp0, .str p1 tp1] c2) ∈ news) (h0 : (m0, metO a0 b0 ta0 tb0 e0 n0) ∈ news) (h1 : (m1, metO a1 b1 ta1 tb1 e1 n1) ∈ news)
    (i0a : 0 ≤ a0) (i0b : a0 ≤ b0) (hp0 : p0.length ≤ 2) (i1a : 0 ≤ a1) (i1b : a1 ≤ b1) (hp1 : p1.length ≤ 2) (o1 : b0 ≤ a1) (il : b1 ≤ txt.length) (htxt : txt.length ≤ 11) (hd : dp + 3 < recursionLimit) (hun : un + 24 < cLine)
    (ret : ∀ r t h' tk', r.cps.toList = putL txt.cps.toList 0 [(a0, b0, p0), (a1, b1, p1)] → r.length ≤ 100 → Fr h₀ L h' m → News h₀ L h' news → Q (.str r t) {s with heap := h', toks := tk'}) :
    wpAny (model PySem.Challenge.rw_pc0066_01.row.prog w) (ktrTop dp un gd cn cs L a ccd cl outer) (call (.ref 54) [.str txt tx, .ref ml, .ref pl]) Q E s := by
  w_top off
  revert X; k_fill; intro X
  have hsub : ∀ p ∈ [(ml, listOf #[.ref m0, .ref m1] c1), (pl, listOf #[.str p0 tp0, .str p1 tp1] c2), (m0, metO a0 b0 ta0 tb0 e0 n0), (m1, metO a1 b1 ta1 tb1 e1 n1)], p ∈ news := by walk_at "my sub"
  have N1 : News h₀ L s.heap [(ml, listOf #[.ref m0, .ref m1] c1), (pl, listOf #[.str p0 tp0, .str p1 tp1] c2), (m0, metO a0 b0 ta0 tb0 e0 n0), (m1, metO a1 b1 ta1 tb1 e1 n1)] := fun p hp => N p (hsub p hp)
  have N2 := Mine.hid N
  clear N
  refine wpAny_call ?_
  k_dflt walk_at "my enter"
  rename_i g' L' h' FG F' N' B' X' T' GS
  k_steps
  (with_reducible rename Fr g' _ _ _ => Fz)
  (with_reducible rename News h₀ L _ _ => Nr)
  have e : ∀ y : Str, y.cps.toList = putL txt.cps.toList 0 [(a0, b0, p0), (a1, b1, p1)] → y.length ≤ 100 := fun y hy => by
    have h1 : y.length = y.cps.toList.length := by simp [Str.length]
    rw [h1, hy]
    simp only [putL, List.length_append, List.length_take, List.length_drop, Array.length_toList]
    exact putb2 htxt hp0 hp1
  have e2 : ∀ ys : List Str, ys.flatMap (·.cps.toList) = putL txt.cps.toList 0 [(a0, b0, p0), (a1, b1, p1)] → (Txt.join (Str.ofString "") ys).cps.toList = putL txt.cps.toList 0 [(a0, b0, p0), (a1, b1, p1)] := fun ys h => (join_cps ys).trans h
  have e3 := e2 [Txt.slice txt (some 0) (some a0), p0, Txt.slice txt (some b0) (some a1), p1, Txt.slice txt (some b1) none] (by
    simp only [List.flatMap_cons, List.flatMap_nil, List.append_nil, putL]
    rw [slice_list (x := txt) (i := 0) (j := a0) (by omega) (by omega), slice_list (x := txt) (i := b0) (j := a1) (by omega) (by omega), toNat_sub2 (a := a1) (b := b0) (by omega), slice_from_list (x := txt) (i := b1) (by omega)]
    simp)
  exact ret _ _ _ _ e3 (e _ e3) (by assumption) (news_keep N2.out hsub Nr (by walk_at "my sub") Fz GS)
end
local macro_rules | `(tactic| walk_at "call ref") => `(tactic| (k_here; (with_reducible show wpAny _ _ (call (Value.ref 54) _ _) _ _ _); (try ((with_reducible rename News _ _ _ _ => Np'); simp only [List.push_toArray, List.nil_append, List.cons_append] at Np')); k_dflt (refine' put0_call ?kB ?kF ?kX ?kN ?kT ?khk ?khM ?khP     ?khtxt ?khd ?khun ?_; (case kB => k_asm); (case kF => k_asm); (case kX => k_asm); (case kN => k_asm); (case kT => k_asm); (case khk => first | exact rfl | assumption); (case khM => k_mem); (case khP => k_mem); (case khtxt => omega); (case khd => ktr_room); (case khun => ktr_units); k_whole); intro r' t' h' tk' hr' hrl' F' N'; (try k_sweep)))
local macro_rules | `(tactic| walk_at "call ref") => `(tactic| (k_here; (with_reducible show wpAny _ _ (call (Value.ref 54) _ _) _ _ _); (try ((with_reducible rename News _ _ _ _ => Np'); simp only [List.push_toArray, List.nil_append, List.cons_append] at Np')); k_dflt (refine' put1_call ?kB ?kF ?kX ?kN ?kT ?khk ?khM ?khP ?kh0 ?ki0a ?ki0b ?khp0  ?kil ?khtxt ?khd ?khun ?_; (case kB => k_asm); (case kF => k_asm); (case kX => k_asm); (case kN => k_asm); (case kT => k_asm); (case khk => first | exact rfl | assumption); (case khM => k_mem); (case khP => k_mem); (case kh0 => k_mem); (case ki0a => omega); (case ki0b => omega); (case khp0 => omega); (case kil => omega); (case khtxt => omega); (case khd => ktr_room); (case khun => ktr_units); k_whole); intro r' t' h' tk' hr' hrl' F' N'; (try k_sweep)))
local macro_rules | `(tactic| walk_at "call ref") => `(tactic| (k_here; (with_reducible show wpAny _ _ (call (Value.ref 54) _ _) _ _ _); (try ((with_reducible rename News _ _ _ _ => Np'); simp only [List.push_toArray, List.nil_append, List.cons_append] at Np')); k_dflt (refine' put2_call ?kB ?kF ?kX ?kN ?kT ?khk ?khM ?khP ?kh0 ?kh1 ?ki0a ?ki0b ?khp0 ?ki1a ?ki1b ?khp1 ?ko1 ?kil ?khtxt ?khd ?khun ?_; (case kB => k_asm); (case kF => k_asm); (case kX => k_asm); (case kN => k_asm); (case kT => k_asm); (case khk => first | exact rfl | assumption); (case khM => k_mem); (case khP => k_mem); (case kh0 => k_mem); (case kh1 => k_mem); (case ki0a => omega); (case ki0b => omega); (case khp0 => omega); (case ki1a => omega); (case ki1b => omega); (case khp1 => omega); (case ko1 => omega); (case kil => omega); (case khtxt => omega); (case khd => ktr_room); (case khun => ktr_units); k_whole); intro r' t' h' tk' hr' hrl' F' N'; (try k_sweep)))
local macro_rules | `(tactic| walk_at "my sub") => `(tactic| first | exact List.forall_mem_nil _ | (refine List.forall_mem_cons.mpr ⟨by k_mem, ?_⟩; walk_at "my sub"))
section
/-- a ledger less one entry -/
inductive Cut (x : Addr × Obj) : List (Addr × Obj) → List (Addr × Obj) → Prop where
  | head {r : List (Addr × Obj)} : Cut x (x :: r) r
  | tail {p : Addr × Obj} {r r' : List (Addr × Obj)} : Cut x r r' → Cut x (p :: r) (p :: r')
theorem Cut.mem {x : Addr × Obj} {l l' : List (Addr × Obj)} (h : Cut x l l') : x ∈ l ∧ ∀ p ∈ l', p ∈ l := by
  induction h with
  | head => exact ⟨.head _, fun p hp => List.mem_cons_of_mem _ hp⟩
  | tail _ ih => exact ⟨List.mem_cons_of_mem _ ih.1, fun p hp => by
      rcases List.mem_cons.mp hp with rfl | hp
      · exact .head _
      · exact List.mem_cons_of_mem _ (ih.2 p hp)⟩
theorem unr_end_cut {h₀ : Heap} {L I : Addr} {it : Obj} {rest : (Str → Option Value) → List (Addr × Obj) → Prop} {s₁ : Shared} {h' : Heap} {tk : Nat} {m' : Str → Option Value} {all news' : List (Addr × Obj)} (F : Fr h₀ L h' m') (N : News h₀ L h' all) (c : Cut (I, it) all news') (off : AllNe I news') (r : rest m' news') :
    UnrEnd h₀ L s₁ I it rest { s₁ with heap := h', toks := tk } :=
  UnrEnd.intro F N news' (fun p hp => by
    rcases List.mem_cons.mp hp with rfl | hp
    · exact c.mem.1
    · exact c.mem.2 p hp) (AllNe.all off) r
theorem menu3 {prog : Program} {w : World} {A : Around} {E : Value → Shared → Prop} {s : Shared} {value slice : PySem.Expr} {l : Addr} {x y z : Str} {tx ty tz : Tok} {k : Int} {ku : Tok} {Q : Value → Shared → Prop}
    (hl : s.heap.IsList l #[.str x tx, .str y ty, .str z tz]) (h0 : 0 ≤ k) (h1 : k < 3) (hx : x.length ≤ 2) (hy : y.length ≤ 2) (hz : z.length ≤ 2) (h : ∀ v t, v.length ≤ 2 → Q (.str v t) s)
    (hs : subscripted slice false (.ref l) (.int k ku) = operate [.ref l, .int k ku] (getItem (.ref l) (.int k ku)) := by with_unfolding_all rfl) :
    wpAny (model prog w) A (subscriptTail value slice (.ref l) (.int k ku)) Q E s := by
  have hl' : s.heap.IsList l [Value.str x tx, Value.str y ty, Value.str z tz].toArray := hl
  rcases (by omega : k = 0 ∨ k = 1 ∨ k = 2) with rfl | rfl | rfl
  · exact list_item (v := .str x tx) hl' (by omega) (by omega) rfl (h _ _ hx) hs
  · exact list_item (v := .str y ty) hl' (by omega) (by omega) rfl (h _ _ hy) hs
  · exact list_item (v := .str z tz) hl' (by omega) (by omega) rfl (h _ _ hz) hs
local macro_rules | `(tactic| walk_at "my cut") => `(tactic| repeat' (first | exact Cut.head | refine' Cut.tail ?_))
local macro_rules | `(tactic| walk_at "my off") => `(tactic| first | exact trivial | (refine And.intro (by k_ne) ?_; walk_at "my off"))
local macro_rules | `(tactic| walk_at "UnrEnd") => `(tactic| (k_here; k_dflt (refine' unr_end_cut ?k1 ?k2 ?k3 ?k4 ?_; (case k1 => k_asm); (case k2 => k_asm); (case k3 => walk_at "my cut"); (case k4 => walk_at "my off"))))
local macro_rules | `(tactic| walk_at "subscriptTail Name Name ref int") => `(tactic| (k_here; (with_reducible show wpAny _ _ (subscriptTail _ _ (Value.ref _) (Value.int _ _)) _ _ _); (with_unfolding_all refine' list_item ?k1 ?k2 ?k3 ?k4 ?_ ?k6; (case k1 => exact News.isList (by k_asm) (by k_mem)); (case k2 => decide); (case k3 => decide); (case k4 => exact rfl); (case k6 => with_unfolding_all rfl); k_whole)))
local macro_rules | `(tactic| walk_at "subscriptTail Name BinOp ref int") => `(tactic| (k_here; (with_reducible show wpAny _ _ (subscriptTail _ _ (Value.ref _) (Value.int _ _)) _ _ _); (with_unfolding_all refine' list_item ?k1 ?k2 ?k3 ?k4 ?_ ?k6; (case k1 => exact News.isList (by k_asm) (by k_mem)); (case k2 => decide); (case k3 => decide); (case k4 => exact rfl); (case k6 => with_unfolding_all rfl); k_whole)))
local macro_rules | `(tactic| walk_at "subscriptTail") => `(tactic| (k_here; (with_reducible show wpAny _ _ (subscriptTail _ _ (Value.ref _) (Value.int _ _)) _ _ _); (with_unfolding_all refine' menu3 ?k1 ?k2 ?k3 ?k4 ?k5 ?k6 ?_ ?k7; (case k1 => exact News.isList (by k_asm) (by k_mem)); (case k2 => omega); (case k3 => omega); (case k4 => decide); (case k5 => decide); (case k6 => decide); (case k7 => with_unfolding_all rfl)); intro v' t' hv'))
local macro_rules | `(tactic| walk_at "CompEnd") => `(tactic| refine stop_here ?_)
local macro_rules | `(tactic| walk_at "CompSrc") => `(tactic| refine stop_here ?_)
local macro_rules | `(tactic| walk_at "call builtin:sorted") => `(tactic| refine stop_here ?_)
structure DS where
  here : Int
  th : Tok
  due : Str
  td : Tok
theorem all2 {α : Type} {P : α → Prop} {a b : α} (ha : P a) (hb : P b) : ∀ p ∈ [a, b], P p := fun p hp => by
  rcases List.mem_cons.mp hp with rfl | hp
  · exact ha
  · rw [List.mem_singleton.mp hp]; exact hb
/-- the stretch that is taken over sign by sign -/
structure DInv (x : List Nat) (h0 a0 : Int) (d0 : List Nat) (c : DS) : Prop where
  lo : h0 ≤ c.here
  hi : c.here ≤ a0
  due : c.due.cps.toList = d0 ++ (x.drop h0.toNat).take (c.here - h0).toNat
abbrev dPs (c : DS) : List (Str × Value) := [(Str.ofString "due", .str c.due c.td), (Str.ofString "here", .int c.here c.th)]
theorem dinv_step {x : List Nat} {h0 a0 : Int} {d0 : List Nat} {c : DS} {ch : Nat} {td th : Tok} (I : DInv x h0 a0 d0 c) (hh : 0 ≤ h0) (hlt : c.here < a0) (hc : x[c.here.toNat]? = some ch) : DInv x h0 a0 d0 ⟨c.here + 1, th, c.due ++ ⟨#[ch]⟩, td⟩ := by
  have i0 := I.lo
  refine ⟨by show h0 ≤ c.here + 1; omega, by show c.here + 1 ≤ a0; omega, ?_⟩
  show (c.due ++ (⟨#[ch]⟩ : Str)).cps.toList = _
  rw [Str.cps_append, Array.toList_append, I.due]
  show _ ++ [ch] = d0 ++ (x.drop h0.toNat).take (c.here + 1 - h0).toNat
  rw [show (c.here + 1 - h0).toNat = (c.here - h0).toNat + 1 by omega, List.take_add_one, List.getElem?_drop, show h0.toNat + (c.here - h0).toNat = c.here.toNat by omega, hc]
  simp
theorem dinv_start {x : List Nat} {h0 a0 : Int} {y : Str} {th td : Tok} (h : h0 ≤ a0) : DInv x h0 a0 y.cps.toList ⟨h0, th, y, td⟩ :=
  ⟨Int.le_refl _, h, by show y.cps.toList = _; simp⟩
theorem len_app (a b : Str) : (a ++ b).cps.toList.length = a.length + b.length := by
  rw [Str.cps_append, Array.toList_append, List.length_append, Array.length_toList, Array.length_toList]; rfl
theorem DInv.len {x : Str} {h0 a0 : Int} {d0 : List Nat} {c : DS} (I : DInv x.cps.toList h0 a0 d0 c) : c.due.length ≤ d0.length + x.length := by
  have h1 : c.due.length = c.due.cps.toList.length := by simp [Str.length]
  have h2 : x.length = x.cps.toList.length := by simp [Str.length]
  rw [h1, I.due, h2, List.length_append, List.length_take, List.length_drop]
  omega
theorem my_whileC {prog : Program} {w : World} {A : Around} {E : Value → Shared → Prop} {Q : Flow → Shared → Prop} {s : Shared} {env : Env} {h₀ : Heap} {L : Addr} {σ : Type} {test : Expr} {body : List Stmt} {pos : Pos} {m₀ : Str → Option Value} {led : List (Addr × Obj)} (ps : σ → List (Str × Value)) (stored : List Str) (P : σ → Prop) (μ : σ → Nat) (c₀ : σ)
    (F : Fr h₀ L s.heap m₀) (N : News h₀ L s.heap led) (hk : ∀ p ∈ ps c₀, m₀ p.1 = some p.2) (hp : P c₀)
    (turn : ∀ (c : σ) (u : Str → Option Value) h tk (KQ : Flow → Shared → Prop), P c → Fr h₀ L h (kstB (fun z => if stored.contains z then u z else m₀ z) (ps c)) → News h₀ L h led →
      (∀ s₂, KswEnd h₀ L s (fun _ => led) ps (fun _ => True) stored m₀ P μ c s₂ → KQ .next s₂) →
      wpAny (model prog w) A (isTrue test env (eval test env)) (fun b s₂ =>
        if b = true then wpAny (model prog w) A (execs body env) KQ E s₂ else Q .next s₂) E { s with heap := h, toks := tk })
    (hE : PassesOwn (model prog w) A env E := by passes_own) :
    wpAny (model prog w) A (exec (.While test body [] pos) env) Q E s :=
  my_while (fun _ => led) ps stored P μ c₀ F N hk hp turn hE
theorem sign_at {x : Str} {i : Int} (h0 : 0 ≤ i) (h1 : i < x.length) : ∃ c, x.cps[i.toNat]? = some c := by
  have : i.toNat < x.cps.size := by unfold Str.length at h1; omega
  exact ⟨_, Array.getElem?_eq_getElem this⟩
local macro_rules | `(tactic| walk_at "my same") => `(tactic| (intro z h2 h3; (simp only [dPs, List.forall_mem_cons, List.not_mem_nil, false_implies, implies_true, and_true, ne_eq] at h2); (simp [dPs, kstB, h2])))
set_option maxRecDepth 100000 in
set_option maxHeartbeats 8000000 in
theorem right_call {w : World} {loose : List Str} {mean : ExcName → Option Value} {mg mb : Str → Option Value} {dp un : Nat} {gd : Option (List Code)} {cn : Str} {cs : Scope} {a : Addr} {ccd : Value} {cl : List (Str × Addr)} {outer : List Env} {A₀ : Around} {base h₀ : Heap} {L : Addr} {m : Str → Option Value} {s : Shared} {Q E : Value → Shared → Prop}
    {u sl : Addr} {k : Int} {tk tx : Tok} {txt : Str} {vs : List Value} {ns : List Int} {n n' : Nat}
    (B : Below A₀ base outer h₀) (F : Fr h₀ L s.heap m) (X : (Mine.hd.heap_1 w.params).In h₀) (N : News h₀ L s.heap [(u, urnO k tk sl n), (sl, listOf vs.toArray n')]) (T : Top Mine.view loose mean mg mb h₀) (hk : cs.kind = .function) (hne : sl ≠ u)
    (hi : IntsAre vs ns) (hsz : ns.length ≤ 40) (k0 : 0 ≤ k) (k1 : k ≤ 900) (htxt : txt.length ≤ 11) (hd : dp + 5 < recursionLimit) (hun : un + 40 < cLine)
    (ret : ∀ h' tk', Fr h₀ L h' m → Q (.bool true) {s with heap := h', toks := tk'}) :
    wpAny (model PySem.Challenge.rw_pc0066_01.row.prog w) (ktrTop dp un gd cn cs L a ccd cl outer) (call (.ref 94) [.ref u, .str txt tx]) Q E s := by
  w_top off
  revert X; k_fill; intro X
  refine wpAny_call ?_
  k_dflt walk_at "my enterC"
  rename_i g' L' h' tk' FG F' B' X' T' l1 o1 o2 d1 d2 N'
  replace l1 := allLt_of l1
  simp only [AllLt, and_true] at l1
  have dc1 : o1.data = .cell (some (.str txt tx)) := d1
  have dc2 : o2.data = .cell (some (.ref u)) := d2
  clear d1 d2
  have dd1 := drawF_lo ns k 3 (by omega)
  have dd2 := drawF_hi ns k 3 (by omega)
  k_steps
  refine Stop.mk ?_
  k_dflt (refine LCg.ListComp_U (F₀ := by k_asm) (by with_unfolding_all rfl) (by decide) (by rfl) (by decide) (by rfl) ?_)
  k_steps
  refine Stop.mk ?_
  (with_reducible rename News g' L' _ _ => Nz)
  (with_reducible rename Fr g' L' _ _ => Fz)
  (with_reducible rename IsRange _ _ _ _ _ _ _ _ => Rz)
  refine LCg.CompSrc.range (by rfl) Fz Nz Rz (small_one (by omega) (by omega) (by omega) (by omega)) (rangeSize_nat _ _) (by rw [sizeLine_eq]; omega) ?_
  intro g9
  generalize hnn : (2 * drawF ns k 3 - 0).toNat = nn
  have st0 : k + 1 + ((0 : Nat) : Int) = k + 1 := by omega
  have hnn4 : nn = 0 ∨ nn = 2 ∨ nn = 4 := by omega
  refine comp_all (fun ys i nw => ∃ zs tk1, IntsAre ys zs ∧ zs.length = i ∧ (∀ z ∈ zs, 0 ≤ z ∧ z ≤ (txt.length : Int)) ∧ nw = [(L' + 1 + 1, o1), (L' + 1, o2), (u, urnO (k + 1 + i) tk1 sl n), (sl, listOf vs.toArray n')]) ⟨[], _, .nil, rfl, by simp, by rw [st0]⟩ ?turn ?fin
  case turn =>
    rintro i v ys nw I oI C oC D m₂ h tk E' hi hv ⟨zs, tk1, hzs, hzl, hzb, rfl⟩ hC hx F9 N9 off ne
    simp only [LCg.Off3, and_true] at off
    have hi3 : i < 4 := by clear off ne; omega
    have hk9 : k + 1 + (i : Int) ≤ 1000 := by clear off ne; omega
    clear hi
    have hh1 := drawF_lo ns (k + 1 + i) (txt.length + 1) (by omega)
    have hh2 := drawF_hi ns (k + 1 + i) (txt.length + 1) (by omega)
    clear Nz Fz Rz
    k_steps
    refine Stop.mk ?_
    (with_reducible rename Fr g' L' _ _ => Fz)
    (with_reducible rename News g' L' _ _ => Nz)
    have st1 : k + 1 + (i : Int) + 1 = k + 1 + ((i + 1 : Nat) : Int) := by omega
    rw [st1] at Nz
    refine LCg.CompEnd.intro Fz Nz [(L' + 1 + 1, o1), (L' + 1, o2), (u, urnO (k + 1 + ((i + 1 : Nat) : Int)) _ sl n), (sl, listOf vs.toArray n')] (fun p hp => hp) (by simp only [LCg.Off3, and_true]; exact off) trivial ⟨zs ++ [_], _, IntsAre.append hzs (.cons _ _ .nil), by simp [hzl], ?_, rfl⟩
    intro z hz
    rcases List.mem_append.mp hz with q | q
    · exact hzb z q
    · rw [List.mem_singleton.mp q]; omega
  case fin =>
    rintro ys nw ⟨zs, tk1, hzs, hzl, hzb, rfl⟩
    clear Nz Fz Rz
    intro D h tk F9 N9 off1
    have off2 := allNe_of (off1_all off1)
    simp only [AllNe, and_true] at off2
    clear off1
    k_steps
    refine Stop.mk ?_
    have hlt64 : zs.length < 64 := by omega
    (with_unfolding_all refine' kso_sorted ?k1 ?k2 ?k3 ?k4 ?k5 ?_)
    case k1 => k_asm
    case k2 => k_asm
    case k3 => exact News.isList (by k_asm) (by k_mem)
    case k4 => exact hzs
    case k5 => exact hlt64
    intro D9 v9 n9 c9 h9 Fs Ns ls is es ps os bs
    have hb9 : ∀ z ∈ n9, 0 ≤ z ∧ z ≤ (txt.length : Int) := fun z hz => hzb z (ps.mem_iff.mp hz)
    rw [hzl] at es
    clear bs ps
    replace ls := allLt_of ls
    simp only [AllLt, and_true] at ls
    k_sweep
    rcases hnn4 with hn | hn | hn
    · subst hn
      match n9, es with
      | [], _ =>
        cases is
        clear hb9 hzb hzs hzl
        k_steps
        (with_reducible rename _ = putL _ _ _ => hr)
        (with_reducible rename News h₀ L _ _ => Nr)
        refine retB (ret _ _ (by assumption)) (beq_iff_eq.mpr (str_ext ?_))
        rw [hr, Str.cps_append, Array.toList_append, slice_from_list (by omega), show (Str.ofString "").cps.toList = [] by decide +kernel]
        simp [putL]
    · subst hn
      match n9, es with
      | [z0, z1], _ =>
        cases is with
        | cons _ t0 q => cases q with
          | cons _ t1 q => cases q with
            | nil =>
              have b0 := hb9 z0 (by simp)
              have b1 := hb9 z1 (by simp)
              simp only [List.pairwise_cons, List.mem_singleton, forall_eq, List.not_mem_nil, false_implies, implies_true, List.Pairwise.nil, and_true] at os
              have e0 := drawF_lo ns (k + 1 + ((2 : Nat) : Int)) 3 (by omega)
              have e1 := drawF_hi ns (k + 1 + ((2 : Nat) : Int)) 3 (by omega)
              clear hb9 hzb hzs hzl
              k_steps
              refine Stop.mk ?_
              (with_reducible rename News g' _ _ _ => Nz)
              (with_reducible rename Fr g' _ _ _ => Fz)
              refine my_whileC (σ := DS) dPs [] (DInv txt.cps.toList (0) (z0) _) (fun c => (z0 - c.here).toNat) ⟨0, _, Str.ofString "", _⟩ Fz Nz (all2 rfl rfl) (dinv_start (by omega)) ?_
              clear Fz Nz
              intro q0 u1 h tk KQ hI0 Fc Nc hKQ
              have i0 := hI0.lo
              have i1 := hI0.hi
              have i2 := hI0.len
              rw [show (Str.ofString "").cps.toList = [] by decide +kernel, List.length_nil] at i2
              by_cases hlt : q0.here < z0
              · obtain ⟨ch, hch⟩ := sign_at (x := txt) (i := q0.here) (by omega) (by omega)
                k_steps
                (with_reducible rename News g' _ _ _ => Nz)
                (with_reducible rename Fr g' _ _ _ => Fz)
                refine hKQ _ (ksw_end ⟨q0.here + 1, _, q0.due ++ ⟨#[ch]⟩, _⟩ Fz Nz (by walk_at "my sub") trivial (all2 rfl rfl) (by walk_at "my same") (dinv_step hI0 (by omega) hlt (by simpa using hch)) (by dsimp only; omega))
              · have hh0 : q0.here = z0 := by omega
                have hd0 := hI0.due
                rw [hh0] at hd0
                clear hKQ
                k_steps
                (with_reducible rename _ = putL _ _ _ => hr)
                (with_reducible rename News h₀ L _ _ => Nr)
                refine retB (ret _ _ (by assumption)) (beq_iff_eq.mpr (str_ext ?_))
                rw [hr, Str.cps_append, Array.toList_append, Str.cps_append, Array.toList_append, hd0, slice_from_list (by omega), show (Str.ofString "").cps.toList = [] by decide +kernel]
                simp [putL]
    · subst hn
      match n9, es with
      | [z0, z1, z2, z3], _ =>
        cases is with
        | cons _ t0 q => cases q with
          | cons _ t1 q => cases q with
            | cons _ t2 q => cases q with
              | cons _ t3 q => cases q with
                | nil =>
                  have b0 := hb9 z0 (by simp)
                  have b1 := hb9 z1 (by simp)
                  have b2 := hb9 z2 (by simp)
                  have b3 := hb9 z3 (by simp)
                  simp only [List.pairwise_cons, List.mem_cons, forall_eq_or_imp, List.mem_singleton, forall_eq, List.not_mem_nil, or_false, false_implies, implies_true, List.Pairwise.nil, and_true] at os
                  have e0 := drawF_lo ns (k + 1 + ((4 : Nat) : Int)) 3 (by omega)
                  have e1 := drawF_hi ns (k + 1 + ((4 : Nat) : Int)) 3 (by omega)
                  have e2 := drawF_lo ns (k + 1 + ((4 : Nat) : Int) + 1) 3 (by omega)
                  have e3 := drawF_hi ns (k + 1 + ((4 : Nat) : Int) + 1) 3 (by omega)
                  clear hb9 hzb hzs hzl
                  k_steps
                  refine Stop.mk ?_
                  (with_reducible rename News g' _ _ _ => Nz)
                  (with_reducible rename Fr g' _ _ _ => Fz)
                  refine my_whileC (σ := DS) dPs [] (DInv txt.cps.toList (0) (z0) _) (fun c => (z0 - c.here).toNat) ⟨0, _, Str.ofString "", _⟩ Fz Nz (all2 rfl rfl) (dinv_start (by omega)) ?_
                  clear Fz Nz
                  intro q0 u1 h tk KQ hI0 Fc Nc hKQ
                  have i0 := hI0.lo
                  have i1 := hI0.hi
                  have i2 := hI0.len
                  rw [show (Str.ofString "").cps.toList = [] by decide +kernel, List.length_nil] at i2
                  by_cases hlt : q0.here < z0
                  · obtain ⟨ch, hch⟩ := sign_at (x := txt) (i := q0.here) (by omega) (by omega)
                    k_steps
                    (with_reducible rename News g' _ _ _ => Nz)
                    (with_reducible rename Fr g' _ _ _ => Fz)
                    refine hKQ _ (ksw_end ⟨q0.here + 1, _, q0.due ++ ⟨#[ch]⟩, _⟩ Fz Nz (by walk_at "my sub") trivial (all2 rfl rfl) (by walk_at "my same") (dinv_step hI0 (by omega) hlt (by simpa using hch)) (by dsimp only; omega))
                  · have hh0 : q0.here = z0 := by omega
                    have hd0 := hI0.due
                    rw [hh0] at hd0
                    clear hKQ
                    k_steps
                    have hln : q0.due.length ≤ 11 := by omega
                    refine Stop.mk ?_
                    (with_reducible rename News g' _ _ _ => Nz)
                    (with_reducible rename Fr g' _ _ _ => Fz)
                    refine my_whileC (σ := DS) dPs [] (DInv txt.cps.toList (z1) (z2) _) (fun c => (z2 - c.here).toNat) ⟨z1, _, _, _⟩ Fz Nz (all2 rfl rfl) (dinv_start (by omega)) ?_
                    clear Fz Nz
                    intro q1 u1 h tk KQ hI1 Fc Nc hKQ
                    have i0 := hI1.lo
                    have i1 := hI1.hi
                    have i2 := hI1.len
                    rw [len_app] at i2
                    by_cases hlt : q1.here < z2
                    · obtain ⟨ch, hch⟩ := sign_at (x := txt) (i := q1.here) (by omega) (by omega)
                      k_steps
                      (with_reducible rename News g' _ _ _ => Nz)
                      (with_reducible rename Fr g' _ _ _ => Fz)
                      refine hKQ _ (ksw_end ⟨q1.here + 1, _, q1.due ++ ⟨#[ch]⟩, _⟩ Fz Nz (by walk_at "my sub") trivial (all2 rfl rfl) (by walk_at "my same") (dinv_step hI1 (by omega) hlt (by simpa using hch)) (by dsimp only; omega))
                    · have hh1 : q1.here = z2 := by omega
                      have hd1 := hI1.due
                      rw [hh1] at hd1
                      clear hKQ
                      k_steps
                      (with_reducible rename _ = putL _ _ _ => hr)
                      (with_reducible rename News h₀ L _ _ => Nr)
                      refine retB (ret _ _ (by assumption)) (beq_iff_eq.mpr (str_ext ?_))
                      rw [hr, Str.cps_append, Array.toList_append, Str.cps_append, Array.toList_append, hd1, Str.cps_append, Array.toList_append, hd0, slice_from_list (by omega), show (Str.ofString "").cps.toList = [] by decide +kernel, toNat_sub2 (a := z2) (b := z1) b1.1]
                      simp [putL]
end
local macro_rules | `(tactic| walk_at "call ref") => `(tactic| (k_here; (with_reducible show wpAny _ _ (call (Value.ref 94) _ _) _ _ _); k_dflt (refine' right_call ?kB ?kF ?kX ?kN ?kT ?khk ?khne ?khi ?khsz ?kk0 ?kk1 ?khtxt ?khd ?khun ?_; (case kB => k_asm); (case kF => k_asm); (case kX => k_asm); (case kN => walk_at "my rightN"); (case kT => k_asm); (case khk => first | exact rfl | assumption); (case khne => first | assumption | k_ne); (case khi => assumption); (case khsz => assumption); (case kk0 => omega); (case kk1 => omega); (case khtxt => omega); (case khd => ktr_room); (case khun => ktr_units); k_whole); intro h' tk' F'))
local macro_rules | `(tactic| walk_at "my pad11") => `(tactic| skip)
local macro_rules | `(tactic| walk_at "my pad12") => `(tactic| skip)
local macro_rules | `(tactic| walk_at "my pad13") => `(tactic| skip)
local macro_rules | `(tactic| walk_at "my pad14") => `(tactic| skip)
local macro_rules | `(tactic| walk_at "my pad15") => `(tactic| skip)
local macro_rules | `(tactic| walk_at "my pad16") => `(tactic| skip)
local macro_rules | `(tactic| walk_at "my pad17") => `(tactic| skip)
local macro_rules | `(tactic| walk_at "my pad18") => `(tactic| skip)
local macro_rules | `(tactic| walk_at "my pad19") => `(tactic| skip)
local macro_rules | `(tactic| walk_at "my pad20") => `(tactic| skip)
section
/-- the end of a turn -/
def REnd {σ : Type} (h₀ : Heap) (L : Addr) (s : Shared) (I : Addr) (it : Obj) (Led : σ → List (Addr × Obj)) (ps : σ → List (Str × Value)) (P : Nat → σ → Prop) (i : Nat) (s₂ : Shared) : Prop :=
  ∃ (c' : σ) (h' : Heap) (tk : Nat) (m' : Str → Option Value) (news' : List (Addr × Obj)), s₂ = { s with heap := h', toks := tk } ∧ Fr h₀ L h' m' ∧ News h₀ L h' news' ∧ (I, it) ∈ news' ∧ (∀ p ∈ Led c', p ∈ news') ∧ (∀ p ∈ Led c', p.1 ≠ I) ∧ (∀ p ∈ ps c', m' p.1 = some p.2) ∧ P (i + 1) c'
theorem rend {σ : Type} {h₀ : Heap} {L : Addr} {s : Shared} {I : Addr} {it : Obj} {Led : σ → List (Addr × Obj)} {ps : σ → List (Str × Value)} {P : Nat → σ → Prop} {i : Nat} {h' : Heap} {tk : Nat} {m' : Str → Option Value} {news' : List (Addr × Obj)} (c' : σ)
    (F : Fr h₀ L h' m') (N : News h₀ L h' news') (hI : (I, it) ∈ news') (hn : ∀ p ∈ Led c', p ∈ news') (off : ∀ p ∈ Led c', p.1 ≠ I) (hk : ∀ p ∈ ps c', m' p.1 = some p.2) (hp : P (i + 1) c') :
    REnd h₀ L s I it Led ps P i { s with heap := h', toks := tk } := ⟨c', h', tk, m', news', rfl, F, N, hI, hn, off, hk, hp⟩
section
variable {prog : Program} {w : World} {A : Around} {E : Value → Shared → Prop} {s : Shared} {env : Env} {h₀ : Heap} {x : Str} {body : List Stmt} {Q : Flow → Shared → Prop}
/-- a loop over a range, by what holds between two turns -/
theorem my_range {σ : Type} {r : Addr} {b₀ : Int} {t₀ u₀ v₀ : Tok} {n : Nat} {m₀ : Str → Option Value} {news : List (Addr × Obj)} (Led : σ → List (Addr × Obj)) (ps : σ → List (Str × Value)) (P : Nat → σ → Prop) (c₀ : σ)
    (hh : A.handled = none) (hr : IsRange s.heap r 0 b₀ 1 t₀ u₀ v₀) (hb : b₀ = (n : Int)) (hb1 : n < 1000000) (F : Fr h₀ env.locals s.heap m₀) (N : News h₀ env.locals s.heap news) (hnw : ∀ p ∈ Led c₀, p ∈ news) (hk : ∀ p ∈ ps c₀, m₀ p.1 = some p.2) (hp : P 0 c₀)
    (turn : ∀ (i : Nat) (c : σ) (I : Addr) (it : Obj) t (u : Str → Option Value) h tk (KQ : Flow → Shared → Prop), i < n → P i c → (∀ p ∈ Led c, p.1 ≠ I) → Fr h₀ env.locals h (fun y => if y = x then some (.int (i : Int) t) else kstB u (ps c) y) → News h₀ env.locals h ((I, it) :: Led c) →
      (∀ s₂, REnd h₀ env.locals s I it Led ps P i s₂ → KQ .next s₂) → wpAny (model prog w) A (execs body env) KQ E { s with heap := h, toks := tk })
    (done : ∀ (c : σ) (u : Str → Option Value) h tk, P n c → Fr h₀ env.locals h (kstB u (ps c)) → News h₀ env.locals h (Led c) → Q .next { s with heap := h, toks := tk }) :
    wpAny (model prog w) A (pyIter (.ref r)) (fun it s₂ => LoopAtV prog w A h₀ env x body Q E it s₂) E s := by
  refine krs_iter (n := n) hh hr (small_one (by decide) (by decide) (by omega) (by omega)) (by rw [hb]; simpa using rangeSize_nat 0 (n : Int)) F (fun p hp => N p (hnw p hp)) ?_
  intro I hI
  have key : ∀ (j i : Nat) (c : σ) (m : Str → Option Value), i + j = n → P i c → (∀ p ∈ Led c, p.1 ≠ I) → (∀ p ∈ ps c, m p.1 = some p.2) → KrsRest prog w A E h₀ env x body Q s I 0 1 n j i m (Led c) := by
    intro j
    induction j with
    | zero =>
      intro i c m hi ho hoff hps
      have e : i = n := by omega
      subst e
      refine KrsRest.zero fun h tk F9 N9 => done c m h tk ho ?_ N9
      have em : kstB m (ps c) = m := by funext y; exact kstB_eq hps fun _ => rfl
      rw [em]; exact F9
    | succ j ih =>
      intro i c m hi ho hoff hps
      refine KrsRest.succ (v := (i : Int)) (by omega) ?_
      intro t h tk F9 N9
      have em : (fun y => if y = x then some (.int (i : Int) t) else kstB m (ps c) y) = (fun y => if y = x then some (.int (i : Int) t) else m y) := by
        funext y
        by_cases hy : y = x
        · rw [if_pos hy, if_pos hy]
        · rw [if_neg hy, if_neg hy]; exact kstB_eq hps fun _ => rfl
      refine turn i c I _ t m h tk _ (by omega) ho hoff (by rw [em]; exact F9) N9 ?_
      rintro s₂ ⟨c', h', tk', m', news', rfl, F', N', hI', hn', off', hk', hp'⟩
      show UnrEnd _ _ _ _ _ _ _
      refine ⟨h', tk', m', Led c', rfl, F', fun p hp => ?_, off', ih (i + 1) c' m' (by omega) hp' off' hk'⟩
      rcases List.mem_cons.mp hp with rfl | hp
      · exact N' _ hI'
      · exact N' _ (hn' p hp)
  exact key n 0 c₀ m₀ (by omega) hp (fun p hp => Nat.ne_of_lt (hI p hp)) hk
end
theorem ne_known {prog : Program} {w : World} {A : Around} {E : Value → Shared → Prop} {s : Shared} {x y : Str} {t u : Tok} {Q : Value → Shared → Prop} (e : x.cps.toList = y.cps.toList) (h : Q (.bool false) s) : wpAny (model prog w) A (compareOp .NotEq (.str x t) (.str y u)) Q E s := by
  refine P.ne_str ?_
  rw [show (x.cps.toList != y.cps.toList) = false by rw [e]; simp]; exact h
/-- what is on a ledger of texts and Nones, as plain data -/
def datO : Option Str → Dat
  | none => .none
  | some x => .str x
theorem optVs_dat {news : List (Addr × Obj)} {vs : List Value} {T : List (Option Str)} (h : OptVs vs T) : DatAll news vs (T.map datO) := by
  induction h with
  | nil => exact .nil
  | cons hv _ ih =>
    cases hv with
    | none => exact .cons .none ih
    | str x t => exact .cons (.str x t) ih
theorem dat_ok {T : List (Option Str)} (h : ∀ x, some x ∈ T → PyData.strOk x = true) : ∀ d ∈ T.map datO, kqdOk 8 d = true := by
  intro d hd
  obtain ⟨o, ho, rfl⟩ := List.mem_map.mp hd
  cases o with
  | none => rfl
  | some x => exact h x ho
theorem ne_texts {prog : Program} {w : World} {A : Around} {E : Value → Shared → Prop} {s : Shared} {h₀ : Heap} {L a b : Addr} {news : List (Addr × Obj)} {xs ys : List Value} {ka kb : Nat} {T : List (Option Str)} {Q : Value → Shared → Prop}
    (N : News h₀ L s.heap news) (ma : (a, listOf xs.toArray ka) ∈ news) (mb : (b, listOf ys.toArray kb) ∈ news) (hx : OptVs xs T) (hy : OptVs ys T) (ok : ∀ x, some x ∈ T → PyData.strOk x = true) (hu : A.units + 64 < cLine) (h : Q (.bool false) s) :
    wpAny (model prog w) A (compareOp .NotEq (.ref a) (.ref b)) Q E s := by
  refine kqd_ne N ma rfl rfl (optVs_dat (news := news) hx) (fun _ h => h) mb rfl rfl (optVs_dat (news := news) hy) (fun _ h => h) (dat_ok ok) (dat_ok ok) hu ?_
  simpa using h
theorem slice_ok {x : Str} (h : PyData.strOk x = true) {i j : Int} (h0 : 0 ≤ i) (h1 : i ≤ j) : PyData.strOk (Txt.slice x (some i) (some j)) = true := by
  have e : (Txt.slice x (some i) (some j)).cps = ((x.cps.toList.drop i.toNat).take (j - i).toNat).toArray := by rw [← slice_list h0 h1]
  unfold PyData.strOk at h ⊢
  rw [e]
  rw [Array.all_eq_true'] at h
  simp only [List.all_toArray, List.all_eq_true]
  intro c hc
  have := List.mem_of_mem_drop (List.mem_of_mem_take hc)
  exact h c (by simpa using this)
theorem slice_ok0 {x : Str} (h : PyData.strOk x = true) {j : Int} (h1 : 0 ≤ j) : PyData.strOk (Txt.slice x none (some j)) = true := by
  have e : Txt.slice x none (some j) = Txt.slice x (some 0) (some j) := by unfold Txt.slice; rw [StrLaws.sliceIdx_none_lo]
  rw [e]; exact slice_ok h (by omega) h1
end
local macro_rules | `(tactic| walk_at "my pad21") => `(tactic| skip)
section
theorem len_alpha (i : Int) (h0 : 0 ≤ i) (h1 : i < 12) : ((Txt.slice (Str.ofString "abcdefghijk") none (some i)).length : Int) = min i 11 := by
  have e : (Txt.slice (Str.ofString "abcdefghijk") none (some i)).length = (Txt.slice (Str.ofString "abcdefghijk") none (some i)).cps.toList.length := by simp [Str.length]
  have e2 : (Str.ofString "abcdefghijk").cps.toList.length = 11 := by decide +kernel
  rw [e, slice_to_list h0, List.length_take, e2]; omega
/-- the groups so far -/
structure GL where
  k : Int
  tk : Tok
  gvs : List Value
  n : Nat
  G : List (Option (Int × Int))
  tail : List (Addr × Obj)
abbrev gLed (u gl sl mt ce : Addr) (oM oS oC : Obj) (c : GL) : List (Addr × Obj) := (u, urnO c.k c.tk sl 0) :: (gl, listOf c.gvs.toArray c.n) :: (mt, oM) :: (sl, oS) :: (ce, oC) :: c.tail
structure GInv (u gl : Addr) (i : Nat) (c : GL) : Prop where
  k0 : 0 ≤ c.k
  k1 : c.k ≤ 10 + i
  glen : c.G.length = i
  vlen : c.gvs.length = i
  sem : ∀ h : Heap, (∀ p ∈ c.tail, h.get? p.1 = some p.2) → SpanVs h c.gvs c.G
  offu : AllNe u c.tail
  offg : AllNe gl c.tail
  wf : ∀ b e, some (b, e) ∈ c.G → 0 ≤ b ∧ b ≤ e
abbrev gPs (u gl mt : Addr) : List (Str × Value) := [(Str.ofString "urn", .ref u), (Str.ofString "met", .ref mt), (Str.ofString "groups", .ref gl)]
theorem all3 {α : Type} {P : α → Prop} {a b c : α} (ha : P a) (hb : P b) (hc : P c) : ∀ p ∈ [a, b, c], P p := fun p hp => by
  simp only [List.mem_cons, List.not_mem_nil, or_false] at hp
  rcases hp with rfl | rfl | rfl <;> assumption
section
variable {prog : Program} {w : World} {A : Around} {E : Value → Shared → Prop} {s : Shared} {env : Env} {h₀ : Heap} {x : Str} {body : List Stmt} {Q : Flow → Shared → Prop}
theorem groups_loop {r D gl mt u sl ce : Addr} {oD oM oS oC : Obj} {b₀ k : Int} {tk t₀ u₀ v₀ : Tok} {m₀ : Str → Option Value}
    (hh : A.handled = none) (hr : IsRange s.heap r 0 b₀ 1 t₀ u₀ v₀) (hb : 0 ≤ b₀) (hb1 : b₀ < 15) (F : Fr h₀ env.locals s.heap m₀) (N : News h₀ env.locals s.heap [(D, oD), (gl, listOf #[] 0), (mt, oM), (u, urnO k tk sl 0), (sl, oS), (ce, oC)])
    (m1 : m₀ (Str.ofString "urn") = some (.ref u)) (m2 : m₀ (Str.ofString "met") = some (.ref mt)) (m3 : m₀ (Str.ofString "groups") = some (.ref gl)) (k0 : 0 ≤ k) (k1 : k ≤ 10)
    (turn : ∀ (i : Nat) (c : GL) (I : Addr) (it : Obj) t (u' : Str → Option Value) h tk (KQ : Flow → Shared → Prop), i < 14 → GInv u gl i c → AllNe I (gLed u gl sl mt ce oM oS oC c) → Fr h₀ env.locals h (fun y => if y = x then some (.int (i : Int) t) else kstB u' (gPs u gl mt) y) → News h₀ env.locals h ((I, it) :: gLed u gl sl mt ce oM oS oC c) →
      (∀ s₂, REnd h₀ env.locals s I it (gLed u gl sl mt ce oM oS oC) (fun _ : GL => gPs u gl mt) (GInv u gl) i s₂ → KQ .next s₂) → wpAny (model prog w) A (execs body env) KQ E { s with heap := h, toks := tk })
    (done : ∀ (i : Nat) (c : GL) (u' : Str → Option Value) h tk, i ≤ 14 → GInv u gl i c → Fr h₀ env.locals h (kstB u' (gPs u gl mt)) → News h₀ env.locals h (gLed u gl sl mt ce oM oS oC c) → Q .next { s with heap := h, toks := tk }) :
    wpAny (model prog w) A (pyIter (.ref r)) (fun it s₂ => LoopAtV prog w A h₀ env x body Q E it s₂) E s := by
  refine my_range (n := b₀.toNat) (gLed u gl sl mt ce oM oS oC) (fun _ : GL => gPs u gl mt) (GInv u gl) ⟨k, tk, [], 0, [], []⟩ hh hr (by omega) (by omega) F N ?_ (all3 m1 m2 m3) ⟨k0, by show k ≤ _; omega, rfl, rfl, fun _ _ => .nil, trivial, trivial, fun b e h => nomatch h⟩ ?_ ?_
  · intro p hp
    simp only [List.mem_cons, List.not_mem_nil, or_false] at hp ⊢
    rcases hp with rfl | rfl | rfl | rfl | rfl <;> simp
  · intro i c I it t u' h tk KQ hi hp off F9 N9 hKQ
    exact turn i c I it t u' h tk KQ (by omega) hp (allNe_of off) F9 N9 hKQ
  · intro c u' h tk hp F9 N9
    exact done _ c u' h tk (by omega) hp F9 N9
end
theorem gstep_none {u gl : Addr} {i : Nat} {k : Int} {tk tk' : Tok} {gvs : List Value} {n n' : Nat} {G : List (Option (Int × Int))} {tail : List (Addr × Obj)} (I : GInv u gl i ⟨k, tk, gvs, n, G, tail⟩) : GInv u gl (i + 1) ⟨k + 1, tk', gvs ++ [.none], n', G ++ [none], tail⟩ := by
  obtain ⟨k0, k1, glen, vlen, sem, offu, offg, wf⟩ := I
  dsimp only at k0 k1 glen vlen sem offu offg wf
  refine ⟨by show 0 ≤ k + 1; omega, by show k + 1 ≤ _; omega, by simp [glen], by simp [vlen], fun h hh => (sem h hh).snoc .none, offu, offg, fun b e h => ?_⟩
  rcases List.mem_append.mp h with h | h
  · exact wf b e h
  · simp at h
theorem gstep_tup {u gl D : Addr} {i : Nat} {k b e : Int} {tk tk' t1 t2 : Tok} {gvs : List Value} {n n' : Nat} {G : List (Option (Int × Int))} {tail : List (Addr × Obj)} (I : GInv u gl i ⟨k, tk, gvs, n, G, tail⟩) (h1 : @Ne Nat D u) (h2 : @Ne Nat D gl) (b0 : 0 ≤ b) (be : b ≤ e) (e1 : e ≤ 1000) :
    GInv u gl (i + 1) ⟨k + 1, tk', gvs ++ [.ref D], n', G ++ [some (b, e)], (D, ({ cls := .type "tuple", data := .seq #[.int b t1, .int e t2] 0 } : Obj)) :: tail⟩ := by
  obtain ⟨k0, k1, glen, vlen, sem, offu, offg, wf⟩ := I
  dsimp only at k0 k1 glen vlen sem offu offg wf
  refine ⟨by show 0 ≤ k + 1; omega, by show k + 1 ≤ _; omega, by simp [glen], by simp [vlen], fun h hh => (sem h fun p hp => hh p (.tail _ hp)).snoc (.tup ⟨_, hh _ (.head _), rfl, _, rfl⟩ b0 be e1), ⟨h1, offu⟩, ⟨h2, offg⟩, fun b' e' h => ?_⟩
  rcases List.mem_append.mp h with h | h
  · exact wf b' e' h
  · simp only [List.mem_singleton, Option.some.injEq, Prod.mk.injEq] at h
    omega
section
variable {prog : Program} {w : World} {A : Around} {h₀ : Heap} {L : Addr} {m : Str → Option Value} {env : Env} {elt : Expr} {x : Str} {scope : Scope} {cl : List (Str × Addr)} {s : Shared} {S : List (Addr × Obj) → Prop} {P : Nat → Value → Prop} {Fin : List Value → List (Addr × Obj) → Prop}
theorem comp_texts {n : Nat} {news : List (Addr × Obj)} (G : List (Option (Int × Int))) (f : Option (Int × Int) → Option Str)
    (turn : ∀ i v ys I oI C oC D m₂ h tk (E' : Value → Shared → Prop), i < n → P i v → OptVs ys ((G.take i).map f) → LCg.NsObj oC m₂ → m₂ x = some v → Fr h₀ L h m → News h₀ L h ((I, oI) :: (C, oC) :: (D, LCg.lst ys) :: news) → LCg.Off3 I C D news → ((@Ne Nat I C) ∧ (@Ne Nat I D) ∧ (@Ne Nat C D)) →
      wpAny (model prog w) A (eval elt (compEnvC scope cl C env)) (LCg.CompEnd h₀ L m { s with heap := h, toks := tk } I oI C oC D (LCg.lst ys) S (fun y nw' => nw' = news ∧ OptVs (ys ++ [y]) ((G.take (i + 1)).map f))) E' { s with heap := h, toks := tk })
    (fin : ∀ ys, OptVs ys ((G.take n).map f) → Fin ys news) : LCg.CompRest prog w A h₀ L m env elt x scope cl s S P Fin n 0 [] news := by
  refine comp_all (fun ys i nw => nw = news ∧ OptVs ys ((G.take i).map f)) ⟨rfl, .nil⟩ ?_ ?_
  · rintro i v ys nw I oI C oC D m₂ h tk E' hi hv ⟨rfl, hok⟩ hC hx F9 N9 off ne
    exact turn i v ys I oI C oC D m₂ h tk E' hi hv hok hC hx F9 N9 off ne
  · rintro ys nw ⟨rfl, hok⟩
    exact fin ys hok
end
/-- two places apart (out of sight of the arithmetic) -/
structure Off (a b : Nat) : Prop where
  ne : a ≠ b
/-- the pieces so far -/
structure PS where
  k : Int
  tk : Tok
  tp : Str
  t1 : Tok
  du : Str
  t2 : Tok
  ba : Str
  t3 : Tok
structure PInv (T : List (Option Str)) (a0 a1 a2 : Str) (i : Nat) (c : PS) : Prop where
  k0 : 0 ≤ c.k
  k1 : c.k ≤ 30 + 2 * i
  l1 : c.tp.length ≤ 5 * i
  l2 : c.du.length ≤ 30 * i
  l3 : c.ba.length ≤ 30 * i
  ps : ∃ Ps : List (Int × Int), (∀ p ∈ Ps, 0 ≤ p.1 ∧ p.1 < 9 ∧ 0 ≤ p.2 ∧ p.2 < 20) ∧ c.tp.cps.toList = Ps.flatMap (fun p => (toldS p.1 p.2).cps.toList ++ [45]) ∧ c.du.cps.toList = Ps.flatMap (fun p => (meantS T a0 a1 a2 p.1 p.2).cps.toList ++ [45]) ∧ c.ba.cps.toList = Ps.flatMap (fun p => (meantS [] a0 a1 a2 p.1 p.2).cps.toList ++ [45])
theorem app_len (a b : Str) : (a ++ b).length = a.length + b.length := by
  have h := len_app a b
  have e : (a ++ b).cps.toList.length = (a ++ b).length := by simp [Str.length]
  omega
theorem dash_len : (Str.ofString "-").length = 1 := by decide +kernel
theorem dash_cps : (Str.ofString "-").cps.toList = [45] := by decide +kernel
theorem dollar_cps : (Str.ofString "$").cps.toList = [36] := by decide +kernel
theorem dollar_len : (Str.ofString "$").length = 1 := by decide +kernel
theorem pstep {T : List (Option Str)} {a0 a1 a2 tp du ba x y z : Str} {i : Nat} {k f nb : Int} {tk tk' t1 t2 t3 t1' t2' t3' : Tok} (I : PInv T a0 a1 a2 i ⟨k, tk, tp, t1, du, t2, ba, t3⟩) (hx : x = toldS f nb) (hy : y = meantS T a0 a1 a2 f nb) (hz : z = meantS [] a0 a1 a2 f nb) (lx : x.length ≤ 4) (ly : y.length ≤ 22) (lz : z.length ≤ 22) (f0 : 0 ≤ f) (f1 : f < 9) (n0 : 0 ≤ nb) (n1 : nb < 20) :
    PInv T a0 a1 a2 (i + 1) ⟨k + 1 + 1, tk', tp ++ x ++ Str.ofString "-", t1', du ++ y ++ Str.ofString "-", t2', ba ++ z ++ Str.ofString "-", t3'⟩ := by
  obtain ⟨k0, k1, l1, l2, l3, Ps, b, e1, e2, e3⟩ := I
  dsimp only at k0 k1 l1 l2 l3 e1 e2 e3
  refine ⟨by show 0 ≤ k + 1 + 1; omega, by show k + 1 + 1 ≤ _; omega, ?_, ?_, ?_, Ps ++ [(f, nb)], ?_, ?_, ?_, ?_⟩
  · show (tp ++ x ++ Str.ofString "-").length ≤ _
    rw [app_len, app_len, dash_len]; omega
  · show (du ++ y ++ Str.ofString "-").length ≤ _
    rw [app_len, app_len, dash_len]; omega
  · show (ba ++ z ++ Str.ofString "-").length ≤ _
    rw [app_len, app_len, dash_len]; omega
  · intro p hp
    rcases List.mem_append.mp hp with hp | hp
    · exact b p hp
    · rw [List.mem_singleton.mp hp]; exact ⟨f0, f1, n0, n1⟩
  · show (tp ++ x ++ Str.ofString "-").cps.toList = _
    rw [Str.cps_append, Array.toList_append, Str.cps_append, Array.toList_append, e1, dash_cps, hx, List.flatMap_append]; simp
  · show (du ++ y ++ Str.ofString "-").cps.toList = _
    rw [Str.cps_append, Array.toList_append, Str.cps_append, Array.toList_append, e2, dash_cps, hy, List.flatMap_append]; simp
  · show (ba ++ z ++ Str.ofString "-").cps.toList = _
    rw [Str.cps_append, Array.toList_append, Str.cps_append, Array.toList_append, e3, dash_cps, hz, List.flatMap_append]; simp
theorem told_fin : ∀ f : Fin 9, ∀ nb : Fin 20, (toldS (f.val : Int) (nb.val : Int)).length ≤ 4 := by decide +kernel
theorem told_len {f nb : Int} (f0 : 0 ≤ f) (f1 : f < 9) (n0 : 0 ≤ nb) (n1 : nb < 20) : (toldS f nb).length ≤ 4 := by
  have h := told_fin ⟨f.toNat, by omega⟩ ⟨nb.toNat, by omega⟩
  have e1 : (f.toNat : Int) = f := by omega
  have e2 : (nb.toNat : Int) = nb := by omega
  simp only [e1, e2] at h; exact h
theorem dg_fin : ∀ x : Fin 10, (dg (x.val : Int)).cps.toList = [48 + x.val] := by decide +kernel
theorem dg_cps {x : Int} (h0 : 0 ≤ x) (h1 : x < 10) : (dg x).cps.toList = [48 + x.toNat] := by
  have h := dg_fin ⟨x.toNat, by omega⟩
  have e1 : (x.toNat : Int) = x := by omega
  simp only [e1] at h; exact h
theorem dg_len {x : Int} (h0 : 0 ≤ x) (h1 : x < 10) : (dg x).length = 1 := by
  have e : (dg x).length = (dg x).cps.toList.length := by simp [Str.length]
  rw [e, dg_cps h0 h1]; rfl
theorem meant_len {T : List (Option Str)} {a0 a1 a2 : Str} {f nb : Int} (f0 : 0 ≤ f) (f1 : f < 9) (n0 : 0 ≤ nb) (n1 : nb < 20) (h0 : a0.length ≤ 20) (h1 : a1.length ≤ 20) (h2 : a2.length ≤ 20) (hT : ∀ i, (grpS T i).length ≤ 20) : (meantS T a0 a1 a2 f nb).length ≤ 22 := by
  have t := told_len f0 f1 n0 n1
  have d0 : (Str.ofString "$").length = 1 := dollar_len
  have m0 : 0 ≤ nb.fmod 10 := Int.fmod_nonneg_of_pos _ (by omega)
  have m1 : nb.fmod 10 < 10 := Int.fmod_lt_of_pos _ (by omega)
  unfold meantS
  split
  · omega
  · split
    · omega
    · split
      · omega
      · split
        · omega
        · split
          · split
            · have := hT (nb.fmod 10); omega
            · omega
          · split
            · split
              · have := hT nb; omega
              · split
                · have := hT (nb.fdiv 10)
                  rw [app_len, dg_len m0 m1]; omega
                · omega
            · omega
abbrev arO (a0 a1 a2 : Str) (s0 s1 s2 : Tok) : Obj := { cls := .type "tuple", data := .seq #[.str a0 s0, .str a1 s1, .str a2 s2] 0 }
abbrev pLed (u tx da gl mt sl ce : Addr) (oT oA oG oM oS oC : Obj) (tail : List (Addr × Obj)) (c : PS) : List (Addr × Obj) := (u, urnO c.k c.tk sl 0) :: (tx, oT) :: (da, oA) :: (gl, oG) :: (mt, oM) :: (sl, oS) :: (ce, oC) :: tail
abbrev pPs (u gl mt tx da : Addr) (c : PS) : List (Str × Value) := [(Str.ofString "urn", .ref u), (Str.ofString "met", .ref mt), (Str.ofString "groups", .ref gl), (Str.ofString "texts", .ref tx), (Str.ofString "around", .ref da), (Str.ofString "template", .str c.tp c.t1), (Str.ofString "due", .str c.du c.t2), (Str.ofString "bare", .str c.ba c.t3)]
theorem all8 {α : Type} {P : α → Prop} {a b c d e f g h : α} (ha : P a) (hb : P b) (hc : P c) (hd : P d) (he : P e) (hf : P f) (hg : P g) (hh : P h) : ∀ p ∈ [a, b, c, d, e, f, g, h], P p := fun p hp => by
  simp only [List.mem_cons, List.not_mem_nil, or_false] at hp
  rcases hp with rfl | rfl | rfl | rfl | rfl | rfl | rfl | rfl <;> assumption
theorem empty_len : (Str.ofString "").length = 0 := by decide +kernel
theorem empty_cps : (Str.ofString "").cps.toList = [] := by decide +kernel
section
variable {prog : Program} {w : World} {A : Around} {E : Value → Shared → Prop} {s : Shared} {env : Env} {h₀ : Heap} {x : Str} {body : List Stmt} {Q : Flow → Shared → Prop}
theorem pieces_loop {r d1 d3 d4 tx da gl mt u sl ce : Addr} {o1 o3 o4 oT oG oM oS oC : Obj} {a0 a1 a2 : Str} {s0 s1 s2 : Tok} {tail : List (Addr × Obj)} {b₀ k : Int} {tk t₀ u₀ v₀ t1 t2 t3 : Tok} {m₀ : Str → Option Value} (T : List (Option Str))
    (hh : A.handled = none) (hr : IsRange s.heap r 0 b₀ 1 t₀ u₀ v₀) (hb : 0 ≤ b₀) (hb1 : b₀ < 7) (F : Fr h₀ env.locals s.heap m₀) (N : News h₀ env.locals s.heap ((d1, o1) :: (da, (arO a0 a1 a2 s0 s1 s2)) :: (d3, o3) :: (d4, o4) :: (tx, oT) :: (u, urnO k tk sl 0) :: (gl, oG) :: (mt, oM) :: (sl, oS) :: (ce, oC) :: tail))
    (hk : ∀ p ∈ pPs u gl mt tx da ⟨k, tk, Str.ofString "", t1, Str.ofString "", t2, Str.ofString "", t3⟩, m₀ p.1 = some p.2) (k0 : 0 ≤ k) (k1 : k ≤ 30) (hu : AllNe u ((tx, oT) :: (da, (arO a0 a1 a2 s0 s1 s2)) :: (gl, oG) :: (mt, oM) :: (sl, oS) :: (ce, oC) :: tail))
    (turn : ∀ (i : Nat) (c : PS) (I : Addr) (it : Obj) t (u' : Str → Option Value) h tk (KQ : Flow → Shared → Prop), i < 6 → PInv T a0 a1 a2 i c → (∀ c', ∀ p ∈ pLed u tx da gl mt sl ce oT (arO a0 a1 a2 s0 s1 s2) oG oM oS oC tail c', p.1 ≠ I) → Off I u → Off tx u → Off da u → Off gl u → Off mt u → Off sl u → Off ce u → AllNe u tail → Fr h₀ env.locals h (fun y => if y = x then some (.int (i : Int) t) else kstB u' (pPs u gl mt tx da c) y) → News h₀ env.locals h ((I, it) :: pLed u tx da gl mt sl ce oT (arO a0 a1 a2 s0 s1 s2) oG oM oS oC tail c) →
      (∀ s₂, REnd h₀ env.locals s I it (pLed u tx da gl mt sl ce oT (arO a0 a1 a2 s0 s1 s2) oG oM oS oC tail) (pPs u gl mt tx da) (PInv T a0 a1 a2) i s₂ → KQ .next s₂) → wpAny (model prog w) A (execs body env) KQ E { s with heap := h, toks := tk })
    (done : ∀ (i : Nat) (c : PS) (u' : Str → Option Value) h tk, i ≤ 6 → PInv T a0 a1 a2 i c → Fr h₀ env.locals h (kstB u' (pPs u gl mt tx da c)) → News h₀ env.locals h (pLed u tx da gl mt sl ce oT (arO a0 a1 a2 s0 s1 s2) oG oM oS oC tail c) → Q .next { s with heap := h, toks := tk }) :
    wpAny (model prog w) A (pyIter (.ref r)) (fun it s₂ => LoopAtV prog w A h₀ env x body Q E it s₂) E s := by
  refine my_range (n := b₀.toNat) (pLed u tx da gl mt sl ce oT (arO a0 a1 a2 s0 s1 s2) oG oM oS oC tail) (pPs u gl mt tx da) (PInv T a0 a1 a2) ⟨k, tk, Str.ofString "", t1, Str.ofString "", t2, Str.ofString "", t3⟩ hh hr (by omega) (by omega) F N ?_ hk ?_ ?_ ?_
  · intro p hp
    simp only [List.mem_cons] at hp ⊢
    rcases hp with rfl | rfl | rfl | rfl | rfl | rfl | rfl | hp <;> simp [*]
  · refine ⟨k0, by show k ≤ _; omega, ?_, ?_, ?_, [], ?_, ?_, ?_, ?_⟩
    · show (Str.ofString "").length ≤ _; rw [empty_len]; omega
    · show (Str.ofString "").length ≤ _; rw [empty_len]; omega
    · show (Str.ofString "").length ≤ _; rw [empty_len]; omega
    · intro p hp; cases hp
    · exact empty_cps
    · exact empty_cps
    · exact empty_cps
  · intro i c I it t u' h tk KQ hi hp off F9 N9 hKQ
    refine turn i c I it t u' h tk KQ (by omega) hp ?_ ⟨fun e => off _ (.head _) e.symm⟩ ⟨hu.1⟩ ⟨hu.2.1⟩ ⟨hu.2.2.1⟩ ⟨hu.2.2.2.1⟩ ⟨hu.2.2.2.2.1⟩ ⟨hu.2.2.2.2.2.1⟩ hu.2.2.2.2.2.2 F9 N9 hKQ
    intro c' p hp
    rcases List.mem_cons.mp hp with rfl | hp
    · exact off (u, urnO c.k c.tk sl 0) (.head _)
    · exact off p (.tail _ hp)
  · intro c u' h tk hp F9 N9
    exact done _ c u' h tk (by omega) hp F9 N9
end
theorem slice_len {x : Str} {i j : Int} (h0 : 0 ≤ i) (h1 : i ≤ j) : (Txt.slice x (some i) (some j)).length ≤ x.length := by
  have e : (Txt.slice x (some i) (some j)).length = (Txt.slice x (some i) (some j)).cps.toList.length := by simp [Str.length]
  have e2 : x.cps.toList.length = x.length := by simp [Str.length]
  rw [e, slice_list h0 h1, List.length_take, List.length_drop]; omega
theorem slice_len0 {x : Str} {j : Int} (h1 : 0 ≤ j) : (Txt.slice x none (some j)).length ≤ x.length := by
  have e : (Txt.slice x none (some j)).length = (Txt.slice x none (some j)).cps.toList.length := by simp [Str.length]
  have e2 : x.cps.toList.length = x.length := by simp [Str.length]
  rw [e, slice_to_list h1, List.length_take]; omega
theorem slice_len1 {x : Str} {j : Int} (h1 : 0 ≤ j) : (Txt.slice x (some j) none).length ≤ x.length := by
  have e : (Txt.slice x (some j) none).length = (Txt.slice x (some j) none).cps.toList.length := by simp [Str.length]
  have e2 : x.cps.toList.length = x.length := by simp [Str.length]
  rw [e, slice_from_list h1, List.length_drop]; omega
theorem grp_len {T : List (Option Str)} (h : ∀ x, some x ∈ T → x.length ≤ 20) (i : Int) : (grpS T i).length ≤ 20 := by
  unfold grpS
  rcases hq : T.getD (i - 1).toNat none with _ | x
  · show (Str.ofString "").length ≤ 20
    rw [empty_len]; omega
  · show x.length ≤ 20
    by_cases hl : (i - 1).toNat < T.length
    · refine h x ?_
      rw [List.getD_eq_getElem?_getD, List.getElem?_eq_getElem hl, Option.getD_some] at hq
      rw [← hq]; exact List.getElem_mem hl
    · rw [List.getD_eq_getElem?_getD, List.getElem?_eq_none (by omega)] at hq
      cases hq
theorem piece_callB {w : World} {loose : List Str} {mean : ExcName → Option Value} {mg mb : Str → Option Value} {dp un : Nat} {gd : Option (List Code)} {cn : Str} {cs : Scope} {a : Addr} {ccd : Value} {cl : List (Str × Addr)} {outer : List Env} {A₀ : Around} {base h₀ : Heap} {L : Addr} {m : Str → Option Value} {s : Shared} {Q E : Value → Shared → Prop}
    {u sl tl ar : Addr} {k : Int} {tk t0 t1 t2 : Tok} {vs tvs : List Value} {ns : List Int} {TT : List (Option Str)} {a0 a1 a2 : Str} {n : Nat} {news : List (Addr × Obj)} {news' : Tok → List (Addr × Obj)}
    (B : Below A₀ base outer h₀) (F : Fr h₀ L s.heap m) (X : (Mine.hd.heap_1 w.params).In h₀) (N : News h₀ L s.heap news) (T : Top Mine.view loose mean mg mb h₀) (hk : cs.kind = .function)
    (U : ∀ t', Upd u (urnO k tk sl n) (urnO (k + 1 + 1) t' sl n) news (news' t')) (hl : s.heap.IsList sl vs.toArray) (hne : sl ≠ u)
    (hi : IntsAre vs ns) (hsz : ns.length ≤ 40) (k0 : 0 ≤ k) (k1 : k ≤ 998) 
    (hT : OptVs tvs TT) (hTl : s.heap.IsList tl tvs.toArray) (hTne : tl ≠ u) (hT14 : TT.length ≤ 14) (hTs : ∀ i, (grpS TT i).length ≤ 20) (hA : IsTup s.heap ar #[.str a0 t0, .str a1 t1, .str a2 t2]) (hAne : ar ≠ u)
    (ha0 : a0.length ≤ 20) (ha1 : a1.length ≤ 20) (ha2 : a2.length ≤ 20) (hd : dp + 2 < recursionLimit) (hun : un + 16 < cLine)
    (ret : ∀ told meant t1 t2 ad t' h' tk', told = toldS (drawF ns k 9) (drawF ns (k + 1) 20) → meant = meantS TT a0 a1 a2 (drawF ns k 9) (drawF ns (k + 1) 20) → told.length ≤ 4 → meant.length ≤ 22 → Fr h₀ L h' m → News h₀ L h' ((ad, ({ cls := .type "tuple", data := .seq #[.str told t1, .str meant t2] 0 } : Obj)) :: news' t') → (∀ p ∈ news' t', p.1 ≠ ad) → Q (.ref ad) {s with heap := h', toks := tk'}) :
    wpAny (model PySem.Challenge.rw_pc0066_01.row.prog w) (ktrTop dp un gd cn cs L a ccd cl outer) (call (.ref 89) [.ref u, .ref tl, .ref ar]) Q E s := by
  have f0 := drawF_lo ns k 9 (by omega)
  have f1 := drawF_hi ns k 9 (by omega)
  have n0 := drawF_lo ns (k + 1) 20 (by omega)
  have n1 := drawF_hi ns (k + 1) 20 (by omega)
  exact piece_call B F X N T hk U hl hne hi hsz k0 k1 hT hTl hTne hT14 hTs hA hAne hd hun (fun told meant t1 t2 ad t' h' tk' h1 h2 => ret told meant t1 t2 ad t' h' tk' h1 h2 (by rw [h1]; exact told_len f0 f1 n0 n1) (by rw [h2]; exact meant_len f0 f1 n0 n1 ha0 ha1 ha2 hTs))
theorem all_lt {D : Addr} {news tail : List (Addr × Obj)} (l : ∀ p ∈ news, p.1 < D) (sub : ∀ p ∈ tail, p ∈ news) : ∀ p ∈ tail, p.1 ≠ D := fun p hp => Nat.ne_of_lt (l p (sub p hp))
end
local macro_rules | `(tactic| walk_at "my pad22") => `(tactic| skip)
section
section
variable {A B C : List Nat} {T : List (Option Str)}
theorem fg_plain {c : Nat} {r : List Nat} (h : c ≠ 36) : fgL A B C T (c :: r) = c :: fgL A B C T r := by
  rw [fgL_cons]; unfold stepL; rw [if_neg h]; rfl
theorem fg_plains {l r : List Nat} (h : ∀ c ∈ l, c ≠ 36) : fgL A B C T (l ++ r) = l ++ fgL A B C T r := by
  induction l with
  | nil => rfl
  | cons c l ih => rw [List.cons_append, fg_plain (h c (.head _)), ih fun d hd => h d (.tail _ hd)]; rfl
theorem fg_two {c : Nat} {r X : List Nat} (h : c = 36 ∧ X = [36] ∨ c = 38 ∧ X = A ∨ c = 96 ∧ X = B ∨ c = 39 ∧ X = C) : fgL A B C T (36 :: c :: r) = X ++ fgL A B C T r := by
  rw [fgL_cons]; unfold stepL
  rcases h with ⟨rfl, rfl⟩ | ⟨rfl, rfl⟩ | ⟨rfl, rfl⟩ | ⟨rfl, rfl⟩ <;> simp
theorem fg_none {c : Nat} {o : Option Nat} {r : List Nat} (hr : r[0]? = o) (h1 : c ≠ 36) (h2 : c ≠ 38) (h3 : c ≠ 96) (h4 : c ≠ 39) (h : toldN (some c) o T.length = (0, 0)) : fgL A B C T (36 :: c :: r) = 36 :: c :: fgL A B C T r := by
  rw [fgL_cons]
  have e0 : (c :: r)[0]? = some c := rfl
  have e1 : (c :: r)[1]? = o := by rw [← hr]; rfl
  rw [e0, e1]
  unfold stepL
  rw [if_pos rfl, if_neg (by simpa using h1), if_neg (by simpa using h2), if_neg (by simpa using h3), if_neg (by simpa using h4), h, if_neg (by decide)]
  show [36] ++ fgL A B C T (c :: r) = _
  rw [fg_plain h1]; rfl
theorem fg_one {c n : Nat} {o : Option Nat} {r : List Nat} (hr : r[0]? = o) (h1 : c ≠ 36) (h2 : c ≠ 38) (h3 : c ≠ 96) (h4 : c ≠ 39) (h : toldN (some c) o T.length = ((n : Int), 1)) : fgL A B C T (36 :: c :: r) = (grpS T n).cps.toList ++ fgL A B C T r := by
  rw [fgL_cons]
  have e0 : (c :: r)[0]? = some c := rfl
  have e1 : (c :: r)[1]? = o := by rw [← hr]; rfl
  rw [e0, e1]
  unfold stepL
  rw [if_pos rfl, if_neg (by simpa using h1), if_neg (by simpa using h2), if_neg (by simpa using h3), if_neg (by simpa using h4), h, if_pos (by dsimp only; omega)]
  rfl
theorem fg_both {c d n : Nat} {r : List Nat} (h1 : c ≠ 36) (h2 : c ≠ 38) (h3 : c ≠ 96) (h4 : c ≠ 39) (h : toldN (some c) (some d) T.length = ((n : Int), 2)) : fgL A B C T (36 :: c :: d :: r) = (grpS T n).cps.toList ++ fgL A B C T r := by
  rw [fgL_cons]
  have e0 : (c :: d :: r)[0]? = some c := rfl
  have e1 : (c :: d :: r)[1]? = some d := rfl
  rw [e0, e1]
  unfold stepL
  rw [if_pos rfl, if_neg (by simpa using h1), if_neg (by simpa using h2), if_neg (by simpa using h3), if_neg (by simpa using h4), h, if_pos (by dsimp only; omega)]
  rfl
end
theorem cps_00 : (Str.ofString "$$").cps.toList = [36, 36] := by decide +kernel
theorem cps_01 : (Str.ofString "$&").cps.toList = [36, 38] := by decide +kernel
theorem cps_02 : (Str.ofString "$`").cps.toList = [36, 96] := by decide +kernel
theorem cps_03 : (Str.ofString "$'").cps.toList = [36, 39] := by decide +kernel
theorem app_cps (a b : Str) : (a ++ b).cps.toList = a.cps.toList ++ b.cps.toList := by rw [Str.cps_append, Array.toList_append]
theorem letters : ∀ i : Fin 4, (Txt.item (Str.ofString "axZ(") (i.val : Int)).cps.toList ∈ [[97], [120], [90], [40]] := by decide +kernel
theorem plains : ∀ i : Fin 4, ∀ c ∈ (Txt.slice (Str.ofString "pq\\") none (some (i.val : Int))).cps.toList, c ≠ 36 := by decide +kernel
theorem fin4 {P : Int → Prop} {x : Int} (h0 : 0 ≤ x) (h1 : x < 4) (h : ∀ i : Fin 4, P (i.val : Int)) : P x := by
  have := h ⟨x.toNat, by omega⟩
  have e : (x.toNat : Int) = x := by omega
  simp only [e] at this; exact this
/-- a sign that begins nothing -/
structure Sg (n : Nat) : Prop where
  a : n ≠ 36
  b : n ≠ 38
  c : n ≠ 96
  d : n ≠ 39
theorem sg_of {n : Nat} (h : n < 10) : Sg (48 + n) := ⟨by omega, by omega, by omega, by omega⟩
theorem fg_told {T : List (Option Str)} {a0 a1 a2 : Str} {f nb : Int} (f0 : 0 ≤ f) (f1 : f < 9) (n0 : 0 ≤ nb) (n1 : nb < 20) (r : List Nat) :
    fgL a0.cps.toList a1.cps.toList a2.cps.toList T ((toldS f nb).cps.toList ++ 45 :: r) = (meantS T a0 a1 a2 f nb).cps.toList ++ fgL a0.cps.toList a1.cps.toList a2.cps.toList T (45 :: r) := by
  have u0 : 0 ≤ nb.fmod 10 := Int.fmod_nonneg_of_pos _ (by omega)
  have u1 : nb.fmod 10 < 10 := Int.fmod_lt_of_pos _ (by omega)
  have q0 : 0 ≤ nb.fmod 4 := Int.fmod_nonneg_of_pos _ (by omega)
  have q1 : nb.fmod 4 < 4 := Int.fmod_lt_of_pos _ (by omega)
  have ud : nb.fdiv 10 * 10 + nb.fmod 10 = nb := by have := Int.mul_fdiv_add_fmod nb 10; omega
  have du := dg_cps u0 u1
  have dd := dg_cps (x := nb.fdiv 10) (by omega) (by omega)
  have hc : ∀ n : Nat, n < 10 → Sg (48 + n) := fun n h => sg_of h
  by_cases g0 : f = 0
  · rw [told_0 g0, meant_0 g0, cps_00, dollar_cps]; exact fg_two (.inl ⟨rfl, rfl⟩)
  by_cases g1 : f = 1
  · rw [told_1 g1, meant_1 g1, cps_01]; exact fg_two (.inr (.inl ⟨rfl, rfl⟩))
  by_cases g2 : f = 2
  · subst g2; rw [told_2 rfl, cps_02]; exact fg_two (.inr (.inr (.inl ⟨rfl, rfl⟩)))
  by_cases g3 : f = 3
  · subst g3; rw [told_3 rfl, cps_03]; exact fg_two (.inr (.inr (.inr ⟨rfl, rfl⟩)))
  by_cases g4 : f = 4
  · subst g4
    have cc := hc (nb.fmod 10).toNat (by omega)
    have et : (toldS 4 nb).cps.toList = [36, 48 + (nb.fmod 10).toNat] := by
      show (Str.ofString "$" ++ dg (nb.fmod 10)).cps.toList = _
      rw [app_cps, dollar_cps, du]; rfl
    have em : meantS T a0 a1 a2 4 nb = (if 1 ≤ nb.fmod 10 ∧ nb.fmod 10 ≤ T.length then grpS T (nb.fmod 10) else toldS 4 nb) := rfl
    rw [em, et]
    by_cases hg : 1 ≤ nb.fmod 10 ∧ nb.fmod 10 ≤ T.length
    · rw [if_pos hg]
      have := fg_one (A := a0.cps.toList) (B := a1.cps.toList) (C := a2.cps.toList) (T := T) (c := 48 + (nb.fmod 10).toNat) (n := (nb.fmod 10).toNat) (o := some 45) (r := 45 :: r) rfl cc.a cc.b cc.c cc.d (by
        unfold toldN; dsimp only
        rw [if_pos (by omega), if_neg (by omega), if_pos (by omega)]
        congr 1; omega)
      rw [show (((nb.fmod 10).toNat : Nat) : Int) = nb.fmod 10 by omega] at this
      exact this
    · rw [if_neg hg, et]
      exact fg_none (o := some 45) rfl cc.a cc.b cc.c cc.d (by
        unfold toldN; dsimp only
        rw [if_pos (by omega), if_neg (by omega), if_neg (by omega)])
  by_cases g5 : f = 5
  · subst g5
    have cc := hc (nb.fdiv 10).toNat (by omega)
    have bb := hc (nb.fmod 10).toNat (by omega)
    have et : (toldS 5 nb).cps.toList = [36, 48 + (nb.fdiv 10).toNat, 48 + (nb.fmod 10).toNat] := by
      show (Str.ofString "$" ++ dg (nb.fdiv 10) ++ dg (nb.fmod 10)).cps.toList = _
      rw [app_cps, app_cps, dollar_cps, du, dd]; rfl
    have em : meantS T a0 a1 a2 5 nb = (if 1 ≤ nb ∧ nb ≤ T.length then grpS T nb else if 1 ≤ nb.fdiv 10 ∧ nb.fdiv 10 ≤ T.length then grpS T (nb.fdiv 10) ++ dg (nb.fmod 10) else toldS 5 nb) := rfl
    rw [em, et]
    by_cases hg : 1 ≤ nb ∧ nb ≤ T.length
    · rw [if_pos hg]
      have := fg_both (A := a0.cps.toList) (B := a1.cps.toList) (C := a2.cps.toList) (T := T) (c := 48 + (nb.fdiv 10).toNat) (d := 48 + (nb.fmod 10).toNat) (n := nb.toNat) (r := 45 :: r) cc.a cc.b cc.c cc.d (by
        unfold toldN; dsimp only
        rw [if_pos (by omega), if_pos (by omega)]
        congr 1; omega)
      rw [show ((nb.toNat : Nat) : Int) = nb by omega] at this
      exact this
    · rw [if_neg hg]
      by_cases hh : 1 ≤ nb.fdiv 10 ∧ nb.fdiv 10 ≤ T.length
      · rw [if_pos hh, app_cps, du]
        have := fg_one (A := a0.cps.toList) (B := a1.cps.toList) (C := a2.cps.toList) (T := T) (c := 48 + (nb.fdiv 10).toNat) (n := (nb.fdiv 10).toNat) (o := some (48 + (nb.fmod 10).toNat)) (r := (48 + (nb.fmod 10).toNat) :: 45 :: r) rfl cc.a cc.b cc.c cc.d (by
          unfold toldN; dsimp only
          rw [if_pos (by omega), if_neg (by omega), if_pos (by omega)]
          congr 1; omega)
        rw [show (((nb.fdiv 10).toNat : Nat) : Int) = nb.fdiv 10 by omega, fg_plain bb.a] at this
        rw [List.append_assoc]; exact this
      · rw [if_neg hh, et]
        have := fg_none (A := a0.cps.toList) (B := a1.cps.toList) (C := a2.cps.toList) (T := T) (c := 48 + (nb.fdiv 10).toNat) (o := some (48 + (nb.fmod 10).toNat)) (r := (48 + (nb.fmod 10).toNat) :: 45 :: r) rfl cc.a cc.b cc.c cc.d (by
          unfold toldN; dsimp only
          rw [if_pos (by omega), if_neg (by omega), if_neg (by omega)])
        rw [fg_plain bb.a] at this
        exact this
  have em : meantS T a0 a1 a2 f nb = toldS f nb := by
    unfold meantS
    rw [if_neg g0, if_neg g1, if_neg g2, if_neg g3, if_neg g4, if_neg g5]
  rw [em]
  by_cases g6 : f = 6
  · have el := fin4 (P := fun x => (Txt.item (Str.ofString "axZ(") x).cps.toList ∈ [[97], [120], [90], [40]]) q0 q1 letters
    rw [told_6 g6, app_cps, dollar_cps]
    simp only [List.mem_cons, List.not_mem_nil, or_false] at el
    rcases el with e | e | e | e
    all_goals rw [e]
    all_goals exact fg_none (o := some 45) rfl (by decide) (by decide) (by decide) (by decide) rfl
  · have el := fin4 (P := fun x => ∀ c ∈ (Txt.slice (Str.ofString "pq\\") none (some x)).cps.toList, c ≠ 36) q0 q1 plains
    rw [told_7 (by omega) g4 g5 g6]
    exact fg_plains el
/-- the law of the filling, on drawn pieces -/
theorem fg_law {T : List (Option Str)} {a0 a1 a2 : Str} {Ps : List (Int × Int)} (h : ∀ p ∈ Ps, 0 ≤ p.1 ∧ p.1 < 9 ∧ 0 ≤ p.2 ∧ p.2 < 20) :
    fgL a0.cps.toList a1.cps.toList a2.cps.toList T (Ps.flatMap (fun p => (toldS p.1 p.2).cps.toList ++ [45]) ++ [36]) = Ps.flatMap (fun p => (meantS T a0 a1 a2 p.1 p.2).cps.toList ++ [45]) ++ [36] := by
  induction Ps with
  | nil =>
    show fgL _ _ _ T [36] = [36]
    rw [fgL_cons]; simp [stepL, toldN, fgL_nil]
  | cons p Ps ih =>
    obtain ⟨h0, h1, h2, h3⟩ := h p (.head _)
    have ih := ih fun q hq => h q (.tail _ hq)
    rw [List.flatMap_cons, List.flatMap_cons]
    simp only [List.append_assoc]
    rw [show ([45] ++ (Ps.flatMap (fun p => (toldS p.1 p.2).cps.toList ++ [45]) ++ [36]) : List Nat) = 45 :: (Ps.flatMap (fun p => (toldS p.1 p.2).cps.toList ++ [45]) ++ [36]) from rfl]
    rw [fg_told h0 h1 h2 h3, fg_plain (by decide), ih]
    rfl
theorem fg_due {T : List (Option Str)} {a0 a1 a2 tp du : Str} {x y : Str} {Ps : List (Int × Int)} (h : ∀ p ∈ Ps, 0 ≤ p.1 ∧ p.1 < 9 ∧ 0 ≤ p.2 ∧ p.2 < 20)
    (p1 : tp.cps.toList = Ps.flatMap (fun p => (toldS p.1 p.2).cps.toList ++ [45])) (p2 : du.cps.toList = Ps.flatMap (fun p => (meantS T a0 a1 a2 p.1 p.2).cps.toList ++ [45]))
    (hx : x.cps.toList = fgL a0.cps.toList a1.cps.toList a2.cps.toList T (tp ++ Str.ofString "$").cps.toList) (hy : y = du ++ Str.ofString "$") : x.cps.toList = y.cps.toList := by
  rw [hx, hy, app_cps, app_cps, dollar_cps, p1, p2, fg_law h]
theorem spans_of {h₀ h : Heap} {L : Addr} {tail news : List (Addr × Obj)} {gvs : List Value} {G : List (Option (Int × Int))} (sem : ∀ h : Heap, (∀ p ∈ tail, h.get? p.1 = some p.2) → SpanVs h gvs G) (N : News h₀ L h news) (sub : ∀ p ∈ tail, p ∈ news) : SpanVs h gvs G := sem h fun p hp => (N p (sub p hp)).1
end
local macro_rules | `(tactic| walk_at "my pad23") => `(tactic| skip)
section
local macro_rules | `(tactic| k_qdec) => `(tactic| decide +kernel)
local macro_rules | `(tactic| walk_at "pyIter ref") => `(tactic| refine stop_here ?_)
local macro_rules | `(tactic| walk_at "my tl") => `(tactic| first | assumption | (refine List.mem_cons_of_mem _ ?_; walk_at "my tl"))
local macro_rules | `(tactic| walk_at "my led") => `(tactic| first | (intro p hp; walk_at "my tl") | (refine List.forall_mem_cons.mpr ⟨by k_mem, ?_⟩; walk_at "my led"))
local macro_rules | `(tactic| walk_at "my offI") => `(tactic| first | assumption | exact trivial | (refine And.intro (by k_ne) ?_; walk_at "my offI"))
local macro_rules | `(tactic| walk_at "exec Assign cons ListComp") => `(tactic| refine stop_here ?_)
local macro_rules | `(tactic| walk_at "newTuple") => `(tactic| (k_here; k_dflt (refine' kup_newTuple ?F ?N ?_ ?z; (case F => k_asm); (case N => k_asm); (case z => kmk_size)); intro D' h' F' N' l1; (first | k_lt l1 | (replace l1 := allLt_of l1; simp only [AllLt, and_true] at l1)); (try k_sweep)))
local macro_rules | `(tactic| walk_at "my spansL") => `(tactic| (intro h hh; exact (by assumption : ∀ h : Heap, (∀ p ∈ _, h.get? p.1 = some p.2) → SpanVs h _ _) h (fun p hp => hh p (by walk_at "my tl"))))
local macro_rules | `(tactic| walk_at "compareOp NotEq ref ref") => `(tactic| (k_here; (with_reducible show wpAny _ _ (compareOp CmpOp.NotEq (Value.ref _) (Value.ref _)) _ _ _); k_dflt (refine' ne_texts ?k1 ?k2 ?k3 ?k4 ?k5 ?k6 ?k7 ?_; (case k1 => k_asm); (case k2 => k_mem); (case k3 => k_mem); (case k4 => with_reducible assumption); (case k5 => with_reducible assumption); (case k6 => with_reducible assumption); (case k7 => ke_room); k_whole)))
local macro_rules | `(tactic| walk_at "call ref") => `(tactic| ((with_reducible show wpAny _ _ (call (Value.ref 89) _ _) _ _ _); refine stop_here ?_))
local macro_rules | `(tactic| walk_at "call ref") => `(tactic| (k_here; (with_reducible show wpAny _ _ (call (Value.ref 89) _ _) _ _ _); k_dflt (refine' piece_callB ?kB ?kF ?kX ?kN ?kT ?khk ?kU ?khl ?khne ?khi ?khsz ?kk0 ?kk1 ?khT ?khTl ?khTne ?khT14 ?khTs ?khA ?khAne ?kl0 ?kl1 ?kl2 ?khd ?khun ?_; (case kB => k_asm); (case kF => k_asm); (case kX => k_asm); (case kN => k_asm); (case kT => k_asm); (case khk => first | exact rfl | assumption); (case kU => (intro t'; k_upd)); (case khl => walk_at "my list"); (case khi => assumption); (case khne => walk_at "my ne"); (case khsz => first | assumption | omega); (case kk0 => omega); (case kk1 => omega); (case khTl => walk_at "my list"); (case khT => walk_at "my texts"); (case khTne => walk_at "my ne"); (case khT14 => first | omega | decide); (case khTs => walk_at "my sizes"); (case khA => walk_at "my tup"); (case khAne => walk_at "my ne"); (case kl0 => first | assumption | omega); (case kl1 => first | assumption | omega); (case kl2 => first | assumption | omega); (case khd => ktr_room); (case khun => ktr_units); k_whole); intro told' meant' t' t' ad' t' h' tk' htold hmeant ltold lmeant F' N' l1; (have lo := Off.mk (l1 _ (List.mem_cons_self ..))); (try k_sweep)))
local macro_rules | `(tactic| walk_at "my ne") => `(tactic| first | assumption | k_ne)
local macro_rules | `(tactic| walk_at "my texts") => `(tactic| first | assumption | exact OptVs.nil)
local macro_rules | `(tactic| walk_at "my sizes") => `(tactic| assumption)
local macro_rules | `(tactic| walk_at "my spans") => `(tactic| first | exact SpanVs.nil | (refine' spans_of ?k1 ?k2 ?k3; (case k1 => with_reducible assumption); (case k2 => k_asm); (case k3 => (intro p hp; walk_at "my tl"))))
local macro_rules | `(tactic| walk_at "newList") => `(tactic| (k_here; k_dflt (refine' newList_K ?k1 ?k2 ?_; (case k1 => k_asm); (case k2 => k_asm); k_whole); intro l' h' F' N' l1; (have lr := l1); k_lt l1; (try k_sweep)))
local macro_rules | `(tactic| k_ne) => `(tactic| first | (refine Off.ne ?_; with_reducible assumption) | (refine Ne.symm (Off.ne ?_); with_reducible assumption))
local macro_rules | `(tactic| k_all) => `(tactic| first | exact List.forall_mem_nil _ | (refine' List.forall_mem_cons.mpr ⟨?a, ?b⟩; (case a => k_ne); (case b => k_all)) | (refine AllNe.all ?_; with_reducible assumption) | (refine all_lt ?ka ?kb; (case ka => with_reducible assumption); (case kb => (intro p hp; walk_at "my tl"))))
local macro_rules | `(tactic| walk_at "subscriptTail Name Constant ref int") => `(tactic| (k_here; (with_reducible show wpAny _ _ (subscriptTail _ _ (Value.ref _) (Value.int _ _)) _ _ _); (with_unfolding_all refine' item_tupleT ?k1 ?k2 ?k3 ?k4 ?k5 ?_ ?k6; (case k1 => exact News.isTup (by k_asm) (by k_mem)); (case k2 => decide); (case k3 => decide); (case k4 => rfl); (case k5 => rfl); (case k6 => with_unfolding_all rfl); k_whole)))
local macro_rules | `(tactic| walk_at "subscriptTail Name Constant ref int") => `(tactic| (k_here; (with_reducible show wpAny _ _ (subscriptTail _ _ (Value.ref _) (Value.int _ _)) _ _ _); (with_unfolding_all refine' list_item ?k1 ?k2 ?k3 ?k4 ?_ ?k6; (case k1 => exact News.isList (by k_asm) (by k_mem)); (case k2 => decide); (case k3 => decide); (case k4 => exact rfl); (case k6 => with_unfolding_all rfl); k_whole)))
local macro_rules | `(tactic| walk_at "subscriptTail Call Constant ref int") => `(tactic| (k_here; (with_reducible show wpAny _ _ (subscriptTail _ _ (Value.ref _) (Value.int _ _)) _ _ _); (with_unfolding_all refine' item_tupleT ?k1 ?k2 ?k3 ?k4 ?k5 ?_ ?k6; (case k1 => exact News.isTup (by k_asm) (by k_mem)); (case k2 => decide); (case k3 => decide); (case k4 => rfl); (case k5 => rfl); (case k6 => with_unfolding_all rfl); k_whole)))
local macro_rules | `(tactic| walk_at "my rightN") => `(tactic| exact news_sub (by k_asm) (two_in (by k_mem) (by k_mem)))
local macro_rules | `(tactic| walk_at "call ref") => `(tactic| (k_here; (with_reducible show wpAny _ _ (call (Value.ref 61) _ _) _ _ _); k_dflt (refine' fillin_call ?kB ?kF ?kX ?kN ?kT ?khk ?khb ?khbe ?khee ?khtxt ?khtpl ?khd ?khun ?_; (case kB => k_asm); (case kF => k_asm); (case kX => k_asm); (case kN => k_asm); (case kT => k_asm); (case khk => first | exact rfl | assumption); (case khb => omega); (case khbe => omega); (case khee => omega); (case khtxt => omega); (case khtpl => omega); (case khd => ktr_room); (case khun => ktr_units); k_whole); intro r' t' h' tk' hr' F' N'; (try k_sweep)))
local macro_rules | `(tactic| walk_at "compareOp NotEq str str") => `(tactic| refine stop_here ?_)
set_option maxRecDepth 100000 in
set_option maxHeartbeats 8000000 in
theorem lawx : PySem.Challenge.rw_pc0066_01.Holds := by
  w_top off
  refine hd ?_
  k_go0
  (all_goals try k_fold)
  (with_reducible rename List Int => ns0)
  have hsz40 : (List.take 40 ns0).length ≤ 40 := List.length_take_le ..
  have d1a := drawF_lo (List.take 40 ns0) 0 12 (by omega)
  have d1b := drawF_hi (List.take 40 ns0) 0 12 (by omega)
  have tl := len_alpha (drawF (List.take 40 ns0) 0 12) d1a (by omega)
  have tok : PyData.strOk (Txt.slice (Str.ofString "abcdefghijk") none (some (drawF (List.take 40 ns0) 0 12))) = true := slice_ok0 (by decide +kernel) d1a
  have tx11 : (Txt.slice (Str.ofString "abcdefghijk") none (some (drawF (List.take 40 ns0) 0 12))).length ≤ 11 := by omega
  have d3a := drawF_lo (List.take 40 ns0) (0 + 1 + 1 + 1) 15 (by omega)
  have d3b := drawF_hi (List.take 40 ns0) (0 + 1 + 1 + 1) 15 (by omega)
  k_steps
  refine Stop.mk ?_
  (with_reducible rename IsRange _ _ _ _ _ _ _ _ => Rz)
  (with_reducible rename Fr _ _ _ _ => Fz)
  (with_reducible rename News _ _ _ _ => Nz)
  generalize Txt.slice (Str.ofString "abcdefghijk") none (some (drawF (List.take 40 ns0) 0 12)) = txt at *
  clear tl d1a d1b
  try ((with_reducible rename (List.take 40 _).length = _ => zl); clear zl)
  refine groups_loop (by rfl) Rz (by omega) (by omega) Fz Nz rfl rfl rfl (by omega) (by omega) ?turn ?done
  case turn =>
    clear Rz Fz Nz
    rintro i ⟨k, tk1, gvs, n, G, tail⟩ I it t u' h tk KQ hi hI off F9 N9 hKQ
    simp only [AllNe] at off
    obtain ⟨f1, f2, f3, f4, f5, f6⟩ := off
    dsimp only [gLed] at N9
    have k0 := hI.k0
    have k1 := hI.k1
    have vlen := hI.vlen
    have offu := hI.offu
    have offg := hI.offg
    dsimp only at k0 k1 vlen offu offg
    have e4a := drawF_lo (List.take 40 ns0) k 4 (by omega)
    have e4b := drawF_hi (List.take 40 ns0) k 4 (by omega)
    have fm : (i : Int).fmod ((txt.length : Int) + 1) = (i : Int) % ((txt.length : Int) + 1) := Int.fmod_eq_emod_of_nonneg _ (by omega)
    have fm0 : 0 ≤ (i : Int).fmod ((txt.length : Int) + 1) := Int.fmod_nonneg_of_pos _ (by omega)
    have fm1 : (i : Int).fmod ((txt.length : Int) + 1) < (txt.length : Int) + 1 := Int.fmod_lt_of_pos _ (by omega)
    k_steps
    · (with_reducible rename Fr _ _ _ _ => Fy)
      (with_reducible rename News _ _ _ _ => Ny)
      simp only [List.push_toArray] at Ny
      refine hKQ _ (rend ⟨k + 1, _, gvs ++ [.none], n + 1, G ++ [none], tail⟩ Fy Ny (by k_mem) (by dsimp only [gLed]; walk_at "my led") (AllNe.all (by dsimp only [gLed]; walk_at "my offI")) (all3 rfl rfl rfl) (gstep_none hI))
    · (with_reducible rename Fr _ _ _ _ => Fy)
      (with_reducible rename News _ _ _ _ => Ny)
      simp only [List.push_toArray] at Ny
      refine hKQ _ (rend ⟨k + 1, _, gvs ++ [.ref _], n + 1, G ++ [some (_, _)], (_, _) :: tail⟩ Fy Ny (by k_mem) (by dsimp only [gLed]; walk_at "my led") (AllNe.all (by dsimp only [gLed]; walk_at "my offI")) (all3 rfl rfl rfl) (gstep_tup hI (by k_ne) (by k_ne) (by omega) (by split <;> omega) (by split <;> omega)))
  case done =>
    clear Rz Fz Nz
    rintro i ⟨k, tk1, gvs, n, G, tail⟩ u' h tk hi hI F9 N9
    dsimp only [gLed] at N9
    have k0 := hI.k0
    have k1 := hI.k1
    have glen := hI.glen
    have vlen := hI.vlen
    have offu := hI.offu
    have offg := hI.offg
    have sem := hI.sem
    dsimp only at k0 k1 vlen offu offg sem glen
    dsimp only
    k_steps
    refine Stop.mk ?_
    k_dflt (refine LCg.Assign_ListComp_U (F₀ := by k_asm) (by rfl) (by with_unfolding_all rfl) (by with_unfolding_all rfl) (by decide) (by rfl) (by decide) (by rfl) (by rfl) (by rfl) ?_)
    k_steps
    refine LCg.CompSrc.ledger (by rfl) (by k_asm) (by k_asm) (by k_mem) (by rw [sizeLine_eq, List.size_toArray]; omega) ?_
    intro g9
    refine comp_texts G (spanS txt) ?tturn ?tfin
    case tturn =>
      clear F9 N9
      rintro j v ys I oI C oC D m₂ h tk E' hj hv hok hC hx F9 N9 off ne
      have hSp : SpanVs h gvs G := sem h fun p hp => (N9 p (by simp [hp])).1
      have hj2 : j < G.length := by rw [List.size_toArray] at hj; omega
      obtain ⟨v2, hv2, hsv⟩ := hSp.at j hj2
      have ev : v2 = v := by
        have hv3 : gvs[j]? = some v := by simpa using hv
        rw [hv3] at hv2; exact (Option.some.inj hv2).symm
      subst ev
      rw [take_snoc G j none hj2, List.map_append]
      generalize G.getD j none = o at *
      cases hsv with
      | none =>
        k_steps
        (with_reducible rename Fr _ _ _ _ => Fy)
        (with_reducible rename News _ _ _ _ => Ny)
        exact LCg.CompEnd.intro Fy Ny _ (fun p hp => hp) off (Or.inr ⟨_, by k_mem, rfl, _, rfl⟩) ⟨rfl, hok.snoc .none⟩
      | tup ht h0 h1 h2 =>
        k_steps
        (with_reducible rename Fr _ _ _ _ => Fy)
        (with_reducible rename News _ _ _ _ => Ny)
        exact LCg.CompEnd.intro Fy Ny _ (fun p hp => hp) off (Or.inr ⟨_, by k_mem, rfl, _, rfl⟩) ⟨rfl, hok.snoc (.str _ _)⟩
    case tfin =>
      clear F9 N9
      intro ys hys
      intro D h tk F9 N9 off1
      have off2 := allNe_of (off1_all off1)
      simp only [AllNe] at off2
      clear off1
      rw [List.size_toArray, vlen, ← glen, List.take_length] at hys
      have okT : ∀ x, some x ∈ G.map (spanS txt) → PyData.strOk x = true := by
        intro x hx
        obtain ⟨o, ho, e⟩ := List.mem_map.mp hx
        cases o with
        | none => simp [spanS] at e
        | some p =>
          obtain ⟨b, e'⟩ := p
          have := hI.wf b e' ho
          simp only [spanS, Option.map_some, Option.some.injEq] at e
          rw [← e]; exact slice_ok tok this.1 this.2
      have szT : ∀ i, (grpS (G.map (spanS txt)) i).length ≤ 20 := grp_len fun x hx => by
        obtain ⟨o, ho, e⟩ := List.mem_map.mp hx
        have := spanS_le e
        omega
      have szN : ∀ i, (grpS [] i).length ≤ 20 := grp_len fun x hx => nomatch hx
      have lenT : (G.map (spanS txt)).length ≤ 14 := by rw [List.length_map]; omega
      have d7a := drawF_lo (List.take 40 ns0) k 7 (by omega)
      have d7b := drawF_hi (List.take 40 ns0) k 7 (by omega)
      k_steps
      refine Stop.mk ?_
      (with_reducible rename IsRange _ _ _ _ _ _ _ _ => Rz)
      (with_reducible rename Fr _ _ _ _ => Fz)
      (with_reducible rename News _ _ _ _ => Nz)
      refine pieces_loop (G.map (spanS txt)) (by rfl) Rz (by omega) (by omega) Fz Nz (all8 rfl rfl rfl rfl rfl rfl rfl rfl) (by omega) (by omega) (by walk_at "my offI") ?pturn ?pdone
      case pturn =>
        clear Rz Fz Nz off2 okT
        repeat ((with_reducible rename _ ∧ _ => zz); clear zz)
        rintro j ⟨k, tk9, tp, t1, du, t2, ba, t3⟩ I it t u' h tk KQ hj hJ off f1 f2 f3 f4 f5 f6 f7 f8 F9 N9 hKQ
        dsimp only [pLed, arO] at N9
        have k0 := hJ.k0
        have k1 := hJ.k1
        have q1 := hJ.l1
        have q2 := hJ.l2
        have q3 := hJ.l3
        dsimp only at k0 k1 q1 q2 q3
        have e9a := drawF_lo (List.take 40 ns0) k 9 (by omega)
        have e9b := drawF_hi (List.take 40 ns0) k 9 (by omega)
        have e8a := drawF_lo (List.take 40 ns0) (k + 1) 20 (by omega)
        have e8b := drawF_hi (List.take 40 ns0) (k + 1) 20 (by omega)
        k_steps
        (with_reducible rename Fr _ _ _ _ => Fy)
        (with_reducible rename News _ _ _ _ => Ny)
        (with_reducible rename _ = toldS _ _ => t9)
        clear t9
        (with_reducible rename _ = toldS _ _ => t9)
        (with_reducible rename _ = meantS [] _ _ _ _ _ => m8)
        (with_reducible rename _ = meantS (List.map _ _) _ _ _ _ _ => m9)
        refine hKQ _ (rend ⟨k + 1 + 1, _, _, _, _, _, _, _⟩ Fy Ny (by k_mem) (by dsimp only [pLed, arO]; walk_at "my led") (off _) (all8 rfl rfl rfl rfl rfl rfl rfl rfl) (pstep hJ t9 m9 m8 (by with_reducible assumption) (by with_reducible assumption) (by with_reducible assumption) e9a e9b e8a e8b))
      case pdone =>
        clear Rz Fz Nz
        rintro j ⟨k, tk9, tp, t1, du, t2, ba, t3⟩ u' h tk hj hJ F9 N9
        dsimp only [pLed, arO] at N9
        have k0 := hJ.k0
        have k1 := hJ.k1
        have q1 := hJ.l1
        have q2 := hJ.l2
        have q3 := hJ.l3
        obtain ⟨Ps, pb, p1, p2, p3⟩ := hJ.ps
        dsimp only at k0 k1 q1 q2 q3 p1 p2 p3
        dsimp only
        have z1 := app_len tp (Str.ofString "$")
        have z2 := app_len du (Str.ofString "$")
        have z3 := app_len ba (Str.ofString "$")
        have z4 := dollar_len
        k_steps
        refine Stop.mk ?_
        (with_reducible rename _ = fgL _ _ _ _ _ => hr)
        refine ne_known (fg_due pb p1 p2 hr rfl) ?_
        clear hr
        k_steps
        refine Stop.mk ?_
        have cx : ∀ x y : Int, x + (y - x) = y := fun x y => by omega
        (with_reducible rename _ = fgL _ _ _ _ _ => hr)
        rw [cx] at hr
        refine ne_known (fg_due pb p1 p3 hr rfl) ?_
        clear hr
        k_steps
        refine Stop.mk ?_
        (with_reducible rename _ = fgL _ _ _ _ _ => hr)
        refine ne_known (fg_due pb p1 p3 hr rfl) ?_
        clear hr
        k_steps
end
end Mine
set_option maxRecDepth 100000 in
set_option maxHeartbeats 8000000 in
theorem PySem.Challenge.cw_pc0066_01_holds : PySem.Challenge.rw_pc0066_01.Holds := by
  exact Mine.lawx
