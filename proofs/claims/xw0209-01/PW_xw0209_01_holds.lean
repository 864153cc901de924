import PyProof.Rows.All
import Wide.All
import OpenK.AllK
import Wide.FinOn
import Lean
import PySem.Challenge.RW_xw0209_01
open PySem PySem.W PySem.Calls PyProof.Rows
set_option Elab.async false
set_option linter.unusedVariables false
set_option maxRecDepth 100000
set_option maxHeartbeats 0
set_option compiler.extract_closed false
set_option genInjectivity false
set_option genSizeOf false
set_option rowWalk.seconds 0
namespace Mine
noncomputable def viewB : {l : List Stmt // l = Challenge.pw_xw0209_01.main.body.take 1 ++ (Challenge.pw_xw0209_01.main.body.drop 2).take 2 ++ (Challenge.pw_xw0209_01.main.body.drop 5).take 6 ++ (Challenge.pw_xw0209_01.main.body.drop 12).take 3 ++ Challenge.pw_xw0209_01.main.body.drop 16} := by
  refine ⟨?l, ?h⟩
  case h =>
    dsimp only [Challenge.pw_xw0209_01, List.take, List.drop, List.append, HAppend.hAppend, Append.append]
    exact rfl
noncomputable def view : Program := { Challenge.pw_xw0209_01 with main := { Challenge.pw_xw0209_01.main with body := viewB.1 } }
noncomputable abbrev XtV : Shared → Bool := fun s => xlAt view [] s && recOk (RowW.records PySem.Challenge.rw_xw0209_01.row.toRowW) s
theorem booted : ∀ w : World, (fencedOpening treeTable Challenge.pw_xw0209_01 w 4804).map (fun s => (s.heap, s.gens, s.drawn, s.toks)) = some (boot_heap w.params, Array.mk [], boot_drawn, boot_toks) :=
  boot_open (by kernel_rfl) (by decide) (by intro s; kernel_rfl)
theorem left_of {α : Type} {Yf : Shared → α} {Ya : World → α} (h : ∀ (w : World) (os : OsState), (topFrom treeTable Challenge.pw_xw0209_01 w 4804 ⟨boot_heap w.params, Array.mk [], boot_drawn, boot_toks, os⟩).map (fun s => (openSeen view [] (importedModules Challenge.pw_xw0209_01.main.body) XtV true s, Yf s)) = some (openGood view [], Ya w)) :
    LeftO Challenge.pw_xw0209_01 view [] XtV Yf Ya 4804 := fun w => by
  obtain ⟨⟨hp, gs, d, k, os⟩, e, e'⟩ := Option.map_eq_some_iff.mp (booted w)
  obtain ⟨rfl, rfl, rfl, rfl⟩ : hp = boot_heap w.params ∧ gs = Array.mk [] ∧ d = boot_drawn ∧ k = boot_toks := by simpa using e'
  unfold openEnds
  rw [e]
  exact h w os
theorem said : OpenLaw.wellSaid Challenge.rw_xw0209_01 = true := by
  rw [PySem.W.Fast.te9446332074065402090]
  kernel_rfl
local macro_rules | `(tactic| w_on) => `(tactic| skip)
local macro_rules | `(tactic| o_law) => `(tactic| refine holds_law said fun said => ?_)
local macro_rules | `(tactic| o_head $H) => `(tactic| (refine holds_open (q := Mine.view) (loose := []) (Xt := XtV) (XP := XL Mine.view []) (Yf := Hook.obs $H) (Ya := Hook.val $H) (YP := Hook.says $H) (N := 4804) ?hl (Hook.of $H) (Hook.keeps $H) (fun s e => xl_of s (Bool.and_eq_true_iff.mp e).1) XL.keeps (by rfl) (by rfl) (by rfl) (fun s e => recFacts_of (Bool.and_eq_true_iff.mp e).2) (by rfl) (by assumption) (by decide +kernel) ⟨rfl, rfl, rfl, rfl, rfl, by decide +kernel⟩ ?hw ?hc; (case hl => refine left_of ?_; unfold topFrom; rw [PySem.W.Fast.te14082659384304107361, PySem.W.Fast.te14364793385576792824, PySem.W.Fast.te4187177175401517315]; intro w os; kernel_rfl)))
open_top hd for PySem.Challenge.rw_xw0209_01
abbrev PG : Program := Challenge.rw_xw0209_01.row.prog
abbrev Led := List (Addr × Obj)
/-- the contract of a def at `f`, called with `args` over the ledger `led`: it comes back, and `post` tells of what it hands back and of the ledger then -/
abbrev KC (w : World) (p : Program) (loose : List Str) (mean : ExcName → Option Value) (mg mb : Str → Option Value) (f : Addr) (args : List Value) (led : Led) (k : Nat) (post : Value → Led → Prop) : Prop :=
  ∀ (dp un : Nat) (gd : Option (List Code)) (cn : Str) (cs : Scope) (a : Addr) (ccd : Value) (cl : List (Str × Addr)) (outer : List Env) (A₀ : Around) (base h₀ : Heap) (L : Addr) (m : Str → Option Value) (s : Shared) (Q E : Value → Shared → Prop),
    Below A₀ base outer h₀ → Fr h₀ L s.heap m → (hd.heap_1 w.params).In h₀ → News h₀ L s.heap led → Top p loose mean mg mb h₀ → cs.kind = .function → dp + k < recursionLimit → un + 8 * k < cLine →
    (∀ (r : Value) (led' : Led) (h' : Heap) (tk' : Nat), Fr h₀ L h' m → News h₀ L h' led' → post r led' → Q r { s with heap := h', toks := tk' }) →
    wpAny (model PG w) (ktrTop dp un gd cn cs L a ccd cl outer) (call (.ref f) args) Q E s
section
variable {w : World} {p : Program} {loose : List Str} {mean : ExcName → Option Value} {mg mb : Str → Option Value} {f : Addr} {args : List Value} {led : Led} {k : Nat} {post : Value → Led → Prop}
theorem KC.use (C : KC w p loose mean mg mb f args led k post) {dp un : Nat} {gd : Option (List Code)} {cn : Str} {cs : Scope} {a : Addr} {ccd : Value} {cl : List (Str × Addr)} {outer : List Env} {A₀ : Around} {base h₀ : Heap} {L : Addr} {m : Str → Option Value} {s : Shared} {Q E : Value → Shared → Prop}
    (B : Below A₀ base outer h₀) (F : Fr h₀ L s.heap m) (X : (hd.heap_1 w.params).In h₀) (N : News h₀ L s.heap led) (T : Top p loose mean mg mb h₀) (hk : cs.kind = .function) (hdp : dp + k < recursionLimit) (hun : un + 8 * k < cLine)
    (ret : ∀ (r : Value) (led' : Led) (h' : Heap) (tk' : Nat), Fr h₀ L h' m → News h₀ L h' led' → post r led' → s.toks ≤ tk' → Q r { s with heap := h', toks := tk' }) :
    wpAny (model PG w) (ktrTop dp un gd cn cs L a ccd cl outer) (call (.ref f) args) Q E s :=
  wpAny_with_toks (Nat.le_refl _) (C _ _ _ _ _ _ _ _ _ _ _ _ _ _ _ _ _ B F X N T hk hdp hun fun r l h' tk' F' N' P' hle => ret r l h' tk' F' N' P' hle)
end
theorem news_sub {h₀ h : Heap} {L : Addr} {l l' : Led} (N : News h₀ L h l) (hs : ∀ q ∈ l', q ∈ l) : News h₀ L h l' := fun q hq => N q (hs q hq)
theorem upd_mem {d : Addr} {o o' : Obj} : ∀ {l l' : Led}, Upd d o o' l l' → ∀ q ∈ l', q = (d, o') ∨ (q ∈ l ∧ q.1 ≠ d)
  | _, _, .head h, q, hq => by
    rcases List.mem_cons.mp hq with rfl | hq
    · exact .inl rfl
    · exact .inr ⟨.tail _ hq, h q hq⟩
  | _, _, .tail hp r, q, hq => by
    rcases List.mem_cons.mp hq with rfl | hq
    · exact .inr ⟨.head _, hp⟩
    · rcases upd_mem r q hq with e | ⟨a, b⟩
      · exact .inl e
      · exact .inr ⟨.tail _ a, b⟩
theorem upd_in {d : Addr} {o o' : Obj} : ∀ {l l' : Led}, Upd d o o' l l' → (d, o) ∈ l
  | _, _, .head _ => .head _
  | _, _, .tail _ r => .tail _ (upd_in r)
/-- what is left of a ledger when the entries at `d` are out -/
def off (d : Addr) (l : Led) : Led := l.filter fun q => !(q.1 == d)
theorem off_ne {d : Addr} {l : Led} : ∀ q ∈ off d l, q.1 ≠ d := fun q hq => by
  have := (List.mem_filter.mp hq).2
  simpa using this
theorem off_sub {d : Addr} {l : Led} : ∀ q ∈ off d l, q ∈ l := fun _ hq => (List.mem_filter.mp hq).1
theorem off_mem {d : Addr} {l : Led} {q : Addr × Obj} (h : q ∈ l) (hn : q.1 ≠ d) : q ∈ off d l := List.mem_filter.mpr ⟨h, by simpa using hn⟩
theorem allLt_ne {D : Addr} {l : Led} (h : AllLt D l) : ∀ q ∈ l, q.1 ≠ D := by
  induction l with
  | nil => intro q hq; cases hq
  | cons a r ih =>
    intro q hq
    rcases List.mem_cons.mp hq with e | hq
    · rw [e]; exact Nat.ne_of_lt h.1
    · exact ih h.2 q hq
theorem allLt_neN {D a : Addr} {l : Led} (h : AllLt D l) (ha : D ≤ a) : ∀ q ∈ l, q.1 ≠ a := by
  induction l with
  | nil => intro q hq; cases hq
  | cons b r ih =>
    intro q hq
    rcases List.mem_cons.mp hq with e | hq
    · rw [e]; exact Nat.ne_of_lt (Nat.lt_of_lt_of_le h.1 ha)
    · exact ih h.2 q hq
theorem allLt_ne1 {D : Addr} {l : Led} (h : AllLt D l) : ∀ q ∈ l, q.1 ≠ D + 1 := allLt_neN h (Nat.le_succ _)
theorem allLt_ne2 {D : Addr} {l : Led} (h : AllLt D l) : ∀ q ∈ l, q.1 ≠ D + 1 + 1 := allLt_neN h (Nat.le_add_right D 2)
theorem allLt_ne3 {D : Addr} {l : Led} (h : AllLt D l) : ∀ q ∈ l, q.1 ≠ D + 1 + 1 + 1 := allLt_neN h (Nat.le_add_right D 3)
theorem mulok_fmod {x y m : Int} (h0 : 0 < m) (h1 : m < 2 ^ 62) : IntMulOk (Int.fmod x m) y :=
  IntMulOk.of_left (intBits_le_64 (by have := fmod_lo x h0; omega) (by have := fmod_hi x h0; omega))
theorem gen_toks {α : Type} {M : Model} {A : Around} {t : Sem α} {Q : α → Shared → Prop} {E : Value → Shared → Prop} {h : Heap} {g : Array GenState} {d : Drawn} {X : Nat} {o : OsState} (n : Nat) (hn : n ≤ X)
    (H : ∀ tk, n ≤ tk → wpAny M A t Q E ⟨h, g, d, tk, o⟩) : wpAny M A t Q E ⟨h, g, d, X, o⟩ := H X hn
/-- the walk halts here -/
def Halt (P : Prop) : Prop := P
theorem Halt.out {P : Prop} (h : Halt P) : P := h
def SrcOk (ns : List Int) : Prop := ∃ a b, ns = [a, b] ∧ 0 ≤ a ∧ 0 ≤ b ∧ b < 2147483647
set_option hygiene false
theorem at_call (n : Addr) {M : Model} {A : Around} {vs : List Value} {Q E : Value → Shared → Prop} {s : Shared} (h : wpAny M A (call (.ref n) vs) Q E s) : wpAny M A (call (.ref n) vs) Q E s := h
theorem halt_call (n : Addr) {M : Model} {A : Around} {vs : List Value} {Q E : Value → Shared → Prop} {s : Shared} (h : Halt (wpAny M A (call (.ref n) vs) Q E s)) : wpAny M A (call (.ref n) vs) Q E s := h
local macro_rules | `(tactic| w_on) => `(tactic| skip)
local macro_rules | `(tactic| open_k with $t) => `(tactic| (refine' KC.use $t ?k1 ?k2 ?k3 ?k4 ?k5 ?k6 ?k7 ?k8 ?_; walk_at "kA"))
local macro_rules | `(tactic| walk_at "kA") => `(tactic| ((case k1 => k_asm); (case k2 => k_asm); (case k3 => k_asm); (case k4 => k_asm); (case k5 => k_asm); (case k6 => first | exact rfl | assumption)))
local macro_rules | `(tactic| walk_at "kB") => `(tactic| ((case k7 => ktr_room); (case k8 => ktr_units)))
local macro_rules | `(tactic| walk_at "kX") => `(tactic| (obtain ⟨x9, u9, rfl, e1, e2, e3, e4, e5, e6, lo9, lo1, lo2, lo3, lo4, el9⟩ := P9; rw [el9] at N9; clear el9; (try k_sweep); (try k_fold)))
local macro_rules | `(tactic| walk_at "kU") => `(tactic| (obtain ⟨u9, rfl, el9⟩ := P9; rw [el9] at N9; clear el9; (try k_sweep); (try k_fold)))
local macro_rules | `(tactic| walk_at "kR") => `(tactic| (obtain ⟨rfl, el9⟩ := P9; rw [el9] at N9; clear el9; (try k_sweep); (try k_fold)))
local macro_rules | `(tactic| walk_at "kI") => `(tactic| (intro r9 led9 h9 tk9 F9 N9 P9 htk9; (try dsimp only at htk9)))
local macro_rules | `(tactic| walk_at "kJ") => `(tactic| (intro r9 led9 h9 tk9 F9 N9 P9 htk9))
local macro_rules | `(tactic| walk_at "kS") => `(tactic| ((try dsimp only at N9); (try k_sweep); (try k_fold)))
local macro_rules | `(tactic| walk_at "n6") => `(tactic| ((case a4 => first | omega | decide); (case a5 => first | assumption | (refine neN ?_; omega) | (refine Ne.symm ?_; refine neN ?_; omega)); (case a6 => first | assumption | (refine neN ?_; omega) | (refine Ne.symm ?_; refine neN ?_; omega))))
local macro_rules | `(tactic| walk_at "t5") => `(tactic| ((case a1 => k_mem); (case a2 => assumption); (case a3 => assumption); (case a4 => assumption); (case a5 => assumption)))
local macro_rules | `(tactic| walk_at "m3") => `(tactic| ((case a1 => k_mem); (case a2 => k_mem); (case a3 => k_mem)))
local macro_rules | `(tactic| walk_at "m6") => `(tactic| ((case a6 => assumption); (case a4 => omega); (case a5 => first | assumption | decide | omega)))
local macro_rules | `(tactic| walk_at "o6") => `(tactic| ((case a5 => assumption); (case a6 => assumption)))
local macro_rules | `(tactic| walk_at "m8") => `(tactic| ((case a7 => k_mem); (case a8 => k_mem)))
local macro_rules | `(tactic| walk_at "d5") => `(tactic| ((case a4 => first | decide | omega); (case a5 => first | decide | omega)))
local macro_rules | `(tactic| walk_at "s3") => `(tactic| ((case a1 => intro o9; k_upd); (case a2 => assumption); (case a3 => assumption)))
local macro_rules | `(tactic| k_all) => `(tactic| first | with_reducible assumption | exact allLt_ne (by with_reducible assumption) | exact allLt_ne1 (by with_reducible assumption) | exact allLt_ne2 (by with_reducible assumption) | exact allLt_ne3 (by with_reducible assumption))
local macro_rules | `(tactic| k_lt $h:ident) => `(tactic| (replace $h := allLt_of $h; simp only [AllLt, and_true] at $h:ident; (repeat (have lA := And.left $h; replace $h := And.right $h))))
local macro_rules | `(tactic| mul_fits) => `(tactic| k_dflt (exact mulok_fmod (by decide) (by decide)))
section
variable {w : World} {p : Program} {loose : List Str} {mean : ExcName → Option Value} {mg mb : Str → Option Value}
theorem take_ok (news : Led) (src : Addr) (vs : List Value) (ns : List Int) (n : Nat) (top : Int) (t : Tok) (hi : IntsAre vs ns) (hs : SrcOk ns) (h1 : 0 < top) (h2 : top ≤ 100) (hne : ∀ p ∈ news, p.1 ≠ src) :
    KC w p loose mean mg mb 318 [.ref src, .int top t] ((src, listOf vs.toArray n) :: news) 1
      (fun r led' => ∃ x u vs' ns' n', r = .int x u ∧ 0 ≤ x ∧ x < top ∧ led' = (src, listOf vs'.toArray n') :: news ∧ IntsAre vs' ns' ∧ SrcOk ns') := by
  obtain ⟨a, b, rfl, ha, hb, hb'⟩ := hs
  unfold KC
  intro dp un gd cn cs ad ccd cl outer A₀ base h₀ L m s Q E B F X N T hk hd hu hret
  refine wpAny_call ?_
  k_dflt cell_enter
  k_steps
  · refine hret _ _ _ _ (by k_asm) (by k_asm) ⟨_, _, _, _, _, rfl, fmod_lo _ h1, fmod_hi _ h1, rfl, by assumption, ⟨_, _, rfl, ?_, hb, hb'⟩⟩
    rw [Int.fdiv_eq_ediv_of_nonneg _ (by omega)]
    exact Int.ediv_nonneg ha (by omega)
  · refine hret _ _ _ _ (by k_asm) (by k_asm) ⟨_, _, _, _, _, rfl, fmod_lo _ h1, fmod_hi _ h1, rfl, by assumption, ⟨_, _, rfl, ha, ?_, ?_⟩⟩
    · exact fmod_lo _ (by decide)
    · exact fmod_hi _ (by decide)
/-- a draw: the source anywhere in the ledger -/
theorem take_upd (led : Led) (led' : Obj → Led) (src : Addr) (vs : List Value) (ns : List Int) (n : Nat) (top : Int) (t : Tok) (U : ∀ o', Upd src (listOf vs.toArray n) o' led (led' o')) (hi : IntsAre vs ns) (hs : SrcOk ns) (h1 : 0 < top) (h2 : top ≤ 100) :
    KC w p loose mean mg mb 318 [.ref src, .int top t] led 1
      (fun r l => ∃ x u vs' ns' n', r = .int x u ∧ 0 ≤ x ∧ x < top ∧ l = led' (listOf vs'.toArray n') ∧ IntsAre vs' ns' ∧ SrcOk ns') := by
  intro dp un gd cn cs ad ccd cl outer A₀ base h₀ L m s Q E B F X N T hk hd hu hret
  refine take_ok (off src led) src vs ns n top t hi hs h1 h2 off_ne _ _ _ _ _ _ _ _ _ _ _ _ _ _ _ _ _ B F X (news_sub N fun q hq => ?_) T hk hd hu ?_
  · rcases List.mem_cons.mp hq with rfl | hq
    · exact upd_in (U default)
    · exact off_sub q hq
  · rintro r _ h' tk' F' N' ⟨x, u, vs', ns', n', rfl, h0, hx, rfl, hi', hs'⟩
    refine hret _ _ _ _ F' (news_sub N' fun q hq => ?_) ⟨x, u, vs', ns', n', rfl, h0, hx, rfl, hi', hs'⟩
    rcases upd_mem (U _) q hq with rfl | ⟨a, b⟩
    · exact .head _
    · exact .tail _ (off_mem a b)
end

section
variable {prog : Program} {w : World} {A : Around} {E : Value → Shared → Prop} {s : Shared} {h₀ : Heap} {L D : Addr} {m : Str → Option Value} {led : Led}
theorem my_len {l : Addr} {vs : List Value} {n : Nat} {Q : Value → Shared → Prop} (N : News h₀ L s.heap led) (hm : (l, listOf vs.toArray n) ∈ led) (hfit : vs.length < 2 ^ 62)
    (h : Q (.int (vs.length : Nat) (s.toks + 1)) { s with toks := s.toks + 1 + 1 }) : wpAny (model prog w) A (call (.builtin "len") [.ref l]) Q E s := by
  have hl : s.heap.IsList l vs.toArray := ⟨_, (N _ hm).1, rfl, _, rfl⟩
  have e : vs.toArray.size = vs.length := by simp
  refine Calls.call_len_list hl (by omega) ?_
  rw [e]
  exact h
theorem my_item {value slice : PySem.Expr} {l : Addr} {vs : List Value} {n : Nat} {k : Int} {u : Tok} {v : Value} {Q : Value → Shared → Prop}
    (N : News h₀ L s.heap led) (hm : (l, listOf vs.toArray n) ∈ led) (h0 : 0 ≤ k) (hhi : k < 2 ^ 63) (hx : vs[k.toNat]? = some v) (h : Q v s)
    (hs : subscripted slice false (.ref l) (.int k u) = operate [.ref l, .int k u] (getItem (.ref l) (.int k u)) := by with_unfolding_all rfl) :
    wpAny (model prog w) A (subscriptTail value slice (.ref l) (.int k u)) Q E s := by
  have hl : s.heap.IsList l vs.toArray := ⟨_, (N _ hm).1, rfl, _, rfl⟩
  exact tail_any hl.typeIs slot_list_getitem.lookup (wpAny_getItem_list hl h0 hhi (by simpa using hx) h) hs
end
local macro_rules | `(tactic| walk_at "call ref") => `(tactic| ((with_reducible refine at_call 318 ?_); k_dflt (open_k with (take_upd _ _ _ _ _ _ _ _ ?a1 ?a2 ?a3 ?a4 ?a5); walk_at "s3"; walk_at "d5"; walk_at "kB"); walk_at "kI"; obtain ⟨x9, u9, vs9, ns9, n9, rfl, hx0, hx1, rfl, hi9, hs9⟩ := P9; walk_at "kS"))
section
variable {w : World} {p : Program} {loose : List Str} {mean : ExcName → Option Value} {mg mb : Str → Option Value}
section
local macro_rules | `(tactic| walk_at "call builtin:len") => `(tactic| (k_here; k_dflt (refine' my_len ?k1 ?k2 ?k3 ?_; (case k1 => k_asm); (case k2 => k_mem); (case k3 => omega))))
theorem one_ok (news : Led) (src th : Addr) (vs : List Value) (ns : List Int) (n : Nat) (ths : List Value) (c : Nat) (hi : IntsAre vs ns) (hs : SrcOk ns) (hne : ∀ p ∈ news, p.1 ≠ src) (hth : th ≠ src) (h1 : 0 < ths.length) (h2 : ths.length ≤ 100) :
    KC w p loose mean mg mb 325 [.ref src, .ref th] ((src, listOf vs.toArray n) :: (th, listOf ths.toArray c) :: news) 2
      (fun r led' => r ∈ ths ∧ ∃ vs' ns' n', led' = (src, listOf vs'.toArray n') :: (th, listOf ths.toArray c) :: news ∧ IntsAre vs' ns' ∧ SrcOk ns') := by
  unfold KC
  intro dp un gd cn cs ad ccd cl outer A₀ base h₀ L m s Q E B F X N T hk hd hu hret
  refine wpAny_call ?_
  k_dflt cell_enter
  k_steps
  have hlt : x9.toNat < ths.length := by omega
  have hv9 : ths[x9.toNat]? = some ths[x9.toNat] := List.getElem?_eq_getElem hlt
  refine my_item (by k_asm) (by k_mem) hx0 (by omega) hv9 ?_
  k_steps
  exact hret _ _ _ _ (by k_asm) (by k_asm) ⟨List.mem_of_getElem? hv9, _, _, _, rfl, by assumption, by assumption⟩
end
end

section Comp
open PyProof.Rows.LCg
variable {prog : Program} {w : World} {A : Around} {E : Value → Shared → Prop} {s : Shared} {h₀ : Heap} {L : Addr} {m : Str → Option Value} {env : Env}
/-- the tests of a clause, as the machine asks them -/
noncomputable abbrev askAll (ifs : List PySem.Expr) (env : Env) : Sem Bool := forIn ifs true fun c r => if r = true then do let ok ← isTrue c env (eval c env); pure (ForInStep.yield ok) else pure (ForInStep.yield r)
theorem my_compLoop {elt target iter : PySem.Expr} {ifs : List PySem.Expr} {scope : Scope} {pos : Pos} {it acc : Value} {env : Env} {R : Result → Shared → Prop} (I : Nat → Shared → Prop)
    (turn : ∀ n s, I n s → wpAny (model prog w) A (pyNext it) (fun r s₁ => match r with
      | none => R (.ok .next) s₁
      | some v => wpAny (model prog w) A (letOwnedTupleGo target it v) (fun _ s₀ => wpAny (model prog w) A (assign target env v) (fun _ s₂ =>
          wpAny (model prog w) A (askAll ifs env) (fun ok s₃ =>
            if ok = true then wpAny (model prog w) A (eval elt env) (fun x s₄ =>
              wpAny (model prog w) A (call (.builtin "list.append") [acc, x]) (fun _ s₅ => ∃ m, m < n ∧ I m s₅) (notedBy (model prog w) A env fun e s' => R (.error e) s') s₄) (notedBy (model prog w) A env fun e s' => R (.error e) s') s₃
            else ∃ m, m < n ∧ I m s₃) (notedBy (model prog w) A env fun e s' => R (.error e) s') s₂) (notedBy (model prog w) A env fun e s' => R (.error e) s') s₀) (notedBy (model prog w) A env fun e s' => R (.error e) s') s₁) (notedBy (model prog w) A env fun e s' => R (.error e) s') s)
    (n : Nat) (h : I n s) : codeAny (model prog w) A (.compLoop (.ListComp elt [⟨target, iter, ifs, 0⟩] scope pos) 0 it acc env) R s := by
  refine codeAny_loop rfl I (fun n s hI => ?_) n h
  show wpAny _ A ((compTurn (.ListComp elt [⟨target, iter, ifs, 0⟩] scope pos) 0 it acc env).onRaise (fun x => do noteFrame x env; theTreesLotGoes x)) _ _ s
  refine wpAny_noted ?_
  rw [compTurn_list]
  refine wpAny_bind (wpAny_standAt (wpAny_bind (wpAny_mono (turn n s hI) (fun r s₁ h₁ => ?_) fun _ _ h' => h')))
  cases r with
  | none => exact wpAny_pure h₁
  | some v =>
    refine wpAny_bind (wpAny_mono h₁ (fun _ s₀ hz => ?_) fun _ _ h' => h')
    refine wpAny_bind (wpAny_mono hz (fun _ s₂ h₂ => wpAny_bind (wpAny_mono h₂ (fun ok s₃ h₃ => ?_) fun _ _ h' => h')) fun _ _ h' => h')
    cases ok with
    | false => exact wpAny_pure ⟨rfl, h₃⟩
    | true => exact wpAny_bind (wpAny_bind (wpAny_mono h₃ (fun x s₄ h₄ => wpAny_bind (wpAny_mono h₄ (fun _ s₅ h₅ => wpAny_pure (wpAny_pure ⟨rfl, h₅⟩)) fun _ _ h' => h')) fun _ _ h' => h'))

/-- where a turn of a comprehension stands at its end: the iterator, the block's names, what is gathered so far, and the rest of the ledger -/
noncomputable def CEnd (h₀ : Heap) (L : Addr) (m : Str → Option Value) (s₁ : Shared) (I : Addr) (oI : Obj) (C D : Addr) (ys : List Value) (rest : Led → Prop) (s₂ : Shared) : Prop :=
  ∃ h' tk oC mC news', s₂ = { s₁ with heap := h', toks := tk } ∧ NsObj oC mC ∧ Fr h₀ L h' m ∧ News h₀ L h' ((I, oI) :: (C, oC) :: (D, lst ys) :: news') ∧ Off3 I C D news' ∧ rest news'
theorem CEnd.intro {s₁ : Shared} {I : Addr} {oI : Obj} {C D : Addr} {ys : List Value} {rest : Led → Prop} {h' : Heap} {tk : Nat} {oC : Obj} {mC : Str → Option Value} (news' : Led)
    (hC : NsObj oC mC) (F : Fr h₀ L h' m) (N : News h₀ L h' ((I, oI) :: (C, oC) :: (D, lst ys) :: news')) (off : Off3 I C D news') (r : rest news') : CEnd h₀ L m s₁ I oI C D ys rest { s₁ with heap := h', toks := tk } :=
  ⟨h', tk, oC, mC, news', rfl, hC, F, N, off, r⟩

noncomputable abbrev CTurn (prog : Program) (w : World) (A : Around) (h₀ : Heap) (L : Addr) (m : Str → Option Value) (env : Env) (elt target : PySem.Expr) (ifs : List PySem.Expr) (scope : Scope) (cl : List (Str × Addr)) (s₂ : Shared) (n : Nat) (P : Nat → Value → Prop) (J : Nat → List Value → Led → Prop) : Prop :=
  ∀ i v ys news I oI C oC D mC h tk (E' : Value → Shared → Prop), i < n → P i v → J i ys news → NsObj oC mC → Fr h₀ L h m → News h₀ L h ((I, oI) :: (C, oC) :: (D, lst ys) :: news) → Off3 I C D news → ((@Ne Nat I C) ∧ (@Ne Nat I D) ∧ (@Ne Nat C D)) →
    wpAny (model prog w) A (assign target (compEnvC scope cl C env) v) (fun _ s₃ => wpAny (model prog w) A (askAll ifs (compEnvC scope cl C env)) (fun ok s₄ =>
      if ok = true then wpAny (model prog w) A (eval elt (compEnvC scope cl C env)) (fun y s₅ => CEnd h₀ L m { s₂ with heap := h, toks := tk } I oI C D ys (J (i + 1) (ys ++ [y])) s₅) E' s₄
      else CEnd h₀ L m { s₂ with heap := h, toks := tk } I oI C D ys (J (i + 1) ys) s₄) E' s₃) E' { s₂ with heap := h, toks := tk }

theorem my_block {elt iter target : PySem.Expr} {ifs : List PySem.Expr} {scope : Scope} {cl : List (Str × Addr)} {pos : Pos} {s₂ : Shared} {I : Addr} {fp : List Addr} {n : Nat} {P : Nat → Value → Prop} {St : Nat → Heap → Prop} {news : Led}
    {RR : Value → Addr → Result → Shared → Prop} (W : Walks prog w A I fp [I] n P St)
    (hgo : ∀ i v (s : Shared) (Q : Unit → Shared → Prop) (E : Value → Shared → Prop), St i s.heap → Q () s → wpAny (model prog w) A (letOwnedTupleGo target (.ref I) v) Q E s)
    (hsz : n ≤ sizeLine) (hIo : ∀ i h, St i h → ∃ o, h.get? I = some o) (J : Nat → List Value → Led → Prop) (hlen : ∀ i ys nw, J i ys nw → ys.length ≤ i)
    (hSt : ∀ i h h' o ys nw, St i h → h.get? I = some o → h'.get? I = some o → (∀ b o, h₀.get? b = some o → h'.get? b = some o) → News h₀ L h' nw → J i ys nw → St i h')
    (hcell : ∀ y ∈ scope.names, y.2 ≠ .cell) (hkind : scope.kind = .function) (hst : St 0 s₂.heap) (hfp : ∀ b ∈ fp, b < s₂.heap.objs.size)
    (F : Fr h₀ L s₂.heap m) (N : News h₀ L s₂.heap news) (hIL : L ≠ I) (hI₀ : h₀.get? I = none) (off : ∀ p ∈ news, p.1 ≠ I) (h0 : J 0 [] news)
    (turn : CTurn prog w A h₀ L m env elt target ifs scope cl s₂ n P J)
    (hRR : ∀ D C h tk m' ys news', Fr h₀ L h m → News h₀ L h ((D, lst ys) :: news') → Off1 D news' → h.Ns C m' → h₀.get? C = none → h₀.get? D = none → C ≠ L → D ≠ L → C ≠ D → (∀ p ∈ news', p.1 ≠ C) → J n ys news' → RR (.ref D) C (.ok .next) { s₂ with heap := h, toks := tk }) :
    wpAny (model prog w) A (newList []) (fun acc s₃ => wpAny (model prog w) A (newFunctionEnv scope env.globals cl [] env.qual none .none (some env)) (fun cenv s₄ =>
      codeAny (model prog w) A (.compStart (.ListComp elt [⟨target, iter, ifs, 0⟩] scope pos) 0 (.ref I) acc { cenv with scope := relabel scope env }) (RR acc cenv.locals) s₄) E s₃) E s₂ := by
  refine wpAny_newObj_type (wpAny_newFunctionEnv hcell (by intro y hy; simp at hy) (fun h₁ hns₁ hsb₁ => ?_) hkind)
  dsimp only at hns₁ hsb₁ ⊢
  generalize hH2 : s₂.heap.push { cls := .type "list", dict := none, data := .seq ([] : List Value).toArray } = H2 at hns₁ hsb₁ ⊢
  have hC : H2.objs.size = s₂.heap.objs.size + 1 := by rw [← hH2, Heap.size_push]
  have hDC : s₂.heap.objs.size ≠ H2.objs.size := by rw [hC]; exact Nat.ne_of_lt (Nat.lt_succ_self _)
  have below : ∀ b, b < s₂.heap.objs.size → b ≠ H2.objs.size ∧ b ≠ s₂.heap.objs.size := fun b hb => ⟨by rw [hC]; exact Nat.ne_of_lt (Nat.lt_succ_of_lt hb), Nat.ne_of_lt hb⟩
  have hDf : s₂.heap.objs.size ∉ fp := fun hm => Nat.lt_irrefl _ (hfp _ hm)
  have hCf : H2.objs.size ∉ fp := fun hm => by have := hfp _ hm; rw [hC] at this; exact Nat.lt_irrefl _ (Nat.lt_of_succ_lt this)
  have hIlt : I < s₂.heap.objs.size := hfp I (W.sub I (List.mem_singleton.mpr rfl))
  have old : ∀ b o, s₂.heap.get? b = some o → h₁.get? b = some o := fun b o e => hsb₁.extBut b o (below b (Heap.lt_size e)).1 (Heap.get?_push_of_some _ (hH2 ▸ Heap.get?_push_of_some _ e))
  have hacc : h₁.get? s₂.heap.objs.size = some (lst []) := hsb₁.extBut _ _ hDC (Heap.get?_push_of_some _ (hH2 ▸ Heap.get?_push_size _ rfl))
  have hst₁ : St 0 h₁ := W.frame _ _ _ hst fun b _ o e => old b o e
  have fresh₀ : ∀ a, s₂.heap.objs.size ≤ a → h₀.get? a = none := fun a ha => by
    cases e : h₀.get? a with
    | none => rfl
    | some o' => exact absurd (Heap.lt_size (F.keep a o' e)) (Nat.not_lt.mpr ha)
  have hD₀ : h₀.get? s₂.heap.objs.size = none := fresh₀ _ (Nat.le_refl _)
  have hC₀ : h₀.get? H2.objs.size = none := fresh₀ _ (by rw [hC]; exact Nat.le_succ _)
  have hLlt : L < s₂.heap.objs.size := F.ns.lt
  have hDL : s₂.heap.objs.size ≠ L := Ne.symm (below L hLlt).2
  have hCL : H2.objs.size ≠ L := Ne.symm (below L hLlt).1
  have hCI : I ≠ H2.objs.size := (below I hIlt).1
  have hDI : I ≠ s₂.heap.objs.size := (below I hIlt).2
  have off₀ : Off3 I H2.objs.size s₂.heap.objs.size news := Off3.of fun p hp => ⟨off p hp, (below _ (Heap.lt_size (N p hp).1)).1, (below _ (Heap.lt_size (N p hp).1)).2⟩
  have N₁ : News h₀ L h₁ ((s₂.heap.objs.size, lst []) :: news) := fun p hp => by
    rcases List.mem_cons.mp hp with rfl | hp
    · exact ⟨hacc, hDL, hD₀⟩
    · exact ⟨old _ _ (N p hp).1, (N p hp).2⟩
  have loop : ∀ s₃ : Shared, s₃ = { s₂ with heap := h₁, toks := s₂.toks + ([] : List (Str × Value)).length } →
      codeAny (model prog w) A (.compLoop (.ListComp elt [⟨target, iter, ifs, 0⟩] scope pos) 0 (.ref I) (.ref s₂.heap.objs.size) (compEnvC scope cl H2.objs.size env))
        (RR (.ref s₂.heap.objs.size) H2.objs.size) s₃ := by
    rintro s₃ rfl
    refine my_compLoop
      (fun k s' => ∃ h' tk i ys m' news', s' = { s₂ with heap := h', toks := tk } ∧ i ≤ n ∧ k = n + 1 - i ∧ St i h' ∧ Fr h₀ L h' m ∧ h'.Ns H2.objs.size m' ∧ News h₀ L h' ((s₂.heap.objs.size, lst ys) :: news') ∧
        Off3 I H2.objs.size s₂.heap.objs.size news' ∧ J i ys news') ?_ (n + 1)
      ⟨h₁, _, 0, [], _, news, rfl, Nat.zero_le _, rfl, hst₁, F.keeps old, hns₁, N₁, off₀, h0⟩
    rintro k s' ⟨h', tk, i, ys, m', news', rfl, hi, rfl, hst', F', hn', N', off', hJ⟩
    have off3 := off'.mem
    by_cases hlt : i < n
    · refine W.item i _ _ _ hlt hst' fun v h₂ tk₂ hPv hst₂ hk₂ => ?_
      refine hgo (i + 1) v _ _ _ hst₂ ?_
      obtain ⟨oI, heI⟩ := hIo _ _ hst₂
      obtain ⟨oC, heC, hoC⟩ := ns_obj (hn'.at' fun o e => hk₂ _ o (by simpa using Ne.symm hCI) e)
      have F₂ : Fr h₀ L h₂ m := fr_but F' hk₂ hIL hI₀
      have N₂ : News h₀ L h₂ ((s₂.heap.objs.size, lst ys) :: news') := news_but N' hk₂ fun p hp => by
        rcases List.mem_cons.mp hp with rfl | hp
        · exact Ne.symm hDI
        · exact (off3 p hp).1
      have N₃ : News h₀ L h₂ ((I, oI) :: (H2.objs.size, oC) :: (s₂.heap.objs.size, lst ys) :: news') := fun p hp => by
        rcases List.mem_cons.mp hp with rfl | hp
        · exact ⟨heI, Ne.symm hIL, hI₀⟩
        · rcases List.mem_cons.mp hp with rfl | hp
          · exact ⟨heC, hCL, hC₀⟩
          · exact N₂ p hp
      refine wpAny_mono (turn i v ys news' I oI H2.objs.size oC s₂.heap.objs.size _ h₂ tk₂ _ hlt hPv hJ hoC F₂ N₃ off' ⟨hCI, hDI, Ne.symm hDC⟩) (fun _ s₃ h₃ => wpAny_mono h₃ (fun ok s₄ h₄ => ?_) fun _ _ e => e) fun _ _ e => e
      have back : ∀ {h₄ : Heap} {oC₄ : Obj} {news₄ : Led}, Fr h₀ L h₄ m → News h₀ L h₄ ((I, oI) :: (H2.objs.size, oC₄) :: (s₂.heap.objs.size, lst ys) :: news₄) → ∀ ys', J (i + 1) ys' news₄ → St (i + 1) h₄ ∧ News h₀ L h₄ news₄ := by
        intro h₄ oC₄ news₄ F₄ N₄ ys' J₄
        have N₄' : News h₀ L h₄ news₄ := fun p hp => N₄ p (List.mem_cons_of_mem _ (List.mem_cons_of_mem _ (List.mem_cons_of_mem _ hp)))
        exact ⟨hSt _ _ _ _ _ _ hst₂ heI (N₄ (I, oI) List.mem_cons_self).1 F₄.keep N₄' J₄, N₄'⟩
      cases ok with
      | false =>
        have h₄' : CEnd h₀ L m { s₂ with heap := h₂, toks := tk₂ } I oI H2.objs.size s₂.heap.objs.size ys (J (i + 1) ys) s₄ := h₄
        obtain ⟨h₅, tk₅, oC₅, mC₅, news₅, rfl, hC₅, F₅, N₅, off₅, J₅⟩ := h₄'
        obtain ⟨st₅, N₅'⟩ := back F₅ N₅ _ J₅
        exact ⟨n + 1 - (i + 1), by omega, h₅, tk₅, i + 1, ys, mC₅, news₅, rfl, hlt, rfl, st₅, F₅, hC₅.ns (N₅ _ (List.mem_cons_of_mem _ List.mem_cons_self)).1, fun p hp => N₅ p (List.mem_cons_of_mem _ (List.mem_cons_of_mem _ hp)), off₅, J₅⟩
      | true =>
        refine wpAny_mono h₄ (fun y s₅ h₅ => ?_) fun _ _ e => e
        obtain ⟨h₅, tk₅, oC₅, mC₅, news₅, rfl, hC₅, F₅, N₅, off₅, J₅⟩ := h₅
        obtain ⟨st₅, N₅'⟩ := back F₅ N₅ _ J₅
        have zC := (N₅ (H2.objs.size, oC₅) (List.mem_cons_of_mem _ List.mem_cons_self)).1
        have zD := (N₅ (s₂.heap.objs.size, lst ys) (List.mem_cons_of_mem _ (List.mem_cons_of_mem _ List.mem_cons_self))).1
        refine append_at (hsz := by show ys.toArray.size ≤ sizeLine; rw [List.size_toArray]; exact Nat.le_trans (hlen _ _ _ hJ) (Nat.le_trans hi hsz)) zD fun h₆ hs₆ hD₆ => ?_
        have off5 := off₅.mem
        refine ⟨n + 1 - (i + 1), by omega, h₆, tk₅, i + 1, ys ++ [y], mC₅, news₅, rfl, hlt, rfl, W.frame _ _ _ st₅ fun b hb o e => hs₆.extBut b o (fun q => hDf (q ▸ hb)) e, F₅.change hs₆ hDL hD₀,
          (hC₅.ns zC).sameBut hs₆ (Ne.symm hDC), fun p hp => ?_, off₅, J₅⟩
        rcases List.mem_cons.mp hp with rfl | hp
        · exact ⟨hD₆.trans (congrArg some (lst_snoc ys y)), hDL, hD₀⟩
        · exact ⟨hs₆.extBut _ _ (off5 p hp).2.2 (N₅' p hp).1, (N₅' p hp).2⟩
    · obtain rfl : i = n := Nat.le_antisymm hi (Nat.not_lt.mp hlt)
      refine W.done _ _ _ hst' fun h₂ tk₂ hk₂ => ?_
      exact hRR _ _ h₂ tk₂ _ ys news' (fr_but F' hk₂ hIL hI₀) (news_but N' hk₂ fun p hp => by
        rcases List.mem_cons.mp hp with rfl | hp
        · exact Ne.symm hDI
        · exact (off3 p hp).1) off'.one (hn'.at' fun o e => hk₂ _ o (by simpa using Ne.symm hCI) e) hC₀ hD₀ hCL hDL (Ne.symm hDC) (fun p hp => (off3 p hp).2.1) hJ
  exact codeAny_compStart_list (loop _ rfl) (W.self 0 _ _ _ hst₁ (loop _ rfl))

/-- the source of a comprehension is reached: a list of the ledger -/
noncomputable def CSrcL (prog : Program) (w : World) (A : Around) (h₀ : Heap) (L : Addr) (m : Str → Option Value) (env : Env) (elt target : PySem.Expr) (ifs : List PySem.Expr) (scope : Scope) (cl : List (Str × Addr)) (Fin : Shared → List Value → Led → Prop) (xv : Value) (s₁ : Shared) : Prop :=
  ∃ (ax : Addr) (its : List Value) (c : Nat) (news : Led) (J : Nat → List Value → Led → Prop), xv = .ref ax ∧ A.handled = none ∧ Fr h₀ L s₁.heap m ∧ News h₀ L s₁.heap news ∧ its.length ≤ sizeLine ∧ (∀ i ys nw, J i ys nw → ys.length ≤ i) ∧ (∀ i ys nw, J i ys nw → (ax, listOf its.toArray c) ∈ nw) ∧ J 0 [] news ∧
    (∀ g, CTurn prog w A h₀ L m env elt target ifs scope cl { s₁ with heap := g } its.length (fun i v => its[i]? = some v) J) ∧ ∀ g ys nw, J its.length ys nw → Fin { s₁ with heap := g } ys nw
/-- the source of a comprehension is reached: a text -/
noncomputable def CSrcS (prog : Program) (w : World) (A : Around) (h₀ : Heap) (L : Addr) (m : Str → Option Value) (env : Env) (elt target : PySem.Expr) (ifs : List PySem.Expr) (scope : Scope) (cl : List (Str × Addr)) (Fin : Shared → List Value → Led → Prop) (xv : Value) (s₁ : Shared) : Prop :=
  ∃ (x : Str) (t : Tok) (news : Led) (J : Nat → List Value → Led → Prop), xv = .str x t ∧ A.handled = none ∧ Fr h₀ L s₁.heap m ∧ News h₀ L s₁.heap news ∧ x.cps.size ≤ sizeLine ∧ (∀ i ys nw, J i ys nw → ys.length ≤ i) ∧ J 0 [] news ∧ (∀ it v, letOwnedTupleGo target it v = pure ()) ∧
    (∀ g, CTurn prog w A h₀ L m env elt target ifs scope cl { s₁ with heap := g } x.cps.size (SignAt x) J) ∧ ∀ g ys nw, J x.cps.size ys nw → Fin { s₁ with heap := g } ys nw

theorem my_ListComp_L {elt iter target : PySem.Expr} {ifs : List PySem.Expr} {scope : Scope} {cl : List (Str × Addr)} {pos : Pos} {Q : Value → Shared → Prop} (_F₀ : Fr h₀ L s.heap m)
    (hclos : closureFor scope env = pure cl) (hcell : ∀ y ∈ scope.names, y.2 ≠ .cell) (hkind : scope.kind = .function)
    (hnames : ∀ y ∈ scope.names, y.2 = .local → scope.names.lookup y.1 = some .local)
    (h : wpAny (model prog w) A (eval iter env) (CSrcL prog w A h₀ L m env elt target ifs scope cl (fun s₂ => FinE h₀ L m s₂ Q)) E s)
    (hs : ∀ x, foldedSetIterable iter env x = pure x := by intro _; rfl) :
    wpAny (model prog w) A (eval (.ListComp elt [⟨target, iter, ifs, 0⟩] scope pos) env) Q E s := by
  rw [eval_ListComp]
  refine wpAny_comprehension_free (use := none) rfl hs hclos hkind hnames (wpAny_mono h (fun xv s₁ h₁ => ?_) fun _ _ e => e)
  obtain ⟨ax, its, c, news, J, rfl, hh, F, N, hsz, hlen, hin, h0, turn, fin⟩ := h₁
  have hl : s₁.heap.IsList ax its.toArray := ⟨_, (N _ (hin _ _ _ h0)).1, rfl, _, rfl⟩
  have hlt : ax < s₁.heap.objs.size := by obtain ⟨_, e, _⟩ := hl; exact Heap.lt_size e
  refine wpAny_pyIter_list hl ?_
  have up : ∀ b o, s₁.heap.get? b = some o → (s₁.heap.push { cls := .type "list_iterator", data := .fields #[.ref ax, .int 0 0] }).get? b = some o := fun b o e => Heap.get?_push_of_some _ e
  have W := Walks.list (prog := prog) (w := w) hh s₁.heap.objs.size ax (Nat.ne_of_lt hlt) its.toArray
  have hsize : its.toArray.size = its.length := by simp
  rw [hsize] at W
  refine my_block W (fun i v s Q E st q => letGo_listiter st.1 q) hsz (fun i h st => by obtain ⟨o, e, _⟩ := st.1; exact ⟨o, e⟩) J hlen
    (fun i h h' o ys nw st e e' k N J => ⟨by obtain ⟨o', q, r⟩ := st.1; rw [e] at q; cases q; exact ⟨o, e', r⟩, ⟨_, (N _ (hin _ _ _ J)).1, rfl, _, rfl⟩⟩) hcell hkind ⟨⟨_, Heap.get?_push_size _ rfl, rfl, rfl⟩, hl.push _⟩ (fun b hb => ?_)
    (F.keeps up) (N.grown up) (Nat.ne_of_lt F.ns.lt) (next_is_new F) (fun p hp => Nat.ne_of_lt (Heap.lt_size (N p hp).1)) h0 (fun i v => by have := turn (s₁.heap.push { cls := .type "list_iterator", data := .fields #[.ref ax, .int 0 0] }) i v; simpa using this) ?_
  · show b < (s₁.heap.push _).objs.size
    rw [Heap.size_push]
    rcases List.mem_cons.mp hb with rfl | hb
    · exact Nat.lt_succ_self _
    · rw [List.mem_singleton.mp hb]; exact Nat.lt_succ_of_lt hlt
  · intro D C h tk m' ys news' F' N' o1 hn hC₀ hD₀ hCL hDL hCD offC hJ
    refine ⟨m', hn, fun h'' hs'' => fin s₁.heap ys news' hJ D h'' tk (F'.change hs'' hCL hC₀) (fun p hp => ?_) o1⟩
    refine ⟨hs''.extBut _ _ ?_ (N' p hp).1, (N' p hp).2⟩
    rcases List.mem_cons.mp hp with rfl | hp
    · exact Ne.symm hCD
    · exact offC p hp

theorem my_Assign_ListComp_L {elt iter target : PySem.Expr} {ifs : List PySem.Expr} {y : Str} {py : Pos} {scope : Scope} {cl : List (Str × Addr)} {pos spos : Pos} {Q : Flow → Shared → Prop} (_F₀ : Fr h₀ L s.heap m) (hLe : env.locals = L)
    (hsw : swapsWith (.ListComp elt [⟨target, iter, ifs, 0⟩] scope pos) (some (.Name y py)) spos.line env = pure true)
    (hclos : closureFor scope env = pure cl) (hcell : ∀ z ∈ scope.names, z.2 ≠ .cell) (hkind : scope.kind = .function)
    (hnames : ∀ z ∈ scope.names, z.2 = .local → scope.names.lookup z.1 = some .local)
    (hy : env.kindOf y = some .local) (hp : (env.scope.kind == .class || (env.scope.kind == .module && env.locals != env.globals)) = false)
    (h : wpAny (model prog w) A (eval iter env) (CSrcL prog w A h₀ L m env elt target ifs scope cl (fun s₂ => FinA h₀ L m s₂ y Q)) E s)
    (hs : ∀ x, foldedSetIterable iter env x = pure x := by intro _; rfl) :
    wpAny (model prog w) A (exec (.Assign [.Name y py] (.ListComp elt [⟨target, iter, ifs, 0⟩] scope pos) spos) env) Q E s := by
  subst hLe
  rw [exec_Assign_Name_used _ _ _ _ hsw]
  refine wpAny_bind (wpAny_standAt (wpAny_bind ?_))
  show wpAny _ A (do let _ ← comprehension (.ListComp elt [⟨target, iter, ifs, 0⟩] scope pos) scope env _ (newList []) false (eval iter env) (some (assign (.Name y py) env))) _ _ s
  refine wpAny_bind (wpAny_mono (wpAny_comprehension_free (use := some (assign (.Name y py) env)) (Q := fun _ s' => Q .next s') rfl hs hclos hkind hnames
    (wpAny_mono h (fun xv s₁ h₁ => ?_) fun _ _ e => e)) (fun _ s' hq => wpAny_pure (wpAny_pure hq)) fun _ _ e => e)
  obtain ⟨ax, its, c, news, J, rfl, hh, F, N, hsz, hlen, hin, h0, turn, fin⟩ := h₁
  have hl : s₁.heap.IsList ax its.toArray := ⟨_, (N _ (hin _ _ _ h0)).1, rfl, _, rfl⟩
  have hlt : ax < s₁.heap.objs.size := by obtain ⟨_, e, _⟩ := hl; exact Heap.lt_size e
  refine wpAny_pyIter_list hl ?_
  have up : ∀ b o, s₁.heap.get? b = some o → (s₁.heap.push { cls := .type "list_iterator", data := .fields #[.ref ax, .int 0 0] }).get? b = some o := fun b o e => Heap.get?_push_of_some _ e
  have W := Walks.list (prog := prog) (w := w) hh s₁.heap.objs.size ax (Nat.ne_of_lt hlt) its.toArray
  have hsize : its.toArray.size = its.length := by simp
  rw [hsize] at W
  refine my_block W (fun i v s Q E st q => letGo_listiter st.1 q) hsz (fun i h st => by obtain ⟨o, e, _⟩ := st.1; exact ⟨o, e⟩) J hlen
    (fun i h h' o ys nw st e e' k N J => ⟨by obtain ⟨o', q, r⟩ := st.1; rw [e] at q; cases q; exact ⟨o, e', r⟩, ⟨_, (N _ (hin _ _ _ J)).1, rfl, _, rfl⟩⟩) hcell hkind ⟨⟨_, Heap.get?_push_size _ rfl, rfl, rfl⟩, hl.push _⟩ (fun b hb => ?_)
    (F.keeps up) (N.grown up) (Nat.ne_of_lt F.ns.lt) (next_is_new F) (fun p hp => Nat.ne_of_lt (Heap.lt_size (N p hp).1)) h0 (fun i v => by have := turn (s₁.heap.push { cls := .type "list_iterator", data := .fields #[.ref ax, .int 0 0] }) i v; simpa using this) ?_
  · show b < (s₁.heap.push _).objs.size
    rw [Heap.size_push]
    rcases List.mem_cons.mp hb with rfl | hb
    · exact Nat.lt_succ_self _
    · rw [List.mem_singleton.mp hb]; exact Nat.lt_succ_of_lt hlt
  · intro D C h' tk m' ys news' F' N' o1 hn hC₀ hD₀ hCL hDL hCD offC hJ
    show wpAny _ A (assign (.Name y py) env (.ref D)) _ _ _
    refine wpAny_assign_Name (wpAny_storeName_local hy F'.ns (fun h₂ hn₂ hs₂ => ?_) hp)
    have hL₀ : h₀.get? env.locals = none := Heap.get?_none_of_le F'.above
    have F₂ : Fr h₀ env.locals h₂ (fun z => if z = y then some (.ref D) else m z) := ⟨hn₂, fun b o e => hs₂.extBut b o (fun q => by rw [q, hL₀] at e; cases e) (F'.keep b o e), F'.above⟩
    refine ⟨m', hn.sameBut hs₂ hCL, fun h'' hs'' => fin s₁.heap ys news' hJ D h'' _ (F₂.change hs'' hCL hC₀) (fun p hp => ?_) o1⟩
    have z : h₂.get? p.1 = some p.2 := hs₂.extBut _ _ (N' p hp).2.1 (N' p hp).1
    refine ⟨hs''.extBut _ _ ?_ z, (N' p hp).2⟩
    rcases List.mem_cons.mp hp with rfl | hp
    · exact Ne.symm hCD
    · exact offC p hp

theorem my_ListComp_S {elt iter target : PySem.Expr} {ifs : List PySem.Expr} {scope : Scope} {cl : List (Str × Addr)} {pos : Pos} {Q : Value → Shared → Prop} (_F₀ : Fr h₀ L s.heap m)
    (hclos : closureFor scope env = pure cl) (hcell : ∀ y ∈ scope.names, y.2 ≠ .cell) (hkind : scope.kind = .function)
    (hnames : ∀ y ∈ scope.names, y.2 = .local → scope.names.lookup y.1 = some .local)
    (h : wpAny (model prog w) A (eval iter env) (CSrcS prog w A h₀ L m env elt target ifs scope cl (fun s₂ => FinE h₀ L m s₂ Q)) E s)
    (hs : ∀ x, foldedSetIterable iter env x = pure x := by intro _; rfl) :
    wpAny (model prog w) A (eval (.ListComp elt [⟨target, iter, ifs, 0⟩] scope pos) env) Q E s := by
  rw [eval_ListComp]
  refine wpAny_comprehension_free (use := none) rfl hs hclos hkind hnames (wpAny_mono h (fun xv s₁ h₁ => ?_) fun _ _ e => e)
  obtain ⟨x, t, news, J, rfl, hh, F, N, hsz, hlen, h0, hgo, turn, fin⟩ := h₁
  have up : ∀ (o : Obj) b o', s₁.heap.get? b = some o' → (s₁.heap.push o).get? b = some o' := fun o b o' e => Heap.get?_push_of_some _ e
  cases ha : x.cps.all (· < 128)
  · refine wpAny_pyIter_wide ha ?_
    refine my_block (Walks.strWide hh s₁.heap.objs.size x t) (fun i v s Q E st q => by rw [hgo]; exact wpAny_pure q) hsz (fun i h st => by obtain ⟨o, e, _⟩ := st; exact ⟨o, e⟩) J hlen
      (fun i h h' o ys nw st e e' k N J => by obtain ⟨o', q, r⟩ := st; rw [e] at q; cases q; exact ⟨o, e', r⟩) hcell hkind ⟨_, Heap.get?_push_size _ rfl, rfl, rfl⟩ (fun b hb => ?_)
      (F.keeps (up _)) (N.grown (up _)) (Nat.ne_of_lt F.ns.lt) (next_is_new F) (fun p hp => Nat.ne_of_lt (Heap.lt_size (N p hp).1)) h0 (turn _) ?_
    · rw [List.mem_singleton.mp hb]
      show s₁.heap.objs.size < (s₁.heap.push _).objs.size
      rw [Heap.size_push]; exact Nat.lt_succ_self _
    · intro D C h tk m' ys news' F' N' o1 hn hC₀ hD₀ hCL hDL hCD offC hJ
      refine ⟨m', hn, fun h'' hs'' => fin s₁.heap ys news' hJ D h'' tk (F'.change hs'' hCL hC₀) (fun p hp => ?_) o1⟩
      refine ⟨hs''.extBut _ _ ?_ (N' p hp).1, (N' p hp).2⟩
      rcases List.mem_cons.mp hp with rfl | hp
      · exact Ne.symm hCD
      · exact offC p hp
  · refine wpAny_pyIter_ascii ha ?_
    refine my_block (Walks.strAscii hh s₁.heap.objs.size x t) (fun i v s Q E st q => by rw [hgo]; exact wpAny_pure q) hsz (fun i h st => by obtain ⟨o, e, _⟩ := st; exact ⟨o, e⟩) J hlen
      (fun i h h' o ys nw st e e' k N J => by obtain ⟨o', q, r⟩ := st; rw [e] at q; cases q; exact ⟨o, e', r⟩) hcell hkind ⟨_, Heap.get?_push_size _ rfl, rfl, rfl⟩ (fun b hb => ?_)
      (F.keeps (up _)) (N.grown (up _)) (Nat.ne_of_lt F.ns.lt) (next_is_new F) (fun p hp => Nat.ne_of_lt (Heap.lt_size (N p hp).1)) h0 (turn _) ?_
    · rw [List.mem_singleton.mp hb]
      show s₁.heap.objs.size < (s₁.heap.push _).objs.size
      rw [Heap.size_push]; exact Nat.lt_succ_self _
    · intro D C h tk m' ys news' F' N' o1 hn hC₀ hD₀ hCL hDL hCD offC hJ
      refine ⟨m', hn, fun h'' hs'' => fin s₁.heap ys news' hJ D h'' tk (F'.change hs'' hCL hC₀) (fun p hp => ?_) o1⟩
      refine ⟨hs''.extBut _ _ ?_ (N' p hp).1, (N' p hp).2⟩
      rcases List.mem_cons.mp hp with rfl | hp
      · exact Ne.symm hCD
      · exact offC p hp

/-- the source of a comprehension is reached: a range by ones -/
noncomputable def CSrcR (prog : Program) (w : World) (A : Around) (h₀ : Heap) (L : Addr) (m : Str → Option Value) (env : Env) (elt target : PySem.Expr) (ifs : List PySem.Expr) (scope : Scope) (cl : List (Str × Addr)) (Fin : Shared → List Value → Led → Prop) (xv : Value) (s₁ : Shared) : Prop :=
  ∃ (r : Addr) (a b : Int) (t u v : Tok) (n : Nat) (news : Led) (J : Nat → List Value → Led → Prop), xv = .ref r ∧ A.handled = none ∧ Fr h₀ L s₁.heap m ∧ News h₀ L s₁.heap news ∧ IsRange s₁.heap r a b 1 t u v ∧ Builtin.Range.small a b 1 = true ∧ Builtin.Range.rangeSize a b 1 = ((n : Nat) : Int) ∧ n ≤ sizeLine ∧
    (∀ i ys nw, J i ys nw → ys.length ≤ i) ∧ J 0 [] news ∧ (∀ it v, letOwnedTupleGo target it v = pure ()) ∧
    (∀ g, CTurn prog w A h₀ L m env elt target ifs scope cl { s₁ with heap := g } n (fun i v => ∃ t, v = .int (a + (i : Int)) t) J) ∧ ∀ g ys nw, J n ys nw → Fin { s₁ with heap := g } ys nw
theorem my_ListComp_R {elt iter target : PySem.Expr} {ifs : List PySem.Expr} {scope : Scope} {cl : List (Str × Addr)} {pos : Pos} {Q : Value → Shared → Prop} (_F₀ : Fr h₀ L s.heap m)
    (hclos : closureFor scope env = pure cl) (hcell : ∀ y ∈ scope.names, y.2 ≠ .cell) (hkind : scope.kind = .function)
    (hnames : ∀ y ∈ scope.names, y.2 = .local → scope.names.lookup y.1 = some .local)
    (h : wpAny (model prog w) A (eval iter env) (CSrcR prog w A h₀ L m env elt target ifs scope cl (fun s₂ => FinE h₀ L m s₂ Q)) E s)
    (hs : ∀ x, foldedSetIterable iter env x = pure x := by intro _; rfl) :
    wpAny (model prog w) A (eval (.ListComp elt [⟨target, iter, ifs, 0⟩] scope pos) env) Q E s := by
  rw [eval_ListComp]
  refine wpAny_comprehension_free (use := none) rfl hs hclos hkind hnames (wpAny_mono h (fun xv s₁ h₁ => ?_) fun _ _ e => e)
  obtain ⟨r, a, b, t, u, v, n, news, J, rfl, hh, F, N, hr, hsm, hn, hsz, hlen, h0, hgo, turn, fin⟩ := h₁
  refine wpAny_pyIter_range hr hsm ?_
  refine my_block (range_walks hh a n) (fun i v s Q E st q => by rw [hgo]; exact wpAny_pure q) hsz (fun i h st => ⟨_, st⟩) J hlen
    (fun i h h' o ys nw st e e' k N J => by
      have st' : h.get? _ = some _ := st
      show h'.get? _ = some _
      rw [e', ← e]; exact st') hcell hkind (by show IsRangeIter _ _ _ _ _; rw [hn]; simpa using Heap.get?_push_size _ rfl) (fun b hb => ?_)
    (F.keeps fun _ _ e => Heap.get?_push_of_some _ e) (N.grown fun _ _ e => Heap.get?_push_of_some _ e) (Nat.ne_of_lt F.ns.lt) (next_is_new F) (fun p hp => Nat.ne_of_lt (Heap.lt_size (N p hp).1)) h0 (turn _) ?_
  · rw [List.mem_singleton.mp hb]
    show s₁.heap.objs.size < (s₁.heap.push _).objs.size
    rw [Heap.size_push]; exact Nat.lt_succ_self _
  · intro D C h tk m' ys news' F' N' o1 hn hC₀ hD₀ hCL hDL hCD offC hJ
    refine ⟨m', hn, fun h'' hs'' => fin s₁.heap ys news' hJ D h'' tk (F'.change hs'' hCL hC₀) (fun p hp => ?_) o1⟩
    refine ⟨hs''.extBut _ _ ?_ (N' p hp).1, (N' p hp).2⟩
    rcases List.mem_cons.mp hp with rfl | hp
    · exact Ne.symm hCD
    · exact offC p hp
end Comp

section Inv
open PyProof.Rows.LCg
variable {prog : Program} {w : World} {A : Around} {E : Value → Shared → Prop} {s : Shared} {h₀ : Heap} {L : Addr} {m : Str → Option Value} {env : Env}
/-- a for over the items of a list or tuple of the ledger, by an invariant -/
theorem items_inv {target : PySem.Expr} {body : List Stmt} {Q : Flow → Shared → Prop} {ws : List (Addr × String)} {keep : Led} {vs : List Value} {news : Led} (J : Nat → (Str → Option Value) → Led → Prop) (h0 : J 0 m news)
    (turn : ∀ i v m₁ nw h tk, vs[i]? = some v → J i m₁ nw → Fr h₀ env.locals h m₁ → AllObj ws (fun its => News h₀ env.locals h (its ++ nw) →
      wpAny (model prog w) A (assign target env v) (fun _ s₂ => wpAny (model prog w) A (execs body env) (UnrPostW h₀ env.locals { s with heap := h, toks := tk } its (fun m' n' => SubL keep n' ∧ J (i + 1) m' n') Q) E s₂) E { s with heap := h, toks := tk }))
    (done : ∀ m₁ nw h tk, J vs.length m₁ nw → Fr h₀ env.locals h m₁ → News h₀ env.locals h nw → Q .next { s with heap := h, toks := tk }) :
    ItemsRest prog w A E h₀ env target body Q s ws keep (vs.map .val) m news := by
  have go : ∀ r i m₁ nw, vs.drop i = r → i ≤ vs.length → J i m₁ nw → ItemsRest prog w A E h₀ env target body Q s ws keep (r.map .val) m₁ nw := by
    intro r
    induction r with
    | nil =>
      intro i m₁ nw e hi hJ
      refine ItemsRest.zero fun h tk F N => ?_
      have : vs.length ≤ i := List.drop_eq_nil_iff.mp e
      obtain rfl : i = vs.length := by omega
      exact done m₁ nw h tk hJ F N
    | cons v r ih =>
      intro i m₁ nw e hi hJ
      have hlt : i < vs.length := by
        rcases Nat.lt_or_ge i vs.length with h | h
        · exact h
        · rw [List.drop_eq_nil_of_le h] at e; cases e
      have hv : vs[i]? = some v := by
        rw [List.drop_eq_getElem_cons hlt] at e
        rw [List.getElem?_eq_getElem hlt, (List.cons.inj e).1]
      have hr : vs.drop (i + 1) = r := by
        rw [List.drop_eq_getElem_cons hlt] at e
        exact (List.cons.inj e).2
      refine ItemsRest.val fun h tk F => ?_
      have mono : ∀ (ws : List (Addr × String)) (k k' : Led → Prop), (∀ its, k its → k' its) → AllObj ws k → AllObj ws k' := by
        intro ws
        induction ws with
        | nil => intro k k' hk a; exact hk _ a
        | cons p ws ihw => intro k k' hk a o hc; exact ihw _ _ (fun its => hk _) (a o hc)
      refine mono _ _ _ (fun its hn N => ?_) (turn i v m₁ nw h tk hv hJ F)
      refine wpAny_mono (hn N) (fun _ s₂ h₂ => wpAny_mono h₂ (fun f s₃ p => ?_) fun _ _ e => e) fun _ _ e => e
      cases f with
      | ret v => exact p
      | brk => exact p
      | next =>
        obtain ⟨h', tk', m', news', e1, F', N', ne, hk, hJ'⟩ := p
        exact ⟨h', tk', m', news', e1, F', N', ne, hk, ih (i + 1) m' news' hr hlt hJ'⟩
      | cont =>
        obtain ⟨h', tk', m', news', e1, F', N', ne, hk, hJ'⟩ := p
        exact ⟨h', tk', m', news', e1, F', N', ne, hk, ih (i + 1) m' news' hr hlt hJ'⟩
  exact go vs 0 m news List.drop_zero (Nat.zero_le _) h0
/-- a for over a range, by an invariant -/
theorem range_inv {x : Str} {body : List Stmt} {Q : Flow → Shared → Prop} {I : Addr} {a : Int} {n : Nat} {news : Led} (J : Nat → (Str → Option Value) → Led → Prop) (h0 : J 0 m news)
    (turn : ∀ i m₁ nw t h tk, i < n → J i m₁ nw → Fr h₀ env.locals h (fun y => if y = x then some (.int (a + (i : Int)) t) else m₁ y) → News h₀ env.locals h ((I, itR (a + ((i + 1 : Nat) : Int)) ((n : Int) - ((i + 1 : Nat) : Int))) :: nw) →
      wpAny (model prog w) A (execs body env) (UnrPost h₀ env.locals { s with heap := h, toks := tk } I (itR (a + ((i + 1 : Nat) : Int)) ((n : Int) - ((i + 1 : Nat) : Int))) (J (i + 1)) Q) E { s with heap := h, toks := tk })
    (done : ∀ m₁ nw h tk, J n m₁ nw → Fr h₀ env.locals h m₁ → News h₀ env.locals h nw → Q .next { s with heap := h, toks := tk }) :
    RangeRest prog w A E h₀ env x body Q s I a n n 0 m news := by
  have go : ∀ k i m₁ nw, i + k = n → J i m₁ nw → RangeRest prog w A E h₀ env x body Q s I a n k i m₁ nw := by
    intro k
    induction k with
    | zero =>
      intro i m₁ nw e hJ
      refine RangeRest.zero fun h tk F N => done m₁ nw h tk (by rw [← e]; exact hJ) F N
    | succ k ih =>
      intro i m₁ nw e hJ
      refine RangeRest.succ fun t h tk F N => ?_
      refine wpAny_mono (turn i m₁ nw t h tk (by omega) hJ F N) (fun f s₃ p => ?_) fun _ _ e => e
      cases f with
      | ret v => exact p
      | brk => exact p
      | next =>
        obtain ⟨h', tk', m', news', e1, F', N', ne, hJ'⟩ := p
        exact ⟨h', tk', m', news', e1, F', N', ne, ih (i + 1) m' news' (by omega) hJ'⟩
      | cont =>
        obtain ⟨h', tk', m', news', e1, F', N', ne, hJ'⟩ := p
        exact ⟨h', tk', m', news', e1, F', N', ne, ih (i + 1) m' news' (by omega) hJ'⟩
  exact go n 0 m news (Nat.zero_add n) h0

/-- the block's name takes its item -/
theorem cassign1 {x : Str} {px : Pos} {scope : Scope} {cl : List (Str × Addr)} {v : Value} {I C D : Addr} {oI oC oD : Obj} {mC : Str → Option Value} {news : Led} {Q : Unit → Shared → Prop}
    (hC : NsObj oC mC) (F : Fr h₀ L s.heap m) (N : News h₀ L s.heap ((I, oI) :: (C, oC) :: (D, oD) :: news)) (off : Off3 I C D news) (ne : (@Ne Nat I C) ∧ (@Ne Nat I D) ∧ (@Ne Nat C D)) (hx : scope.names.lookup x = some .local) (hkind : scope.kind = .function)
    (next : ∀ h' tk' oC' mC', mC' x = some v → NsObj oC' mC' → Fr h₀ L h' m → News h₀ L h' ((I, oI) :: (C, oC') :: (D, oD) :: news) → Q () { s with heap := h', toks := tk' }) :
    wpAny (model prog w) A (assign (.Name x px) (compEnvC scope cl C env) v) Q E s := by
  have zC := N (C, oC) (.tail _ (.head _))
  refine wpAny_assign_Name (wpAny_storeName_local (lookup_relabel_local hx) (hC.ns zC.1) (fun h₃ hn₃ hs₃ => ?_) (by simp [compEnvC, relabel, hkind]))
  obtain ⟨oC', heC, hoC⟩ := ns_obj hn₃
  refine next h₃ _ oC' _ (by simp) hoC (F.change hs₃ zC.2.1 zC.2.2) fun p hp => ?_
  have off3 := off.mem
  rcases List.mem_cons.mp hp with rfl | hp
  · have z := N _ (.head _); exact ⟨hs₃.extBut _ _ ne.1 z.1, z.2⟩
  · rcases List.mem_cons.mp hp with rfl | hp
    · exact ⟨heC, zC.2⟩
    · have z := N p (.tail _ (.tail _ hp))
      refine ⟨hs₃.extBut _ _ ?_ z.1, z.2⟩
      rcases List.mem_cons.mp hp with rfl | hp
      · exact Ne.symm ne.2.2
      · exact (off3 p hp).2.1
noncomputable abbrev tupObj (its : List Value) (n : Nat) : Obj := { cls := .type "tuple", data := .seq its.toArray n }
/-- the block's two names take a pair's items -/
theorem cassign2 {x y : Str} {px py tp : Pos} {kk : Nat} {scope : Scope} {cl : List (Str × Addr)} {u v : Value} {T : Addr} {c : Nat} {I C D : Addr} {oI oC oD : Obj} {mC : Str → Option Value} {news : Led} {Q : Unit → Shared → Prop}
    (hh : A.handled = none) (hC : NsObj oC mC) (F : Fr h₀ L s.heap m) (N : News h₀ L s.heap ((I, oI) :: (C, oC) :: (D, oD) :: news)) (off : Off3 I C D news) (ne : (@Ne Nat I C) ∧ (@Ne Nat I D) ∧ (@Ne Nat C D)) (hT : (T, tupObj [u, v] c) ∈ news)
    (hx : scope.names.lookup x = some .local) (hy : scope.names.lookup y = some .local) (hxy : x ≠ y) (hkind : scope.kind = .function)
    (next : ∀ h' tk' oC' mC', mC' x = some u → mC' y = some v → NsObj oC' mC' → Fr h₀ L h' m → News h₀ L h' ((I, oI) :: (C, oC') :: (D, oD) :: news) → Q () { s with heap := h', toks := tk' }) :
    wpAny (model prog w) A (assign (.Tuple [.Name x px, .Name y py] kk tp) (compEnvC scope cl C env) (.ref T)) Q E s := by
  have zC := N (C, oC) (.tail _ (.head _))
  have zT := N _ (.tail _ (.tail _ (.tail _ hT)))
  refine kcp_assign (env := compEnvC scope cl C env) hh ⟨_, zT.1, rfl, _, rfl⟩ (lookup_relabel_local hx) (lookup_relabel_local hy) (by simp [compEnvC, relabel, hkind]) (hC.ns zC.1) fun h₃ tk₃ hn₃ hs₃ => ?_
  obtain ⟨oC', heC, hoC⟩ := ns_obj hn₃
  have F₃ : Fr h₀ L h₃ m := ⟨F.ns.at' fun o e => hs₃ _ o (Ne.symm zC.2.1) e, fun c o e => hs₃ c o (fun q => by rw [q] at e; exact absurd (e.symm.trans zC.2.2) (by simp)) (F.keep c o e), F.above⟩
  refine next h₃ _ oC' _ (by simp [hxy]) (by simp) hoC F₃ fun p hp => ?_
  have off3 := off.mem
  rcases List.mem_cons.mp hp with rfl | hp
  · have z := N _ (.head _); exact ⟨hs₃ _ _ ne.1 z.1, z.2⟩
  · rcases List.mem_cons.mp hp with rfl | hp
    · exact ⟨heC, zC.2⟩
    · have z := N p (.tail _ (.tail _ hp))
      refine ⟨hs₃ _ _ ?_ z.1, z.2⟩
      rcases List.mem_cons.mp hp with rfl | hp
      · exact Ne.symm ne.2.2
      · exact (off3 p hp).2.1
theorem endW {L I : Addr} {o : Obj} {rest : (Str → Option Value) → Led → Prop} {s₁ : Shared} {h' : Heap} {tk : Nat} {m' : Str → Option Value} {news' : Led} (F : Fr h₀ L h' m') (N : News h₀ L h' ((I, o) :: news'))
    (off : ∀ p ∈ news', p.1 ≠ I) (r : rest m' news') : UnrEndW h₀ L s₁ [(I, o)] rest { s₁ with heap := h', toks := tk } :=
  ⟨h', tk, m', news', rfl, F, N, fun p hp q hq => by rw [List.mem_singleton.mp hq]; exact off p hp, r⟩
end Inv

/-- the signs of texts, one behind the other -/
noncomputable def catL (ys : List Str) : List Nat := ys.flatMap (·.cps.toList)
theorem emptyStr : (Str.ofString "").cps = #[] := by decide +kernel
theorem join_nil (ys : List Str) : (Txt.join (Str.ofString "") ys).cps.toList = catL ys := by
  have go : ∀ (l : List Str) (acc : Array Nat), (l.foldl (fun acc p => acc ++ (Str.ofString "").cps ++ p.cps) acc).toList = acc.toList ++ catL l := by
    intro l
    induction l with
    | nil => intro acc; simp [catL]
    | cons a r ih =>
      intro acc
      rw [List.foldl_cons, ih]
      rw [emptyStr]
      simp [catL, List.append_assoc]
  show (((ys.drop 1).foldl (fun acc p => acc ++ (Str.ofString "").cps ++ p.cps) (ys.headD Str.empty).cps)).toList = _
  rw [go]
  cases ys with
  | nil => simp [catL, Str.empty]
  | cons a r => simp [catL]
theorem emptyStr_len : (Str.ofString "").length = 0 := by decide +kernel
theorem my_join {prog : Program} {w : World} {A : Around} {E : Value → Shared → Prop} {s : Shared} {h₀ : Heap} {L D : Addr} {led : Led} {vs : List Value} {yS : List Str} {x : Str} {t : Tok} {Q : Value → Shared → Prop}
    (N : News h₀ L s.heap led) (hm : (D, LCg.lst vs) ∈ led) (hi : StrsAre vs yS) (hok : (yS.map (·.length)).sum + yS.length * x.length ≤ 16777216)
    (h : ∀ t' k, Q (.str (Txt.join x yS) t') { s with toks := k }) : wpAny (model prog w) A (call (.builtin "str.join") [.str x t, .ref D]) Q E s :=
  join_list (items := vs.toArray) ⟨_, (N _ hm).1, rfl, _, rfl⟩ (by simpa using hi) hok h
theorem catL_len {ys : List Str} {b : Nat} (h : ∀ y ∈ ys, y.cps.size ≤ b) : (catL ys).length ≤ b * ys.length := by
  induction ys with
  | nil => simp [catL]
  | cons a r ih =>
    have h1 := h a (.head _)
    have h2 := ih fun y hy => h y (.tail _ hy)
    simp only [catL, List.flatMap_cons, List.length_append, Array.length_toList, List.length_cons] at h2 ⊢
    rw [Nat.mul_succ]
    omega
theorem strs_snoc {y : Str} {t : Tok} : ∀ {vs : List Value} {ys : List Str}, StrsAre vs ys → StrsAre (vs ++ [.str y t]) (ys ++ [y])
  | _, _, .nil => .cons y t .nil
  | _, _, .cons a u h => .cons a u (strs_snoc h)
theorem sum_len_le {ys : List Str} {b : Nat} (h : ∀ y ∈ ys, y.cps.size ≤ b) : (ys.map (·.length)).sum ≤ b * ys.length := by
  induction ys with
  | nil => simp
  | cons a r ih =>
    have h1 := h a (.head _)
    have h2 := ih fun y hy => h y (.tail _ hy)
    simp only [List.map_cons, List.sum_cons, List.length_cons] at h2 ⊢
    rw [Nat.mul_succ]
    have : a.length = a.cps.size := rfl
    omega
local macro_rules | `(tactic| k_enter) => `(tactic| first
  | (refine' code_def ?k1 ?k2 ?k3 ?k4 ?k5 ?kA ?kF ?kK ?k6 ?k7 ?k8 ?k9 ?kB ?_ ?c2 ?c3 ?c4 ?c5; (case kA => exact rfl); (case kF => exact rfl); (case kK => first | exact rfl | assumption); (case k1 => k_asm); (case k2 => k_asm); (case k3 => k_asm); (case k4 => k_asm); (case k5 => k_asm); (case k6 => k_is); (case k7 => k_is); (case k8 => ktr_room); (case k9 => first | exact BindsTo.of_eq rfl | exact binds_K (by k_in) rfl (by k_is) rfl rfl rfl); (case c5 => decide); (case kB => exact locs rfl); (case c2 => exact rfl); (case c3 => exact rfl); (case c4 => exact rfl); k_whole; intro g' L' h' FG' F' N' B' X' T'; (try dsimp only); (try k_lift B'); (try k_fold))
  | (refine' code_defC ?k1 ?k2 ?k3 ?k4 ?k5 ?kA ?kF ?kK ?k6 ?k7 ?k8 ?k9 ?kB ?kD ?_ ?c2 ?c3 ?c4; (case kA => exact rfl); (case kF => exact rfl); (case kK => first | exact rfl | assumption); (case k1 => k_asm); (case k2 => k_asm); (case k3 => k_asm); (case k4 => k_asm); (case k5 => k_asm); (case k6 => k_is); (case k7 => k_is); (case k8 => ktr_room); (case k9 => first | exact BindsTo.of_eq rfl | exact binds_K (by k_in) rfl (by k_is) rfl rfl rfl); (case kB => exact rfl); (case kD => decide +kernel); (case c2 => exact rfl); (case c3 => exact rfl); (case c4 => exact rfl); k_whole; intro g' L' h' tk' cells' FG' F' N' Y' B' X' T' l1; (try k_lt l1); (first | (have hY := CellsAre.one Y'; obtain ⟨oc1, hE', dc1⟩ := hY; subst hE'; clear Y') | (have hY := CellsAre.two Y'; obtain ⟨oc1, oc2, hE', dc1, dc2⟩ := hY; subst hE'; clear Y')); (try simp only [List.cons_append, List.nil_append] at N'); (try dsimp only); (try k_lift B'); (try k_fold)))
local macro_rules | `(tactic| walk_at "newList") => `(tactic| (k_here; k_dflt (refine' newList_K ?k1 ?k2 ?_; (case k1 => k_asm); (case k2 => k_asm); k_whole); intro l' h' F' N' l1; (try k_lt l1); (try k_sweep)))
local macro_rules | `(tactic| walk_at "storeName") => `(tactic| (k_here; k_dflt (first
  | (refine' storeX_L ?F ?N ?_ ?a ?b; (case F => k_asm); (case N => k_asm); (case a => rfl); (case b => rfl); k_whole; intro h' F' N'; (try k_sweep))
  | (refine' storeX_C ?F ?N ?c ?U ?d ?_ ?a ?b; (case a => rfl); (case b => rfl); (case F => k_asm); (case N => k_asm); (case c => rfl); (case U => k_updF); (case d => k_asm); k_whole; intro h' oc' F' N' dc'; (try dsimp only at N'); (try k_sweep)))))
local macro_rules | `(tactic| walk_at "call ref") => `(tactic| ((with_reducible refine at_call 325 ?_); k_dflt (open_k with (one_upd _ _ _ _ _ _ _ _ _ ?a1 ?a2 ?a3 ?a6 ?a7 ?a4 ?a5); walk_at "s3"; (case a6 => k_mem); (case a7 => first | assumption | (refine neN ?_; omega)); walk_at "d5"; walk_at "kB"); walk_at "kI"; obtain ⟨hr9, vs9, ns9, n9, rfl, hi9, hs9⟩ := P9; walk_at "kS"))
section
variable {w : World} {p : Program} {loose : List Str} {mean : ExcName → Option Value} {mg mb : Str → Option Value}
theorem one_upd (led : Led) (led' : Obj → Led) (src th : Addr) (vs : List Value) (ns : List Int) (n : Nat) (ths : List Value) (c : Nat) (U : ∀ o', Upd src (listOf vs.toArray n) o' led (led' o')) (hi : IntsAre vs ns) (hs : SrcOk ns) (hm : (th, listOf ths.toArray c) ∈ led) (hth : th ≠ src) (h1 : 0 < ths.length) (h2 : ths.length ≤ 100) :
    KC w p loose mean mg mb 325 [.ref src, .ref th] led 2
      (fun r l => r ∈ ths ∧ ∃ vs' ns' n', l = led' (listOf vs'.toArray n') ∧ IntsAre vs' ns' ∧ SrcOk ns') := by
  intro dp un gd cn cs ad ccd cl outer A₀ base h₀ L m s Q E B F X N T hk hd hu hret
  refine one_ok (off src led) src th vs ns n ths c hi hs off_ne hth h1 h2 _ _ _ _ _ _ _ _ _ _ _ _ _ _ _ _ _ B F X (news_sub N fun q hq => ?_) T hk hd hu ?_
  · rcases List.mem_cons.mp hq with rfl | hq
    · exact upd_in (U default)
    · rcases List.mem_cons.mp hq with rfl | hq
      · exact hm
      · exact off_sub q hq
  · rintro r _ h' tk' F' N' ⟨hr, vs', ns', n', rfl, hi', hs'⟩
    refine hret _ _ _ _ F' (news_sub N' fun q hq => ?_) ⟨hr, vs', ns', n', rfl, hi', hs'⟩
    rcases upd_mem (U _) q hq with rfl | ⟨a, b⟩
    · exact .head _
    · exact .tail _ (.tail _ (off_mem a b))
/-- a text's sign or piece as the law takes it: at most three signs -/
noncomputable def ShortStr (v : Value) : Prop := ∃ x t, v = .str x t ∧ x.cps.size ≤ 3
theorem range7 {x : Int} (h0 : 0 ≤ x) (h1 : x < 7) : Builtin.Range.small 0 x 1 = true ∧ Builtin.Range.rangeSize 0 x 1 = ((x.toNat : Nat) : Int) := by
  have : x = 0 ∨ x = 1 ∨ x = 2 ∨ x = 3 ∨ x = 4 ∨ x = 5 ∨ x = 6 := by omega
  rcases this with rfl | rfl | rfl | rfl | rfl | rfl | rfl <;> exact ⟨by decide, by decide⟩
section
local macro_rules | `(tactic| walk_at "eval ListComp") => `(tactic| (k_here; refine Halt.out ?_))
theorem gen_list {h₀ h : Heap} {L l : Addr} {its : Array Value} {k : Nat} {r : Led} (N : News h₀ L h ((l, listOf its k) :: r)) (P : List Value → Prop) (hP : P its.toList) : ∃ ths : List Value, P ths ∧ News h₀ L h ((l, listOf ths.toArray k) :: r) :=
  ⟨its.toList, hP, by simpa using N⟩
theorem short_of {x : Str} {t : Tok} (h : x.cps.size ≤ 3) : ShortStr (.str x t) := ⟨x, t, rfl, h⟩
theorem text_ok (news : Led) (src : Addr) (vs : List Value) (ns : List Int) (n : Nat) (hi : IntsAre vs ns) (hs : SrcOk ns) (hne : ∀ p ∈ news, p.1 ≠ src) :
    KC w p loose mean mg mb 349 [.ref src] ((src, listOf vs.toArray n) :: news) 4
      (fun r led' => (∃ x t, r = .str x t ∧ x.cps.size ≤ 18) ∧ ∃ vs' ns' n', led' = (src, listOf vs'.toArray n') :: news ∧ IntsAre vs' ns' ∧ SrcOk ns') := by
  unfold KC
  intro dp un gd cn cs ad ccd cl outer A₀ base h₀ L m s Q E B F X N T hk hd hu hret
  refine wpAny_call ?_
  k_dflt k_enter
  k_steps
  unfold Halt
  obtain ⟨ths, ⟨hths, hl12⟩, N2⟩ := gen_list N' (fun l => (∀ y ∈ l, ShortStr y) ∧ l.length = 12) (by
    refine ⟨?_, rfl⟩
    intro y hy
    repeat' (first | (rcases List.mem_cons.mp hy with rfl | hy; exact short_of (by decide +kernel)) | cases hy))
  clear N'
  k_dflt (refine my_ListComp_R (by k_asm) (by rfl) (by decide) (by rfl) (by decide) ?_)
  k_steps
  rename IsRange _ _ _ _ _ _ _ _ => hR
  refine ⟨_, _, _, _, _, _, x9.toNat, _, fun i ys nw => ∃ yS vs ns n, StrsAre ys yS ∧ (∀ y ∈ yS, y.cps.size ≤ 3) ∧ yS.length = i ∧ ys.length = i ∧ nw = (l', listOf ths.toArray 0) :: (L' + 1 + 1, oc') :: (L' + 1, oc2) :: (src, listOf vs.toArray n) :: news ∧ IntsAre vs ns ∧ SrcOk ns,
    rfl, rfl, by k_asm, by k_asm, hR, ?_, ?_, ?_, ?_, ⟨[], vs9, ns9, n9, .nil, by simp, rfl, rfl, rfl, hi9, hs9⟩, fun _ _ => rfl, ?_, ?_⟩
  · exact (range7 hx0 hx1).1
  · exact (range7 hx0 hx1).2
  · have := sizeLine_eq; omega
  · rintro i ys nw ⟨yS, vs, ns, n, h1, h2, h3, h4, _⟩; omega
  · intro g i v ys nw I oI C oC D mC h tk E' hi hv ⟨yS, vs, ns, n, h1, h2, h3, h4, hnw, h5, h6⟩ hC F1 N1 off1 ne1
    subst hnw
    simp only [LCg.Off3] at off1
    refine cassign1 hC F1 N1 off1 ne1 rfl rfl ?_
    intro h2' tk2' oC2 mC2 hm2 hC2 F2 N2
    refine wpAny_tests_nil ?_
    simp only [if_true]
    clear F1 N1
    k_steps
    obtain ⟨xr, tr, rfl, hxr⟩ := hths r9 hr9
    refine CEnd.intro _ hC2 F9 N9 (by simp only [LCg.Off3]; exact off1) ⟨yS ++ [xr], vs9, ns9, n9, strs_snoc h1, ?_, by simp [h3], by simp [h4], rfl, hi9, hs9⟩
    intro y hy
    rcases List.mem_append.mp hy with hy | hy
    · exact h2 y hy
    · rw [List.mem_singleton.mp hy]; exact hxr
  · rintro g ys nw ⟨yS, vs, ns, n, h1, h2, h3, h4, hnw, h5, h6⟩
    subst hnw
    intro D h tk F1 N1 o1
    k_steps
    have hsz := sum_len_le h2
    refine my_join N1 (.head _) h1 ?_ ?_
    · rw [emptyStr_len]; omega
    intro t' k'
    k_steps
    refine hret _ _ _ _ (by k_asm) (news_sub (by with_reducible assumption) ?_) ⟨⟨_, _, rfl, ?_⟩, vs, ns, n, rfl, h5, h6⟩
    · intro q hq; simp only [List.mem_cons] at hq ⊢; simp only [hq, true_or, or_true]
    · have e := congrArg List.length (join_nil yS)
      have e2 := catL_len h2
      rw [Array.length_toList] at e
      rw [e]; omega
end
end

section
variable {w : World} {p : Program} {loose : List Str} {mean : ExcName → Option Value} {mg mb : Str → Option Value}
theorem text_upd (led : Led) (led' : Obj → Led) (src : Addr) (vs : List Value) (ns : List Int) (n : Nat) (U : ∀ o', Upd src (listOf vs.toArray n) o' led (led' o')) (hi : IntsAre vs ns) (hs : SrcOk ns) :
    KC w p loose mean mg mb 349 [.ref src] led 4
      (fun r l => ∃ x t vs' ns' n', r = .str x t ∧ x.cps.size ≤ 18 ∧ l = led' (listOf vs'.toArray n') ∧ IntsAre vs' ns' ∧ SrcOk ns') := by
  intro dp un gd cn cs ad ccd cl outer A₀ base h₀ L m s Q E B F X N T hk hd hu hret
  refine text_ok (off src led) src vs ns n hi hs off_ne _ _ _ _ _ _ _ _ _ _ _ _ _ _ _ _ _ B F X (news_sub N fun q hq => ?_) T hk hd hu ?_
  · rcases List.mem_cons.mp hq with rfl | hq
    · exact upd_in (U default)
    · exact off_sub q hq
  · rintro r _ h' tk' F' N' ⟨⟨x, t, rfl, hx⟩, vs', ns', n', rfl, hi', hs'⟩
    refine hret _ _ _ _ F' (news_sub N' fun q hq => ?_) ⟨x, t, vs', ns', n', rfl, hx, rfl, hi', hs'⟩
    rcases upd_mem (U _) q hq with rfl | ⟨a, b⟩
    · exact .head _
    · exact .tail _ (off_mem a b)
theorem big0 {x : Int} (h : (10 : Int) ^ Int.toNat 18 ≤ x) : 0 ≤ x := Int.le_trans (by decide) h
theorem pool_ok (led : Led) (l : Addr) (vs : List Value) (ns : List Int) (hi : IntsAre vs ns) (hfit : ns.length ≤ 63)
    (dp un : Nat) (gd : Option (List Code)) (cn : Str) (cs : Scope) (a : Addr) (ccd : Value) (cl : List (Str × Addr)) (outer : List Env) (A₀ : Around) (base h₀ : Heap) (L : Addr) (m : Str → Option Value) (s : Shared) (Q E : Value → Shared → Prop)
    (B : Below A₀ base outer h₀) (F : Fr h₀ L s.heap m) (X : (hd.heap_1 w.params).In h₀) (N : News h₀ L s.heap led) (T : Top p loose mean mg mb h₀) (hk : cs.kind = .function) (hd : dp + 1 < recursionLimit) (hu : un + 8 * 1 < cLine)
    (hl : base.IsList l vs.toArray)
    (hret : ∀ (src : Addr) (vs' : List Value) (ns' : List Int) (n : Nat) (h' : Heap) (tk' : Nat), Fr h₀ L h' m → News h₀ L h' ((src, listOf vs'.toArray n) :: led) → (∀ q ∈ led, q.1 < src) → IntsAre vs' ns' → SrcOk ns' → Q (.ref src) { s with heap := h', toks := tk' }) :
    wpAny (model PG w) (ktrTop dp un gd cn cs L a ccd cl outer) (call (.ref 311) [.ref l]) Q E s := by
  have hln : (ns.length : Int) ≤ 63 := by omega
  refine wpAny_call ?_
  k_dflt k_enter
  k_steps
  all_goals (refine hret _ _ _ _ _ _ (by k_asm) (by k_asm) l1 (.cons _ _ (.cons _ _ .nil)) ⟨_, _, rfl, ?_, fmod_lo _ (by decide), fmod_hi _ (by decide)⟩)
  all_goals first
    | exact Int.le_refl 0
    | exact big0 (by with_reducible assumption)
end

/-- pairs of texts, as the ledger bears them: tuples of two texts whose tokens are those of two constants -/
noncomputable def PairsIn (led : Led) (vs : List Value) (ps : List (Str × Str)) : Prop :=
  vs.length = ps.length ∧ ∀ (i : Nat) (y z : Str), ps[i]? = some (y, z) → ∃ a u v c, vs[i]? = some (Value.ref a) ∧ (a, tupObj [Value.str y u, Value.str z v] c) ∈ led ∧ u ≠ 0 ∧ v ≠ 0 ∧ u ≠ v
/-- one text after the other put for another -/
noncomputable def repl (x : Str) (ps : List (Str × Str)) : Str := ps.foldl (fun x p => Txt.replace x p.1 p.2) x
theorem repl_snoc {x : Str} {ps : List (Str × Str)} {i : Nat} {y z : Str} (h : ps[i]? = some (y, z)) : repl x (ps.take (i + 1)) = Txt.replace (repl x (ps.take i)) y z := by
  unfold repl
  rw [List.take_add_one, h, List.foldl_append]
  rfl
/-- a sign put for signs -/
noncomputable def sub1 (c : Nat) (z : List Nat) (l : List Nat) : List Nat := l.flatMap fun k => if k = c then z else [k]
theorem sub1_append (c : Nat) (z a b : List Nat) : sub1 c z (a ++ b) = sub1 c z a ++ sub1 c z b := by simp [sub1]
theorem sub1_free (c : Nat) (z : List Nat) : ∀ l : List Nat, c ∉ l → sub1 c z l = l
  | [], _ => rfl
  | k :: r, h => by
    have h1 : ¬ k = c := fun e => h (e ▸ List.mem_cons_self ..)
    show (if k = c then z else [k]) ++ sub1 c z r = k :: r
    rw [if_neg h1, sub1_free c z r fun m => h (List.mem_cons_of_mem _ m)]
    rfl
theorem sub1_join (c : Nat) (z : Str) : ∀ parts : List Str, (∀ q ∈ parts, c ∉ q.cps.toList) → sub1 c z.cps.toList (Str.join ⟨#[c]⟩ parts).cps.toList = (Str.join z parts).cps.toList
  | [], _ => rfl
  | [q], h => sub1_free c _ _ (h q (List.mem_singleton.mpr rfl))
  | q :: q' :: r, h => by
    have ih := sub1_join c z (q' :: r) fun a ha => h a (List.mem_cons_of_mem _ ha)
    show sub1 c z.cps.toList (q ++ ⟨#[c]⟩ ++ Str.join ⟨#[c]⟩ (q' :: r)).cps.toList = (q ++ z ++ Str.join z (q' :: r)).cps.toList
    simp only [Str.cps_append, Array.toList_append]
    rw [sub1_append, sub1_append, ih, sub1_free c _ _ (h q (List.mem_cons_self ..))]
    show q.cps.toList ++ sub1 c z.cps.toList [c] ++ _ = _
    have : sub1 c z.cps.toList [c] = z.cps.toList := by simp [sub1]
    rw [this]
theorem replace_sub (x z : Str) (c : Nat) : (Txt.replace x ⟨#[c]⟩ z).cps.toList = sub1 c z.cps.toList x.cps.toList := by
  rw [StrLaws.replace_one, ← sub1_join c z _ (StrLaws.split_free x c), StrLaws.join_split]
theorem sub1_len (c : Nat) (z : List Nat) (n : Nat) (hn : 1 ≤ n) (hz : z.length ≤ n) : ∀ l : List Nat, (sub1 c z l).length ≤ n * l.length
  | [] => Nat.zero_le _
  | k :: r => by
    have ih := sub1_len c z n hn hz r
    show ((if k = c then z else [k]) ++ sub1 c z r).length ≤ n * (r.length + 1)
    rw [List.length_append, Nat.mul_succ]
    have : (if k = c then z else [k]).length ≤ n := by split; exact hz; exact hn
    omega
theorem repl_len {ps : List (Str × Str)} (hps : ∀ q ∈ ps, (∃ c, q.1 = ⟨#[c]⟩) ∧ q.2.length ≤ 6 ∧ (q.1 == q.2) = false) : ∀ x : Str, (repl x ps).length ≤ x.length * 6 ^ ps.length := by
  induction ps with
  | nil => intro x; simp [repl]
  | cons q r ih =>
    intro x
    obtain ⟨⟨c, hc⟩, h6, _⟩ := hps q (.head _)
    have h1 := ih (fun a ha => hps a (.tail _ ha)) (Txt.replace x q.1 q.2)
    have h2 : (Txt.replace x q.1 q.2).length ≤ 6 * x.length := by
      have e := congrArg List.length (replace_sub x q.2 c)
      rw [Array.length_toList] at e
      have e2 := sub1_len c q.2.cps.toList 6 (by decide) (by rw [Array.length_toList]; exact h6) x.cps.toList
      rw [hc]
      show (Txt.replace x ⟨#[c]⟩ q.2).cps.size ≤ 6 * x.cps.size
      rw [e]
      rw [Array.length_toList] at e2
      exact e2
    show (repl (Txt.replace x q.1 q.2) r).length ≤ x.length * 6 ^ (r.length + 1)
    refine Nat.le_trans h1 ?_
    rw [Nat.pow_succ, Nat.mul_comm (6 ^ r.length) 6, ← Nat.mul_assoc, Nat.mul_comm x.length 6]
    exact Nat.mul_le_mul_right _ h2
theorem replW {prog : Program} {w : World} {A : Around} {E : Value → Shared → Prop} {s : Shared} {x y z : Str} {t u v : Tok} {Q : Value → Shared → Prop} (n : Nat) (hn : n ≤ s.toks) (hu : u ≠ 0) (hv : v ≠ 0) (huv : u ≠ v) (hyz : (y == z) = false) (hx : x.length ≤ 1048576) (hz : z.length ≤ 14)
    (hq : ∀ t' k, n ≤ k → Q (.str (Txt.replace x y z) t') { s with toks := k }) : wpAny (model prog w) A (call (.builtin "str.replace") [.str x t, .str y u, .str z v]) Q E s :=
  wpAny_with_toks hn (SC.replaceW hu hv huv hyz hx hz fun t' k => hq t' k)
local macro_rules | `(tactic| k_mem) => `(tactic| first | exact List.Mem.head _ | with_reducible assumption | (refine' List.mem_cons_of_mem _ ?_; k_mem))
local macro_rules | `(tactic| walk_at "eval Name") => `(tactic| (k_here; k_dflt (refine' nameX_L ?F ?v ?_ ?a ?b; (case F => k_asm); (case a => rfl); (case b => rfl); (case v => assumption); k_whole)))
local macro_rules | `(tactic| walk_at "execs cons") => `(tactic| (k_here; (with_reducible show wpAny _ _ _ _ _ (Shared.mk _ _ _ (_ + 1) _)); refine gen_toks 1 (Nat.le_add_left _ _) ?_; intro tk htk))
section
variable {w : World} {p : Program} {loose : List Str} {mean : ExcName → Option Value} {mg mb : Str → Option Value}
section
local macro_rules | `(tactic| walk_at "exec For") => `(tactic| (k_here; refine Halt.out ?_))
theorem replaced_ok (led : Led) (x : Str) (t : Tok) (pr : Addr) (vs : List Value) (c : Nat) (ps : List (Str × Str)) (hpr : (pr, tupObj vs c) ∈ led) (hP : PairsIn led vs ps) (hx : x.length ≤ 18) (hlen : ps.length ≤ 6)
    (hps : ∀ q ∈ ps, (∃ c, q.1 = ⟨#[c]⟩) ∧ q.2.length ≤ 6 ∧ (q.1 == q.2) = false) :
    KC w p loose mean mg mb 60 [.str x t, .ref pr] led 1 (fun r l => ∃ u, r = .str (repl x ps) u ∧ l = led) := by
  intro dp un gd cn cs ad ccd cl outer A₀ base h₀ L m s Q E B F X N T hk hd hu hret
  refine wpAny_call ?_
  k_dflt k_enter
  k_steps
  unfold Halt
  k_dflt (refine For_turns F' ?_)
  walk1
  refine iter_tupTurns (vs := vs) (lo := tupObj vs c) rfl F' N' hpr rfl rfl (fun I hI => items_inv (fun i m₁ nw => led = nw ∧ ∃ t', m₁ (Str.ofString "text") = some (.str (repl x (ps.take i)) t')) ⟨rfl, t, rfl⟩ ?_ ?_)
  · rintro i v m₁ nw h tk' hv ⟨rfl, t', ht'⟩ F1
    refine AllObj.cons fun o1 hc1 => AllObj.nil fun N1 => ?_
    simp only [List.cons_append, List.nil_append] at N1
    have hi : i < ps.length := by
      have : i < vs.length := by
        rcases Nat.lt_or_ge i vs.length with h | h
        · exact h
        · rw [List.getElem?_eq_none h] at hv; cases hv
      have := hP.1; omega
    obtain ⟨a1, u1, v1, c1, e1, hm1, hu1, hv1, huv1⟩ := hP.2 i (ps[i]).1 (ps[i]).2 (List.getElem?_eq_getElem hi)
    obtain rfl : v = .ref a1 := Option.some.inj (hv.symm.trans e1)
    have hps1 := hps _ (List.getElem_mem hi)
    replace F1 : Fr g' L' h m₁ := F1
    replace N1 : News g' L' h ((I, o1) :: led) := N1
    k_steps
    have hle : (repl x (ps.take i)).length ≤ 1048576 := by
      have h1 := repl_len (ps := ps.take i) (fun q hq => hps q (List.mem_of_mem_take hq)) x
      have h2 : (ps.take i).length ≤ 6 := by rw [List.length_take]; omega
      have h3 : 6 ^ (ps.take i).length ≤ 6 ^ 6 := Nat.pow_le_pow_right (by decide) h2
      have h4 : x.length * 6 ^ (ps.take i).length ≤ 18 * 6 ^ 6 := Nat.mul_le_mul hx h3
      have h5 : 18 * 6 ^ 6 ≤ 1048576 := by decide
      omega
    refine replW 1 htk hu1 hv1 huv1 hps1.2.2 hle (by omega) ?_
    intro t2 k2 hk2
    k_steps
    refine endW (by k_asm) (by k_asm) (fun q hq => Nat.ne_of_lt (hI q hq)) ⟨⟨hpr, trivial⟩, rfl, t2, ?_⟩
    rw [repl_snoc (List.getElem?_eq_getElem hi)]
    rfl
  · rintro m₁ nw h tk' ⟨rfl, t', ht'⟩ F1 N1
    have e0 : ps.take vs.length = ps := by rw [hP.1, List.take_length]
    rw [e0] at ht'
    replace F1 : Fr g' L' h m₁ := F1
    replace N1 : News g' L' h led := N1
    k_steps
    exact hret _ _ _ _ (by k_asm) (by k_asm) ⟨_, rfl, rfl⟩
end
end

theorem le_len {a n : Nat} (h : Nat.ble 1 n = true) : 1 ≤ a + n := by have := Nat.le_of_ble_eq_true h; omega
theorem PairsIn.nil {led : Led} : PairsIn led [] [] := ⟨rfl, fun i y z h => by simp at h⟩
theorem PairsIn.cons {led : Led} {a : Addr} {u v : Tok} {c : Nat} {y z : Str} {vs : List Value} {ps : List (Str × Str)} (hm : (a, tupObj [Value.str y u, Value.str z v] c) ∈ led) (hu : u ≠ 0) (hv : v ≠ 0) (huv : u ≠ v) (h : PairsIn led vs ps) :
    PairsIn led (.ref a :: vs) ((y, z) :: ps) := by
  refine ⟨by rw [List.length_cons, List.length_cons, h.1], fun i y' z' e => ?_⟩
  cases i with
  | zero =>
    obtain ⟨rfl, rfl⟩ := Prod.mk.inj (Option.some.inj e)
    exact ⟨a, u, v, c, rfl, hm, hu, hv, huv⟩
  | succ i => exact h.2 i y' z' e
noncomputable abbrev textPairs : List (Str × Str) := [(Str.ofString "&", Str.ofString "&amp;"), (Str.ofString "<", Str.ofString "&lt;"), (Str.ofString ">", Str.ofString "&gt;"), (Str.ofString "\r", Str.ofString "&#xD;")]
noncomputable abbrev valuePairs : List (Str × Str) := [(Str.ofString "&", Str.ofString "&amp;"), (Str.ofString "<", Str.ofString "&lt;"), (Str.ofString "\"", Str.ofString "&quot;"), (Str.ofString "\t", Str.ofString "&#x9;"), (Str.ofString "\n", Str.ofString "&#xA;"), (Str.ofString "\r", Str.ofString "&#xD;")]
noncomputable abbrev plainPairs : List (Str × Str) := [(Str.ofString "\r", Str.ofString "&#xD;")]
noncomputable abbrev PairOk (q : Str × Str) : Prop := (∃ c, q.1 = ⟨#[c]⟩) ∧ q.2.length ≤ 6 ∧ (q.1 == q.2) = false
theorem pairOk_amp : PairOk (Str.ofString "&", Str.ofString "&amp;") := ⟨⟨38, by decide +kernel⟩, by decide +kernel, by decide +kernel⟩
theorem pairOk_lt : PairOk (Str.ofString "<", Str.ofString "&lt;") := ⟨⟨60, by decide +kernel⟩, by decide +kernel, by decide +kernel⟩
theorem pairOk_gt : PairOk (Str.ofString ">", Str.ofString "&gt;") := ⟨⟨62, by decide +kernel⟩, by decide +kernel, by decide +kernel⟩
theorem pairOk_quot : PairOk (Str.ofString "\"", Str.ofString "&quot;") := ⟨⟨34, by decide +kernel⟩, by decide +kernel, by decide +kernel⟩
theorem pairOk_tab : PairOk (Str.ofString "\t", Str.ofString "&#x9;") := ⟨⟨9, by decide +kernel⟩, by decide +kernel, by decide +kernel⟩
theorem pairOk_nl : PairOk (Str.ofString "\n", Str.ofString "&#xA;") := ⟨⟨10, by decide +kernel⟩, by decide +kernel, by decide +kernel⟩
theorem pairOk_cr : PairOk (Str.ofString "\r", Str.ofString "&#xD;") := ⟨⟨13, by decide +kernel⟩, by decide +kernel, by decide +kernel⟩
theorem allPairs_nil : ∀ q ∈ ([] : List (Str × Str)), PairOk q := fun _ h => nomatch h
theorem allPairs_cons {a : Str × Str} {l : List (Str × Str)} (h : PairOk a) (hl : ∀ q ∈ l, PairOk q) : ∀ q ∈ a :: l, PairOk q := fun q hq => by
  rcases List.mem_cons.mp hq with rfl | hq
  · exact h
  · exact hl q hq
theorem textOk : ∀ q ∈ textPairs, PairOk q := allPairs_cons pairOk_amp (allPairs_cons pairOk_lt (allPairs_cons pairOk_gt (allPairs_cons pairOk_cr allPairs_nil)))
theorem valueOk : ∀ q ∈ valuePairs, PairOk q := allPairs_cons pairOk_amp (allPairs_cons pairOk_lt (allPairs_cons pairOk_quot (allPairs_cons pairOk_tab (allPairs_cons pairOk_nl (allPairs_cons pairOk_cr allPairs_nil)))))
theorem plainOk : ∀ q ∈ plainPairs, PairOk q := allPairs_cons pairOk_cr allPairs_nil
section
variable {w : World} {p : Program} {loose : List Str} {mean : ExcName → Option Value} {mg mb : Str → Option Value}
section
local macro_rules | `(tactic| walk_at "call ref") => `(tactic| (with_reducible refine halt_call 60 ?_))
local macro_rules | `(tactic| walk_at "none") => `(tactic| skip)
theorem ctext_ok (led : Led) (x : Str) (t : Tok) (hx : x.length ≤ 18) :
    KC w p loose mean mg mb 67 [.str x t] led 2 (fun r l => ∃ u, r = .str (repl x textPairs) u ∧ l = led) := by
  intro dp un gd cn cs ad ccd cl outer A₀ base h₀ L m s Q E B F X N T hk hd hu hret
  refine wpAny_call ?_
  k_dflt k_enter
  (with_reducible refine gen_toks 1 ?htk ?_)
  (case htk => exact le_len rfl)
  intro tk0 htk0
  k_steps
  unfold Halt
  k_dflt (refine' KC.use (replaced_ok _ _ _ _ _ _ textPairs ?m ?P hx (by decide) textOk) ?k1 ?k2 ?k3 ?k4 ?k5 rfl ?k7 ?k8 ?_)
  (case k1 => k_asm)
  (case k2 => k_asm)
  (case k3 => k_asm)
  (case k4 => k_asm)
  (case k5 => k_asm)
  (case k7 => ktr_room)
  (case k8 => ktr_units)
  (case m => k_mem)
  (case P =>
    refine' PairsIn.cons ?mm ?u1 ?u2 ?u3 ?_; (case mm => k_mem); (case u1 => k_ne); (case u2 => k_ne); (case u3 => k_ne)
    refine' PairsIn.cons ?mm ?u1 ?u2 ?u3 ?_; (case mm => k_mem); (case u1 => k_ne); (case u2 => k_ne); (case u3 => k_ne)
    refine' PairsIn.cons ?mm ?u1 ?u2 ?u3 ?_; (case mm => k_mem); (case u1 => k_ne); (case u2 => k_ne); (case u3 => k_ne)
    refine' PairsIn.cons ?mm ?u1 ?u2 ?u3 ?_; (case mm => k_mem); (case u1 => k_ne); (case u2 => k_ne); (case u3 => k_ne)
    exact PairsIn.nil)
  rintro r9 led9 h9 tk9 F9 N9 ⟨u9, rfl, rfl⟩ htk9
  k_steps
  have e1 : Fr h₀ L h9 m := by with_reducible assumption
  have e2 : News h₀ L h9 led := by
    refine news_sub (by with_reducible assumption) ?_
    intro q hq
    exact .tail _ (.tail _ (.tail _ (.tail _ (.tail _ hq))))
  exact hret (.str (repl x textPairs) u9) led h9 tk9 e1 e2 ⟨u9, rfl, rfl⟩
theorem cvalue_ok (led : Led) (x : Str) (t : Tok) (hx : x.length ≤ 18) :
    KC w p loose mean mg mb 74 [.str x t] led 2 (fun r l => ∃ u, r = .str (repl x valuePairs) u ∧ l = led) := by
  intro dp un gd cn cs ad ccd cl outer A₀ base h₀ L m s Q E B F X N T hk hd hu hret
  refine wpAny_call ?_
  k_dflt k_enter
  (with_reducible refine gen_toks 1 ?htk ?_)
  (case htk => exact le_len rfl)
  intro tk0 htk0
  k_steps
  unfold Halt
  k_dflt (refine' KC.use (replaced_ok _ _ _ _ _ _ valuePairs ?m ?P hx (by decide) valueOk) ?k1 ?k2 ?k3 ?k4 ?k5 rfl ?k7 ?k8 ?_)
  (case k1 => k_asm)
  (case k2 => k_asm)
  (case k3 => k_asm)
  (case k4 => k_asm)
  (case k5 => k_asm)
  (case k7 => ktr_room)
  (case k8 => ktr_units)
  (case m => k_mem)
  (case P =>
    refine' PairsIn.cons ?mm ?u1 ?u2 ?u3 ?_; (case mm => k_mem); (case u1 => k_ne); (case u2 => k_ne); (case u3 => k_ne)
    refine' PairsIn.cons ?mm ?u1 ?u2 ?u3 ?_; (case mm => k_mem); (case u1 => k_ne); (case u2 => k_ne); (case u3 => k_ne)
    refine' PairsIn.cons ?mm ?u1 ?u2 ?u3 ?_; (case mm => k_mem); (case u1 => k_ne); (case u2 => k_ne); (case u3 => k_ne)
    refine' PairsIn.cons ?mm ?u1 ?u2 ?u3 ?_; (case mm => k_mem); (case u1 => k_ne); (case u2 => k_ne); (case u3 => k_ne)
    refine' PairsIn.cons ?mm ?u1 ?u2 ?u3 ?_; (case mm => k_mem); (case u1 => k_ne); (case u2 => k_ne); (case u3 => k_ne)
    refine' PairsIn.cons ?mm ?u1 ?u2 ?u3 ?_; (case mm => k_mem); (case u1 => k_ne); (case u2 => k_ne); (case u3 => k_ne)
    exact PairsIn.nil)
  rintro r9 led9 h9 tk9 F9 N9 ⟨u9, rfl, rfl⟩ htk9
  k_steps
  have e1 : Fr h₀ L h9 m := by with_reducible assumption
  have e2 : News h₀ L h9 led := by
    refine news_sub (by with_reducible assumption) ?_
    intro q hq
    exact .tail _ (.tail _ (.tail _ (.tail _ (.tail _ (.tail _ (.tail _ hq))))))
  exact hret (.str (repl x valuePairs) u9) led h9 tk9 e1 e2 ⟨u9, rfl, rfl⟩
end
end

theorem str_eq {a b : Str} {t : Tok} (h : a = b) : Value.str a t = Value.str b t := by rw [h]
noncomputable def cinstr (g x : Str) : Str := if (x != Str.ofString "") = true then Str.ofString "<?" ++ g ++ (Str.ofString " " ++ repl x plainPairs) ++ Str.ofString "?>" else Str.ofString "<?" ++ g ++ Str.ofString "" ++ Str.ofString "?>"
theorem plain_len {x : Str} (hx : x.length ≤ 18) : (repl x plainPairs).length ≤ 108 := by
  have := repl_len plainOk x
  have e : plainPairs.length = 1 := rfl
  rw [e] at this
  omega
section
variable {w : World} {p : Program} {loose : List Str} {mean : ExcName → Option Value} {mg mb : Str → Option Value}
section
local macro_rules | `(tactic| walk_at "call ref") => `(tactic| (with_reducible refine halt_call 60 ?_))
theorem cinstr_ok (led : Led) (g x : Str) (t1 t2 : Tok) (hg : g.length ≤ 3) (hx : x.length ≤ 18) :
    KC w p loose mean mg mb 81 [.str g t1, .str x t2] led 2 (fun r l => ∃ u, r = .str (cinstr g x) u ∧ l = led) := by
  intro dp un gd cn cs ad ccd cl outer A₀ base h₀ L m s Q E B F X N T hk hd hu hret
  refine wpAny_call ?_
  k_dflt k_enter
  (with_reducible refine gen_toks 1 ?htk ?_)
  (case htk => exact le_len rfl)
  intro tk0 htk0
  k_steps
  · unfold Halt
    k_dflt (refine' KC.use (replaced_ok _ _ _ _ _ _ plainPairs ?m ?P hx (by decide) plainOk) ?k1 ?k2 ?k3 ?k4 ?k5 rfl ?k7 ?k8 ?_)
    (case k1 => k_asm)
    (case k2 => k_asm)
    (case k3 => k_asm)
    (case k4 => k_asm)
    (case k5 => k_asm)
    (case k7 => ktr_room)
    (case k8 => ktr_units)
    (case m => k_mem)
    (case P =>
      refine' PairsIn.cons ?mm ?u1 ?u2 ?u3 ?_; (case mm => k_mem); (case u1 => k_ne); (case u2 => k_ne); (case u3 => k_ne)
      exact PairsIn.nil)
    rintro r9 led9 h9 tk9 F9 N9 ⟨u9, rfl, rfl⟩ htk9
    have hlen := plain_len hx
    k_steps
    have e1 : Fr h₀ L h9 m := by with_reducible assumption
    have e2 : News h₀ L h9 led := by
      refine news_sub (by with_reducible assumption) ?_
      intro q hq
      exact .tail _ (.tail _ hq)
    refine hret _ led h9 _ e1 e2 ⟨_, str_eq ?_, rfl⟩
    rw [cinstr, if_pos (by with_reducible assumption)]
  · refine hret _ led h' _ (by k_asm) (by k_asm) ⟨_, str_eq ?_, rfl⟩
    have : ¬ (x != Str.ofString "") = true := by simp only [*]; decide
    rw [cinstr, if_neg this]
end
end

open PySem.Spec PyProof.V in
/-- a table of texts, as a dict's data -/
noncomputable abbrev tabData (ps : List (Str × Str)) : List (PyData × PyData) := ps.map fun q => (.str q.1, .str q.2)
/-- what a table says of a text; the text itself where it is silent -/
noncomputable def tabOf (ps : List (Str × Str)) (y : Str) : Str := ((ps.find? fun q => q.1 == y).map (·.2)).getD y
theorem lookup_tab (ps : List (Str × Str)) (y : Str) : (Spec.lookup (.str y) (tabData ps)).getD (.str y) = .str (tabOf ps y) := by
  induction ps with
  | nil => rfl
  | cons a r ih =>
    show ((if Spec.same (PyData.str a.1) (PyData.str y) = true then some (PyData.str a.2) else Spec.lookup (.str y) (tabData r)).getD (.str y)) = _
    have e : Spec.same (PyData.str a.1) (PyData.str y) = (a.1 == y) := by simp [Spec.same]
    rw [e]
    unfold tabOf
    rw [List.find?_cons]
    cases h : (a.1 == y) with
    | true => rfl
    | false =>
      simp only [Bool.false_eq_true, if_false]
      exact ih
theorem tab_len {ps : List (Str × Str)} (hps : ∀ q ∈ ps, q.2.length ≤ 6) (c : Nat) : (tabOf ps ⟨#[c]⟩).cps.size ≤ 6 := by
  unfold tabOf
  cases h : ps.find? fun q => q.1 == (⟨#[c]⟩ : Str) with
  | none => exact (by decide : 1 ≤ 6)
  | some q => exact hps q (List.mem_of_find?_eq_some h)
/-- sign by sign, by a table -/
noncomputable def byTab (ps : List (Str × Str)) (x : Str) : Str := ⟨(x.cps.toList.flatMap fun c => (tabOf ps ⟨#[c]⟩).cps.toList).toArray⟩
section
variable {w : World} {p : Program} {loose : List Str} {mean : ExcName → Option Value} {mg mb : Str → Option Value}
section
local macro_rules | `(tactic| walk_at "eval ListComp") => `(tactic| (k_here; refine Halt.out ?_))
local macro_rules | `(tactic| walk_at "none") => `(tactic| skip)
theorem table_ok (led : Led) (x : Str) (t1 : Tok) (d : Addr) (o : Obj) (kvs : List (Str × Value)) (ps : List (Str × Str)) (hm : (d, o) ∈ led) (lo : (d == sysModules) = false) (hd' : o.IsDictOf (PySem.strKind PG w) kvs)
    (hf : PyProof.V.FlatPairs PyData.str kvs (tabData ps)) (hx : x.length ≤ 18) (hps : ∀ q ∈ ps, q.2.length ≤ 6) :
    KC w p loose mean mg mb 337 [.str x t1, .ref d] led 1 (fun r l => ∃ u, r = .str (byTab ps x) u ∧ l = led) := by
  intro dp un gd cn cs ad ccd cl outer A₀ base h₀ L m s Q E B F X N T hk hd hu hret
  refine wpAny_call ?_
  k_dflt k_enter
  k_steps
  unfold Halt
  k_dflt (refine my_ListComp_S (by k_asm) (by rfl) (by decide) (by rfl) (by decide) ?_)
  k_steps
  refine ⟨x, t1, _, fun i ys nw => ∃ yS, StrsAre ys yS ∧ yS = (x.cps.toList.take i).map (fun c => tabOf ps ⟨#[c]⟩) ∧ ys.length = i ∧ (L' + 1, oc1) :: led = nw, rfl, rfl, by k_asm, by k_asm, ?_, ?_, ⟨[], .nil, by simp, rfl, rfl⟩, fun _ _ => rfl, ?_, ?_⟩
  · have : x.cps.size ≤ 18 := hx
    have := sizeLine_eq
    omega
  · rintro i ys nw ⟨yS, h1, h2, h3, _⟩; omega
  · intro g i v ys nw I oI C oC D mC h tk E' hi ⟨c, u, hc, hv⟩ ⟨yS, h1, h2, h3, hnw⟩ hC F1 N1 off1 ne1
    subst hnw
    subst hv
    refine cassign1 hC F1 N1 off1 ne1 rfl rfl ?_
    intro h2' tk2' oC2 mC2 hm2 hC2 F2 N2
    refine wpAny_tests_nil ?_
    simp only [if_true]
    clear F1 N1
    k_steps
    (rename PyProof.V.Flat _ _ => hv9)
    rw [lookup_tab] at hv9
    obtain ⟨u9, rfl⟩ := hv9.str_inv
    refine CEnd.intro _ hC2 F2 N2 off1 ⟨yS ++ [tabOf ps ⟨#[c]⟩], strs_snoc h1, ?_, by simp [h3], rfl⟩
    have hc' : x.cps.toList[i]? = some c := by simpa using hc
    rw [List.take_add_one, hc', h2]
    simp
  · rintro g ys nw ⟨yS, h1, h2, h3, hnw⟩
    subst hnw
    intro D h tk F1 N1 o1
    k_steps
    have hb : ∀ y ∈ yS, y.cps.size ≤ 6 := by
      intro y hy
      rw [h2] at hy
      obtain ⟨c, _, rfl⟩ := List.mem_map.mp hy
      exact tab_len hps c
    have hl : yS.length = x.cps.size := by rw [h2]; simp
    have hsz := sum_len_le hb
    have hx' : x.cps.size ≤ 18 := hx
    refine my_join N1 (.head _) h1 ?_ ?_
    · rw [emptyStr_len]; omega
    intro t' k'
    k_steps
    have e1 : Fr h₀ L h m := by with_reducible assumption
    have e2 : News h₀ L h led := by
      refine news_sub (by with_reducible assumption) ?_
      intro q hq
      exact .tail _ (.tail _ hq)
    refine hret _ led h _ e1 e2 ⟨_, str_eq ?_, rfl⟩
    have e := join_nil yS
    have e3 : catL yS = x.cps.toList.flatMap fun c => (tabOf ps ⟨#[c]⟩).cps.toList := by
      rw [h2]
      have : x.cps.toList.take x.cps.size = x.cps.toList := List.take_of_length_le (by simp)
      rw [this]
      simp [catL, List.flatMap_map]
    rw [e3] at e
    unfold byTab
    rw [← e]
end
end

theorem len_all {ps : List (Str × Str)} (h : ∀ q ∈ ps, PairOk q) : ∀ q ∈ ps, q.2.length ≤ 6 := fun q hq => (h q hq).2.1
theorem byTab_len {ps : List (Str × Str)} {x : Str} (h : ∀ q ∈ ps, PairOk q) (hx : x.length ≤ 18) : (byTab ps x).length ≤ 108 := by
  have go : ∀ l : List Nat, (l.flatMap fun c => (tabOf ps ⟨#[c]⟩).cps.toList).length ≤ 6 * l.length := by
    intro l
    induction l with
    | nil => simp
    | cons a r ih =>
      have := tab_len (len_all h) a
      simp only [List.flatMap_cons, List.length_append, Array.length_toList, List.length_cons] at ih ⊢
      omega
  have h1 := go x.cps.toList
  have h2 : x.cps.size ≤ 18 := hx
  show (x.cps.toList.flatMap fun c => (tabOf ps ⟨#[c]⟩).cps.toList).toArray.size ≤ 108
  have h4 : x.cps.toList.length = x.cps.size := Array.length_toList
  have h3 : (x.cps.toList.flatMap fun c => (tabOf ps ⟨#[c]⟩).cps.toList).toArray.size = (x.cps.toList.flatMap fun c => (tabOf ps ⟨#[c]⟩).cps.toList).length := List.size_toArray
  omega
noncomputable def quoted (x : Str) : Str := Str.ofString "\"" ++ byTab valuePairs x ++ Str.ofString "\""
noncomputable def leafCom (x : Str) (c : Bool) : Str := if c = true then Str.ofString "<!--" ++ byTab plainPairs x ++ Str.ofString "-->" else Str.ofString ""
noncomputable def leafPi (g x : Str) : Str := Str.ofString "<?" ++ g ++ (if (x != Str.ofString "") = true then Str.ofString " " else Str.ofString "") ++ byTab plainPairs x ++ Str.ofString "?>"
theorem textLen : ∀ q ∈ textPairs, q.2.length ≤ 6 := len_all textOk
theorem valueLen : ∀ q ∈ valuePairs, q.2.length ≤ 6 := len_all valueOk
theorem plainLen : ∀ q ∈ plainPairs, q.2.length ≤ 6 := len_all plainOk
local macro_rules | `(tactic| walk_at "call ref") => `(tactic| ((with_reducible refine at_call 337 ?_); k_dflt (first
  | (open_k with (table_ok _ _ _ _ _ _ plainPairs ?a1 ?a2 ?a3 ?a4 ?a5 plainLen); walk_at "t5"; walk_at "kB")
  | (open_k with (table_ok _ _ _ _ _ _ textPairs ?a1 ?a2 ?a3 ?a4 ?a5 textLen); walk_at "t5"; walk_at "kB")
  | (open_k with (table_ok _ _ _ _ _ _ valuePairs ?a1 ?a2 ?a3 ?a4 ?a5 valueLen); walk_at "t5"; walk_at "kB")); walk_at "kJ"; obtain ⟨u9, rfl, rfl⟩ := P9; (try k_sweep); (try k_fold)))
section
variable {w : World} {p : Program} {loose : List Str} {mean : ExcName → Option Value} {mg mb : Str → Option Value}
theorem quoted_ok (led : Led) (x : Str) (t1 : Tok) (hx : x.length ≤ 18) :
    KC w p loose mean mg mb 344 [.str x t1] led 2 (fun r l => ∃ u, r = .str (quoted x) u ∧ l = led) := by
  intro dp un gd cn cs ad ccd cl outer A₀ base h₀ L m s Q E B F X N T hk hd hu hret
  have hl := byTab_len valueOk hx
  refine wpAny_call ?_
  k_dflt k_enter
  k_steps
  have e1 : Fr h₀ L h9 m := by with_reducible assumption
  have e2 : News h₀ L h9 led := by
    refine news_sub (by with_reducible assumption) ?_
    intro q hq
    exact .tail _ hq
  exact hret _ led h9 _ e1 e2 ⟨_, rfl, rfl⟩
theorem leaf_text_ok (led : Led) (g x : Str) (t1 t2 t3 : Tok) (c : Bool) (hx : x.length ≤ 18) :
    KC w p loose mean mg mb 368 [.str (Str.ofString "text") t1, .str g t2, .str x t3, .bool c] led 2 (fun r l => ∃ u, r = .str (byTab textPairs x) u ∧ l = led) := by
  intro dp un gd cn cs ad ccd cl outer A₀ base h₀ L m s Q E B F X N T hk hd hu hret
  have hl := byTab_len plainOk hx
  have hl2 := byTab_len textOk hx
  refine wpAny_call ?_
  k_dflt k_enter
  k_steps
  all_goals (refine hret _ led _ _ (by with_reducible assumption) (news_sub (by with_reducible assumption) ?_) ⟨_, str_eq ?_, rfl⟩)
  all_goals first
    | (intro q hq; first | exact hq | exact .tail _ hq | exact .tail _ (.tail _ hq))
    | rfl
    | (simp only [leafCom, leafPi, *]; rfl)
    | (simp [leafCom, leafPi, *]; done)
theorem leaf_com_ok (led : Led) (g x : Str) (t1 t2 t3 : Tok) (c : Bool) (hx : x.length ≤ 18) :
    KC w p loose mean mg mb 368 [.str (Str.ofString "comment") t1, .str g t2, .str x t3, .bool c] led 2 (fun r l => ∃ u, r = .str (leafCom x c) u ∧ l = led) := by
  intro dp un gd cn cs ad ccd cl outer A₀ base h₀ L m s Q E B F X N T hk hd hu hret
  have hl := byTab_len plainOk hx
  refine wpAny_call ?_
  k_dflt k_enter
  k_steps
  all_goals (refine hret _ led _ _ (by with_reducible assumption) (news_sub (by with_reducible assumption) ?_) ⟨_, str_eq ?_, rfl⟩)
  all_goals first
    | (intro q hq; first | exact hq | exact .tail _ hq | exact .tail _ (.tail _ hq))
    | rfl
    | (simp only [leafCom, leafPi, *]; rfl)
    | (simp [leafCom, leafPi, *]; done)
theorem leaf_pi_ok (led : Led) (g x : Str) (t1 t2 t3 : Tok) (c : Bool) (hg : g.length ≤ 3) (hx : x.length ≤ 18) :
    KC w p loose mean mg mb 368 [.str (Str.ofString "instruction") t1, .str g t2, .str x t3, .bool c] led 2 (fun r l => ∃ u, r = .str (leafPi g x) u ∧ l = led) := by
  intro dp un gd cn cs ad ccd cl outer A₀ base h₀ L m s Q E B F X N T hk hd hu hret
  have hl := byTab_len plainOk hx
  refine wpAny_call ?_
  k_dflt k_enter
  k_steps
  all_goals (refine hret _ led _ _ (by with_reducible assumption) (news_sub (by with_reducible assumption) ?_) ⟨_, str_eq ?_, rfl⟩)
  all_goals first
    | (intro q hq; first | exact hq | exact .tail _ hq | exact .tail _ (.tail _ hq))
    | rfl
    | (simp only [leafCom, leafPi, *]; rfl)
    | (simp [leafCom, leafPi, *]; done)
end

/-- the law's names: namespace, local name, name -/
noncomputable abbrev nameTab : List (Str × Str × Str) := [(Str.ofString "", Str.ofString "a", Str.ofString "a"), (Str.ofString "", Str.ofString "b", Str.ofString "b"), (Str.ofString "u", Str.ofString "a", Str.ofString "z:a"), (Str.ofString "u", Str.ofString "b", Str.ofString "p:b"), (Str.ofString "v", Str.ofString "B", Str.ofString "a:B"), (Str.ofString "v", Str.ofString "a", Str.ofString "a:a"), (Str.ofString "v", Str.ofString "c", Str.ofString "q:c")]
/-- tuples of three texts, as the ledger bears them -/
noncomputable def TripIn (led : Led) (vs : List Value) (ps : List (Str × Str × Str)) : Prop :=
  vs.length = ps.length ∧ ∀ (i : Nat) (q : Str × Str × Str), ps[i]? = some q → ∃ a u1 u2 u3 c, vs[i]? = some (Value.ref a) ∧ (a, tupObj [Value.str q.1 u1, Value.str q.2.1 u2, Value.str q.2.2 u3] c) ∈ led
theorem TripIn.nil {led : Led} : TripIn led [] [] := ⟨rfl, fun i q h => by simp at h⟩
theorem TripIn.cons {led : Led} {a : Addr} {u1 u2 u3 : Tok} {c : Nat} {q : Str × Str × Str} {vs : List Value} {ps : List (Str × Str × Str)} (hm : (a, tupObj [Value.str q.1 u1, Value.str q.2.1 u2, Value.str q.2.2 u3] c) ∈ led) (h : TripIn led vs ps) :
    TripIn led (.ref a :: vs) (q :: ps) := by
  refine ⟨by rw [List.length_cons, List.length_cons, h.1], fun i q' e => ?_⟩
  cases i with
  | zero =>
    obtain rfl := Option.some.inj e
    exact ⟨a, u1, u2, u3, c, rfl, hm⟩
  | succ i => exact h.2 i q' e
section
variable {w : World} {p : Program} {loose : List Str} {mean : ExcName → Option Value} {mg mb : Str → Option Value}
theorem names_ok (led : Led) :
    KC w p loose mean mg mb 356 [] led 1 (fun r l => ∃ ln refs c, r = .ref ln ∧ (ln, listOf refs.toArray c) ∈ l ∧ TripIn l refs nameTab ∧ ∀ q ∈ led, q ∈ l) := by
  intro dp un gd cn cs ad ccd cl outer A₀ base h₀ L m s Q E B F X N T hk hd hu hret
  refine wpAny_call ?_
  k_dflt k_enter
  k_steps
  refine hret _ _ _ _ (by with_reducible assumption) (by with_reducible assumption) ⟨_, _, _, rfl, .head _, ?_, ?_⟩
  · refine' TripIn.cons ?mm ?_; (case mm => k_mem)
    refine' TripIn.cons ?mm ?_; (case mm => k_mem)
    refine' TripIn.cons ?mm ?_; (case mm => k_mem)
    refine' TripIn.cons ?mm ?_; (case mm => k_mem)
    refine' TripIn.cons ?mm ?_; (case mm => k_mem)
    refine' TripIn.cons ?mm ?_; (case mm => k_mem)
    refine' TripIn.cons ?mm ?_; (case mm => k_mem)
    exact TripIn.nil
  · intro q hq
    exact .tail _ (.tail _ (.tail _ (.tail _ (.tail _ (.tail _ (.tail _ (.tail _ hq)))))))
end

theorem ltAll_ne {D : Addr} {l : Led} (h : ∀ q ∈ l, q.1 < D) : ∀ q ∈ l, q.1 ≠ D := fun q hq => Nat.ne_of_lt (h q hq)
/-- a node, as the program keeps it -/
structure Nd where
  a : Addr
  d : Addr
  k : Nat → Tok
  kd : Str
  nm : Str
  uri : Str
  loc : Str
  val : Str
  tkd : Tok
  tnm : Tok
  turi : Tok
  tloc : Tok
  tval : Tok
  par : Value
  ch : Addr
  at_ : Addr
  ns : Addr
noncomputable def kOf (a b c d e f g h i : Tok) : Nat → Tok := fun n => [a, b, c, d, e, f, g, h, i].getD n 0
noncomputable abbrev ent (P : Params) (n : String) (t : Tok) (v : Value) : DictEntry := ⟨PyData.keyHash P (Str.ofString n), .str (Str.ofString n) t, v⟩
noncomputable abbrev rowEs (P : Params) (x : Nd) : List DictEntry :=
  [ent P "kind" (x.k 0) (.str x.kd x.tkd), ent P "name" (x.k 1) (.str x.nm x.tnm), ent P "uri" (x.k 2) (.str x.uri x.turi), ent P "local" (x.k 3) (.str x.loc x.tloc), ent P "value" (x.k 4) (.str x.val x.tval),
   ent P "parent" (x.k 5) x.par, ent P "children" (x.k 6) (.ref x.ch), ent P "attributes" (x.k 7) (.ref x.at_), ent P "namespaces" (x.k 8) (.ref x.ns)]
section
variable {prog : Program} {w : World} {A : Around} {E : Value → Shared → Prop} {s : Shared} {h₀ : Heap} {L : Addr} {m : Str → Option Value} {led : Led}
theorem off_news {h : Heap} {a : Addr} {o : Obj} (N : News h₀ L h led) (hm : (a, o) ∈ led) : News h₀ L h ((a, o) :: off a led) := fun q hq => by
  rcases List.mem_cons.mp hq with rfl | hq
  · exact N _ hm
  · exact N q (off_sub q hq)
theorem off_cons {a : Addr} {q : Addr × Obj} {l : Led} (h : q.1 ≠ a) : off a (q :: l) = q :: off a l := by
  unfold off
  rw [List.filter_cons_of_pos]
  simpa using h
theorem reorder5 {h : Heap} {R : Addr} {o : Obj} {a b c d e : Addr × Obj} {l : Led} (N : News h₀ L h ((R, o) :: off R (a :: b :: c :: d :: e :: l))) (ha : a.1 ≠ R) (hb : b.1 ≠ R) (hc : c.1 ≠ R) (hd : d.1 ≠ R) (he : e.1 ≠ R) :
    News h₀ L h ((R, o) :: a :: b :: c :: d :: e :: off R l) := by
  rw [off_cons ha, off_cons hb, off_cons hc, off_cons hd, off_cons he] at N
  exact N
theorem append_off {a : Addr} {its : List Value} {n : Nat} {v : Value} {Q : Value → Shared → Prop} (F : Fr h₀ L s.heap m) (N : News h₀ L s.heap led) (hm : (a, listOf its.toArray n) ∈ led) (hsz : its.length ≤ 1000)
    (h : ∀ h', Fr h₀ L h' m → News h₀ L h' ((a, listOf (its ++ [v]).toArray (n + 1)) :: off a led) → Q .none { s with heap := h' }) : wpAny (model prog w) A (call (.builtin "list.append") [.ref a, v]) Q E s := by
  refine append_K F (off_news N hm) (Upd.head off_ne) (fun h' F' N' => h h' F' ?_) ?_
  · rw [List.push_toArray] at N'
    exact N'
  · rw [List.size_toArray]
    have := sizeLine_eq
    omega
end
local macro_rules | `(tactic| k_all) => `(tactic| first | with_reducible assumption | exact ltAll_ne (by with_reducible assumption) | exact allLt_ne (by with_reducible assumption) | exact allLt_ne1 (by with_reducible assumption) | exact allLt_ne2 (by with_reducible assumption) | exact allLt_ne3 (by with_reducible assumption) | exact off_ne)
local macro_rules | `(tactic| walk_at "call builtin:list.append") => `(tactic| (k_here; (with_reducible show wpAny _ _ (call (Value.builtin _) [Value.ref _, _]) _ _ _); k_dflt (refine' append_off ?k1 ?k2 ?k3 ?k4 ?_; (case k1 => k_asm); (case k2 => k_asm); (case k3 => k_mem); (case k4 => omega); k_whole); intro h' F' N'; (try k_sweep)))
local macro_rules | `(tactic| walk_at "call builtin:len") => `(tactic| (k_here; (with_reducible show wpAny _ _ (call (Value.builtin "len") [Value.ref _]) _ _ _); k_dflt (refine' my_len ?k1 ?k2 ?k3 ?_; (case k1 => k_asm); (case k2 => k_mem); (case k3 => first | omega | (simp only [List.length_append, List.length_cons, List.length_nil]; omega)); k_whole); (try dsimp only)))
local macro_rules | `(tactic| walk_at "call ref") => `(tactic| ((with_reducible refine at_call 111 ?_); k_dflt (refine' call_cls ?k1 ?k2 ?k3 ?k4 ?k5 ?k6 ?_; (case k1 => k_asm); (case k2 => k_asm); (case k3 => k_asm); (case k4 => k_is); (case k5 => k_is); (case k6 => k_is); k_whole); intro xN dN hN FN NN lN lxN; (try k_lt lN); (try k_lt2 lxN); (try k_sweep); k_dflt k_enter))
section
variable {w : World} {p : Program} {loose : List Str} {mean : ExcName → Option Value} {mg mb : Str → Option Value}
/-- a new node: its objects stand at the ledger's head -/
theorem newrow_ok (l : Led) (T dT R : Addr) (kr : Tok) (its : List Value) (c : Nat) (kd nm uri loc val : Str) (t1 t2 t3 t4 t5 : Tok) (par : Value)
    (hT : (T, instObj 300 dT) ∈ l) (hdT : (dT, dictOf [ent w.params "rows" kr (.ref R)] 1) ∈ l) (hR : (R, listOf its.toArray c) ∈ l) (hlen : its.length ≤ 100) (hTR : T ≠ R) (hdR : dT ≠ R) :
    KC w p loose mean mg mb 136 [.ref T, .str kd t1, .str nm t2, .str uri t3, .str loc t4, .str val t5, par] l 3
      (fun r l' => ∃ (x : Nd) (u : Tok), r = Value.int ((its.length : Nat) : Int) u ∧ x.kd = kd ∧ x.nm = nm ∧ x.uri = uri ∧ x.loc = loc ∧ x.val = val ∧ x.par = par ∧ (∀ q ∈ l, q.1 < x.d) ∧ @LT.lt Nat _ x.d x.a ∧ @LT.lt Nat _ x.a x.ch ∧ @LT.lt Nat _ x.ch x.at_ ∧ @LT.lt Nat _ x.at_ x.ns ∧
        l' = (R, listOf (its ++ [Value.ref x.a]).toArray (c + 1)) :: (x.ns, listOf #[] 0) :: (x.at_, listOf #[] 0) :: (x.ch, listOf #[] 0) :: (x.a, instObj 111 x.d) :: (x.d, dictOf (rowEs w.params x) 9) :: off R l) := by
  intro dp un gd cn cs ad ccd cl outer A₀ base h₀ L m s Q E B F X N T' hk hd hu hret
  refine wpAny_call ?_
  k_dflt k_enter
  k_steps
  have e1 : @LT.lt Nat _ R dN := lN _ hR
  replace N' := reorder5 N' (by k_ne) (by k_ne) (by k_ne) (by k_ne) (by k_ne)
  have hT2 : (T, instObj 300 dT) ∈ off R l := off_mem hT hTR
  have hdT2 : (dT, dictOf [ent w.params "rows" kr (.ref R)] 1) ∈ off R l := off_mem hdT hdR
  k_steps
  have e2 : ((its ++ [Value.ref xN]).length : Int) - 1 = ((its.length : Nat) : Int) := by rw [List.length_append]; simp
  rw [e2]
  rename News _ _ _ _ => kN
  rename Fr _ _ _ _ => kF
  refine hret _ _ _ _ kF kN ⟨⟨xN, dN, kOf _ _ _ _ _ _ _ _ _, kd, nm, uri, loc, val, t1, t2, t3, t4, t5, par, _, _, _⟩, _, rfl, rfl, rfl, rfl, rfl, rfl, rfl, lN, ?_, ?_, ?_, ?_, rfl⟩
  all_goals (dsimp only; omega)
end

local macro_rules | `(tactic| walk_at "subscriptTail") => `(tactic| (k_here; (with_reducible show wpAny _ _ (subscriptTail _ _ (Value.ref _) (Value.int _ _)) _ _ _); k_dflt (refine' my_item ?k1 ?k2 ?k3 ?k4 ?k5 ?_ ?k6; (case k1 => k_asm); (case k2 => k_mem); (case k5 => assumption); (case k3 => first | assumption | decide | omega); (case k4 => first | decide | omega); (case k6 => with_unfolding_all rfl); k_whole)))
section
variable {w : World} {p : Program} {loose : List Str} {mean : ExcName → Option Value} {mg mb : Str → Option Value}
section
local macro_rules | `(tactic| l_fact) => `(tactic| omega)
theorem row_ok (l : Led) (T dT R : Addr) (kr : Tok) (its : List Value) (c : Nat) (k : Int) (u : Tok) (v : Value)
    (hT : (T, instObj 300 dT) ∈ l) (hdT : (dT, dictOf [ent w.params "rows" kr (.ref R)] 1) ∈ l) (hR : (R, listOf its.toArray c) ∈ l) (hlen : its.length ≤ 100) (h0 : 0 ≤ k) (hx : its[k.toNat]? = some v) :
    KC w p loose mean mg mb 143 [.ref T, .int k u] l 1 (fun r l' => r = v ∧ l' = l) := by
  intro dp un gd cn cs ad ccd cl outer A₀ base h₀ L m s Q E B F X N T' hk hd hu hret
  have hlt : k < (its.length : Int) := by
    have := (List.getElem?_eq_some_iff.mp hx).1
    omega
  refine wpAny_call ?_
  k_dflt k_enter
  k_steps
  rename News _ _ _ _ => kN
  rename Fr _ _ _ _ => kF
  exact hret _ _ _ _ kF kN ⟨rfl, rfl⟩
end
end

local macro_rules | `(tactic| walk_at "call ref") => `(tactic| ((with_reducible refine at_call 143 ?_); k_dflt (open_k with (row_ok _ _ _ _ _ _ _ _ _ _ ?a1 ?a2 ?a3 ?a4 ?a5 ?a6); walk_at "m3"; walk_at "m6"; walk_at "kB"); walk_at "kJ"; walk_at "kR"))
section
variable {w : World} {p : Program} {loose : List Str} {mean : ExcName → Option Value} {mg mb : Str → Option Value}
theorem get_kind (l : Led) (T dT R : Addr) (kr : Tok) (its : List Value) (c : Nat) (k : Int) (u : Tok) (x : Nd)
    (hT : (T, instObj 300 dT) ∈ l) (hdT : (dT, dictOf [ent w.params "rows" kr (.ref R)] 1) ∈ l) (hR : (R, listOf its.toArray c) ∈ l) (hlen : its.length ≤ 100) (h0 : 0 ≤ k) (hx : its[k.toNat]? = some (.ref x.a))
    (hxa : (x.a, instObj 111 x.d) ∈ l) (hxd : (x.d, dictOf (rowEs w.params x) 9) ∈ l) :
    KC w p loose mean mg mb 220 [.ref T, .int k u] l 2 (fun r l' => r = .str x.kd x.tkd ∧ l' = l) := by
  intro dp un gd cn cs ad ccd cl outer A₀ base h₀ L m s Q E B F X N T' hk hd hu hret
  refine wpAny_call ?_
  k_dflt k_enter
  k_steps
  rename News _ _ _ _ => kN
  rename Fr _ _ _ _ => kF
  exact hret _ _ _ _ kF kN ⟨rfl, rfl⟩
theorem get_name (l : Led) (T dT R : Addr) (kr : Tok) (its : List Value) (c : Nat) (k : Int) (u : Tok) (x : Nd)
    (hT : (T, instObj 300 dT) ∈ l) (hdT : (dT, dictOf [ent w.params "rows" kr (.ref R)] 1) ∈ l) (hR : (R, listOf its.toArray c) ∈ l) (hlen : its.length ≤ 100) (h0 : 0 ≤ k) (hx : its[k.toNat]? = some (.ref x.a))
    (hxa : (x.a, instObj 111 x.d) ∈ l) (hxd : (x.d, dictOf (rowEs w.params x) 9) ∈ l) :
    KC w p loose mean mg mb 227 [.ref T, .int k u] l 2 (fun r l' => r = .str x.nm x.tnm ∧ l' = l) := by
  intro dp un gd cn cs ad ccd cl outer A₀ base h₀ L m s Q E B F X N T' hk hd hu hret
  refine wpAny_call ?_
  k_dflt k_enter
  k_steps
  rename News _ _ _ _ => kN
  rename Fr _ _ _ _ => kF
  exact hret _ _ _ _ kF kN ⟨rfl, rfl⟩
theorem get_uri (l : Led) (T dT R : Addr) (kr : Tok) (its : List Value) (c : Nat) (k : Int) (u : Tok) (x : Nd)
    (hT : (T, instObj 300 dT) ∈ l) (hdT : (dT, dictOf [ent w.params "rows" kr (.ref R)] 1) ∈ l) (hR : (R, listOf its.toArray c) ∈ l) (hlen : its.length ≤ 100) (h0 : 0 ≤ k) (hx : its[k.toNat]? = some (.ref x.a))
    (hxa : (x.a, instObj 111 x.d) ∈ l) (hxd : (x.d, dictOf (rowEs w.params x) 9) ∈ l) :
    KC w p loose mean mg mb 234 [.ref T, .int k u] l 2 (fun r l' => r = .str x.uri x.turi ∧ l' = l) := by
  intro dp un gd cn cs ad ccd cl outer A₀ base h₀ L m s Q E B F X N T' hk hd hu hret
  refine wpAny_call ?_
  k_dflt k_enter
  k_steps
  rename News _ _ _ _ => kN
  rename Fr _ _ _ _ => kF
  exact hret _ _ _ _ kF kN ⟨rfl, rfl⟩
theorem get_local (l : Led) (T dT R : Addr) (kr : Tok) (its : List Value) (c : Nat) (k : Int) (u : Tok) (x : Nd)
    (hT : (T, instObj 300 dT) ∈ l) (hdT : (dT, dictOf [ent w.params "rows" kr (.ref R)] 1) ∈ l) (hR : (R, listOf its.toArray c) ∈ l) (hlen : its.length ≤ 100) (h0 : 0 ≤ k) (hx : its[k.toNat]? = some (.ref x.a))
    (hxa : (x.a, instObj 111 x.d) ∈ l) (hxd : (x.d, dictOf (rowEs w.params x) 9) ∈ l) :
    KC w p loose mean mg mb 241 [.ref T, .int k u] l 2 (fun r l' => r = .str x.loc x.tloc ∧ l' = l) := by
  intro dp un gd cn cs ad ccd cl outer A₀ base h₀ L m s Q E B F X N T' hk hd hu hret
  refine wpAny_call ?_
  k_dflt k_enter
  k_steps
  rename News _ _ _ _ => kN
  rename Fr _ _ _ _ => kF
  exact hret _ _ _ _ kF kN ⟨rfl, rfl⟩
theorem get_value (l : Led) (T dT R : Addr) (kr : Tok) (its : List Value) (c : Nat) (k : Int) (u : Tok) (x : Nd)
    (hT : (T, instObj 300 dT) ∈ l) (hdT : (dT, dictOf [ent w.params "rows" kr (.ref R)] 1) ∈ l) (hR : (R, listOf its.toArray c) ∈ l) (hlen : its.length ≤ 100) (h0 : 0 ≤ k) (hx : its[k.toNat]? = some (.ref x.a))
    (hxa : (x.a, instObj 111 x.d) ∈ l) (hxd : (x.d, dictOf (rowEs w.params x) 9) ∈ l) :
    KC w p loose mean mg mb 248 [.ref T, .int k u] l 2 (fun r l' => r = .str x.val x.tval ∧ l' = l) := by
  intro dp un gd cn cs ad ccd cl outer A₀ base h₀ L m s Q E B F X N T' hk hd hu hret
  refine wpAny_call ?_
  k_dflt k_enter
  k_steps
  rename News _ _ _ _ => kN
  rename Fr _ _ _ _ => kF
  exact hret _ _ _ _ kF kN ⟨rfl, rfl⟩
theorem element_row_ok (l : Led) (T dT R : Addr) (kr : Tok) (its : List Value) (c : Nat) (k : Int) (u : Tok) (x : Nd)
    (hT : (T, instObj 300 dT) ∈ l) (hdT : (dT, dictOf [ent w.params "rows" kr (.ref R)] 1) ∈ l) (hR : (R, listOf its.toArray c) ∈ l) (hlen : its.length ≤ 100) (h0 : 0 ≤ k) (hx : its[k.toNat]? = some (.ref x.a))
    (hxa : (x.a, instObj 111 x.d) ∈ l) (hxd : (x.d, dictOf (rowEs w.params x) 9) ∈ l) (hkd : x.kd = Str.ofString "element") :
    KC w p loose mean mg mb 192 [.ref T, .int k u] l 2 (fun r l' => r = .ref x.a ∧ l' = l) := by
  intro dp un gd cn cs ad ccd cl outer A₀ base h₀ L m s Q E B F X N T' hk hd hu hret
  have hbb : (x.kd != Str.ofString "element") = false := by rw [hkd]; decide +kernel
  refine wpAny_call ?_
  k_dflt k_enter
  k_steps
  rename News _ _ _ _ => kN
  rename Fr _ _ _ _ => kF
  exact hret _ _ _ _ kF kN ⟨rfl, rfl⟩
theorem attributes_ok (l : Led) (T dT R : Addr) (kr : Tok) (its : List Value) (c : Nat) (k : Int) (u : Tok) (x : Nd) (as : List Value) (ca : Nat)
    (hT : (T, instObj 300 dT) ∈ l) (hdT : (dT, dictOf [ent w.params "rows" kr (.ref R)] 1) ∈ l) (hR : (R, listOf its.toArray c) ∈ l) (hlen : its.length ≤ 100) (h0 : 0 ≤ k) (hx : its[k.toNat]? = some (.ref x.a))
    (hxa : (x.a, instObj 111 x.d) ∈ l) (hxd : (x.d, dictOf (rowEs w.params x) 9) ∈ l) (hat : (x.at_, listOf as.toArray ca) ∈ l) (hla : as.length ≤ 100) :
    KC w p loose mean mg mb 269 [.ref T, .int k u] l 2 (fun r l' => ∃ D n, r = .ref D ∧ l' = (D, listOf as.toArray n) :: l ∧ ∀ q ∈ l, q.1 < D) := by
  intro dp un gd cn cs ad ccd cl outer A₀ base h₀ L m s Q E B F X N T' hk hd hu hret
  refine wpAny_call ?_
  k_dflt k_enter
  k_steps
  k_dflt (refine' list_copyK ?k1 ?k2 ?k3 ?_ ?z)
  (case k1 => k_asm)
  (case k2 => k_asm)
  (case k3 => exact ⟨_, (N9 _ hat).1, rfl, _, rfl⟩)
  (case z => rw [List.size_toArray]; have := sizeLine_eq; omega)
  intro D n h2 F2 N2 l2
  (try k_sweep)
  k_steps
  rename News _ _ _ _ => kN
  rename Fr _ _ _ _ => kF
  exact hret _ _ _ _ kF kN ⟨D, n, rfl, rfl, l2⟩
end

/-- a tree of one element and its attributes, as the law builds it -/
structure TS where
  T : Addr
  dT : Addr
  R : Addr
  kr : Tok
  rc : Nat
  el : Nd
  ac : Nat
noncomputable def idx (k : Nat) : List Int := (List.range k).map fun (i : Nat) => ((i : Int) + 1)
theorem idx_succ (k : Nat) : idx (k + 1) = idx k ++ [(k : Int) + 1] := by simp [idx, List.range_succ]
noncomputable abbrev key (x : Nd) : Str × Str := (x.uri, x.loc)
noncomputable abbrev refsOf (z : TS) (nds : List Nd) : List Value := Value.ref z.el.a :: nds.map fun x => Value.ref x.a
structure TreeOk (P : Params) (b : Addr) (l : Led) (z : TS) (nds : List Nd) : Prop where
  hT : (z.T, instObj 300 z.dT) ∈ l
  hdT : (z.dT, dictOf [ent P "rows" z.kr (.ref z.R)] 1) ∈ l
  hR : (z.R, listOf (refsOf z nds).toArray z.rc) ∈ l
  hE : (z.el.a, instObj 111 z.el.d) ∈ l
  hdE : (z.el.d, dictOf (rowEs P z.el) 9) ∈ l
  hk : z.el.kd = Str.ofString "element"
  hat : ∃ ivs, (z.el.at_, listOf ivs.toArray z.ac) ∈ l ∧ IntsAre ivs (idx nds.length)
  hn : ∀ x ∈ nds, (x.a, instObj 111 x.d) ∈ l ∧ (x.d, dictOf (rowEs P x) 9) ∈ l ∧ x.kd = Str.ofString "attribute" ∧ @LE.le Nat _ b x.d
  keys : (nds.map key).Nodup
  lowR : @LE.le Nat _ b z.R
  lowA : @LE.le Nat _ b z.el.at_
noncomputable def Func (l : Led) : Prop := ∀ a o o', (a, o) ∈ l → (a, o') ∈ l → o = o'
theorem func_of {h₀ h : Heap} {L : Addr} {l : Led} (N : News h₀ L h l) : Func l := fun a o o' h1 h2 => Option.some.inj ((N _ h1).1.symm.trans (N _ h2).1)
theorem Func.ne {l : Led} (F : Func l) {a b : Addr} {o o' : Obj} (h1 : (a, o) ∈ l) (h2 : (b, o') ∈ l) (h : o ≠ o') : a ≠ b := fun e => by subst e; exact h (F _ _ _ h1 h2)
theorem ne_cls {o o' : Obj} (h : o.cls ≠ o'.cls) : o ≠ o' := fun e => h (by rw [e])
theorem ne_inst_list {C dx : Addr} {its : Array Value} {n : Nat} : instObj C dx ≠ listOf its n := ne_cls (by intro h; cases h)
theorem ne_list_inst {C dx : Addr} {its : Array Value} {n : Nat} : listOf its n ≠ instObj C dx := ne_cls (by intro h; cases h)
theorem ne_dict_list {es : List DictEntry} {k : Nat} {its : Array Value} {n : Nat} : dictOf es k ≠ listOf its n := ne_cls (by intro h; injection h with h; revert h; decide)
theorem ne_list_dict {es : List DictEntry} {k : Nat} {its : Array Value} {n : Nat} : listOf its n ≠ dictOf es k := ne_cls (by intro h; injection h with h; revert h; decide)
theorem ne_inst_dict {C dx : Addr} {es : List DictEntry} {n : Nat} : instObj C dx ≠ dictOf es n := ne_cls (by intro h; cases h)
theorem ne_dict_inst {C dx : Addr} {es : List DictEntry} {n : Nat} : dictOf es n ≠ instObj C dx := ne_cls (by intro h; cases h)
theorem dict_inj {es es' : List DictEntry} {n n' : Nat} (h : dictOf es n = dictOf es' n') : es = es' := by
  injection h with _ _ h _
  injection h with h _
  simpa using h
theorem list_inj {a a' : Array Value} {n n' : Nat} (h : listOf a n = listOf a' n') : a = a' := by
  injection h with _ _ h _
  injection h with h _
theorem ne_rows {P : Params} {x y : Nd} (h : x.kd ≠ y.kd) : dictOf (rowEs P x) 9 ≠ dictOf (rowEs P y) 9 := fun e => by
  have := dict_inj e
  injection this with h1 _
  injection h1 with _ _ h1
  injection h1 with h1 _
  exact h h1
theorem ne_rows_key {P : Params} {x y : Nd} (h : key x ≠ key y) : dictOf (rowEs P x) 9 ≠ dictOf (rowEs P y) 9 := fun e => by
  have := dict_inj e
  injection this with _ t1
  injection t1 with _ t2
  injection t2 with h3 t3
  injection t3 with h4 _
  injection h3 with _ _ h3
  injection h4 with _ _ h4
  injection h3 with h3 _
  injection h4 with h4 _
  exact h (by rw [key, key, h3, h4])
theorem ne_one_rows {P : Params} {x : Nd} {e : DictEntry} {n : Nat} : dictOf [e] n ≠ dictOf (rowEs P x) 9 := fun h => by
  have := congrArg List.length (dict_inj h)
  simp at this
theorem elem_ne : Str.ofString "element" ≠ Str.ofString "attribute" := by decide +kernel
theorem refs_ne_ints {a : Addr} {r : List Value} {ivs : List Value} {ns : List Int} {n n' : Nat} (hi : IntsAre ivs ns) : listOf (Value.ref a :: r).toArray n ≠ listOf ivs.toArray n' := fun e => by
  have h := list_inj e
  have h : Value.ref a :: r = ivs := by simpa using h
  subst h
  cases hi
theorem ne_sym {o o' : Obj} (h : o ≠ o') : o' ≠ o := fun e => h e.symm
noncomputable abbrev Nd.upd (x : Nd) (nm val : Str) (tnm tval : Tok) : Nd := { x with nm := nm, val := val, tnm := tnm, tval := tval }
theorem map_set_same {β : Type} (f : Nd → β) {nds : List Nd} {i : Nat} {x x' : Nd} (hx : nds[i]? = some x) (hk : f x' = f x) : (nds.set i x').map f = nds.map f := by
  obtain ⟨hi, e⟩ := List.getElem?_eq_some_iff.mp hx
  rw [List.map_set, hk]
  have h2 : f x = (nds.map f)[i]'(by simpa using hi) := by simp [e]
  rw [h2, List.set_getElem_self]
theorem key_of_nodup {nds : List Nd} (hn : (nds.map key).Nodup) {i j : Nat} {x y : Nd} (hx : nds[i]? = some x) (hy : nds[j]? = some y) (h : i ≠ j) : key x ≠ key y := by
  intro e
  have hi : i < nds.length := (List.getElem?_eq_some_iff.mp hx).1
  have h1 : (nds.map key)[i]? = some (key x) := by rw [List.getElem?_map, hx]; rfl
  have h2 : (nds.map key)[j]? = some (key y) := by rw [List.getElem?_map, hy]; rfl
  exact h ((List.getElem?_inj (by simpa using hi) hn).mp (by rw [h1, h2, e]))
/-- a node takes another name and value -/
theorem tree_upd {P : Params} {b : Addr} {l : Led} {z : TS} {nds : List Nd} (H : TreeOk P b l z nds) (Fn : Func l) {i : Nat} {x : Nd} (hx : nds[i]? = some x) (nm val : Str) (tnm tval : Tok) :
    TreeOk P b ((x.d, dictOf (rowEs P (x.upd nm val tnm tval)) 9) :: off x.d l) z (nds.set i (x.upd nm val tnm tval)) := by
  have hxm : x ∈ nds := List.mem_of_getElem? hx
  obtain ⟨hx1, hx2, hx3, hx4⟩ := H.hn x hxm
  have go : ∀ {a : Addr} {o : Obj}, (a, o) ∈ l → o ≠ dictOf (rowEs P x) 9 → (a, o) ∈ (x.d, dictOf (rowEs P (x.upd nm val tnm tval)) 9) :: off x.d l := fun h1 h2 => .tail _ (off_mem h1 (Fn.ne h1 hx2 h2))
  refine ⟨go H.hT ne_inst_dict, go H.hdT ne_one_rows, ?_, go H.hE ne_inst_dict, go H.hdE (ne_rows (by rw [H.hk, hx3]; exact elem_ne)), H.hk, ?_, ?_, ?_, H.lowR, H.lowA⟩
  · rw [refsOf, map_set_same (fun x => Value.ref x.a) (x' := x.upd nm val tnm tval) hx rfl]
    exact go H.hR ne_list_dict
  · obtain ⟨ivs, h1, h2⟩ := H.hat
    exact ⟨ivs, go h1 ne_list_dict, by rw [List.length_set]; exact h2⟩
  · intro y hy
    obtain ⟨j, hj, e⟩ := List.getElem_of_mem hy
    rw [List.getElem_set] at e
    by_cases hij : i = j
    · rw [if_pos hij] at e
      subst e
      exact ⟨go hx1 ne_inst_dict, .head _, hx3, hx4⟩
    · rw [if_neg hij] at e
      rw [List.length_set] at hj
      have hyj : nds[j]? = some y := by rw [List.getElem?_eq_getElem hj, e]
      obtain ⟨h1, h2, h3, h4⟩ := H.hn y (List.mem_of_getElem? hyj)
      exact ⟨go h1 ne_inst_dict, go h2 (ne_rows_key (key_of_nodup H.keys hyj hx (Ne.symm hij))), h3, h4⟩
  · rw [map_set_same key (x' := x.upd nm val tnm tval) hx rfl]
    exact H.keys
/-- a node more -/
theorem tree_new {P : Params} {b : Addr} {l : Led} {z : TS} {nds : List Nd} (H : TreeOk P b l z nds) (Fn : Func l) (x : Nd) (hk : x.kd = Str.ofString "attribute") (hnew : key x ∉ nds.map key) (low : ∀ q ∈ l, q.1 < x.d)
    (h1 : @LT.lt Nat _ x.d x.a) (ivs : List Value) (ac : Nat) (hat : (z.el.at_, listOf ivs.toArray z.ac) ∈ l) (hi : IntsAre ivs (idx nds.length)) (u : Tok) {l₂ : Led}
    (hl₂ : ∀ q, q ∈ (x.a, instObj 111 x.d) :: (x.d, dictOf (rowEs P x) 9) :: off z.R l → q ∈ l₂) (hR₂ : (z.R, listOf (refsOf z nds ++ [Value.ref x.a]).toArray (z.rc + 1)) ∈ l₂) :
    TreeOk P b ((z.el.at_, listOf (ivs ++ [Value.int ((nds.length : Int) + 1) u]).toArray ac) :: off z.el.at_ l₂) { z with rc := z.rc + 1, ac := ac } (nds ++ [x]) := by
  have lowN : ∀ {a : Addr} {o : Obj}, (a, o) ∈ l → @LT.lt Nat _ a x.d := fun h => low _ h
  have eRA : z.R ≠ z.el.at_ := Fn.ne H.hR hat (refs_ne_ints hi)
  have go : ∀ {a : Addr} {o : Obj}, (a, o) ∈ l → o ≠ listOf (refsOf z nds).toArray z.rc → o ≠ listOf ivs.toArray z.ac → (a, o) ∈ (z.el.at_, listOf (ivs ++ [Value.int ((nds.length : Int) + 1) u]).toArray ac) :: off z.el.at_ l₂ := fun h1 h2 h3 =>
    .tail _ (off_mem (hl₂ _ (.tail _ (.tail _ (off_mem h1 (Fn.ne h1 H.hR h2))))) (Fn.ne h1 hat h3))
  have ltA := lowN hat
  have ltR := lowN H.hR
  refine ⟨go H.hT ne_inst_list ne_inst_list, go H.hdT ne_dict_list ne_dict_list, ?_, go H.hE ne_inst_list ne_inst_list, go H.hdE ne_dict_list ne_dict_list, H.hk, ?_, ?_, ?_, H.lowR, H.lowA⟩
  · refine .tail _ (off_mem ?_ eRA)
    have : refsOf { z with rc := z.rc + 1, ac := ac } (nds ++ [x]) = refsOf z nds ++ [Value.ref x.a] := by simp [refsOf]
    rw [this]
    exact hR₂
  · refine ⟨_, .head _, ?_⟩
    rw [List.length_append, List.length_singleton, idx_succ]
    exact hi.append (.cons _ _ .nil)
  · intro y hy
    rcases List.mem_append.mp hy with hy | hy
    · obtain ⟨h1, h2, h3, h4⟩ := H.hn y hy
      exact ⟨go h1 ne_inst_list ne_inst_list, go h2 ne_dict_list ne_dict_list, h3, h4⟩
    · rw [List.mem_singleton.mp hy]
      refine ⟨.tail _ (off_mem (hl₂ _ (.head _)) ?_), .tail _ (off_mem (hl₂ _ (.tail _ (.head _))) ?_), hk, ?_⟩
      · refine neN ?_; dsimp only; omega
      · refine neN ?_; dsimp only; omega
      · have := H.lowR; omega
  · rw [List.map_append, List.nodup_append]
    refine ⟨H.keys, by simp, ?_⟩
    intro a ha b hb
    have hb' : b = key x := by simpa using hb
    rw [hb']
    intro e
    exact hnew (e ▸ ha)

/-- what a store of an attribute leaves standing -/
noncomputable def Kept (b : Addr) (q : Addr × Obj) : Prop := @LT.lt Nat _ q.1 b ∨ (q.2.cls ≠ .type "list" ∧ q.2.cls ≠ .type "dict")
theorem kept_ne {b : Addr} {l : Led} (F : Func l) {q : Addr × Obj} (hq : q ∈ l) (hk : Kept b q) {a : Addr} {o : Obj} (ha : (a, o) ∈ l) (hb : @LE.le Nat _ b a) (ho : o.cls = .type "list" ∨ o.cls = .type "dict") : q.1 ≠ a := by
  rcases hk with h | ⟨h1, h2⟩
  · exact Nat.ne_of_lt (Nat.lt_of_lt_of_le h hb)
  · refine F.ne (a := q.1) (o := q.2) hq ha (ne_cls ?_)
    rcases ho with e | e <;> rw [e] <;> assumption
noncomputable abbrev Dt := Str × Str × Str × Str
noncomputable abbrev dt (x : Nd) : Dt := (x.uri, x.loc, x.nm, x.val)
/-- an attribute put: in the old one's place, or as the last -/
noncomputable def setA (uri loc nm val : Str) : List Dt → List Dt
  | [] => [(uri, loc, nm, val)]
  | r :: rs => if (r.1 == uri && r.2.1 == loc) = true then (r.1, r.2.1, nm, val) :: rs else r :: setA uri loc nm val rs
theorem setA_hit {uri loc nm val : Str} {x : Nd} {tnm tval : Tok} : ∀ {nds : List Nd} {i : Nat}, (∀ (j : Nat) (y : Nd), j < i → nds[j]? = some y → (y.uri == uri && y.loc == loc) = false) → nds[i]? = some x → (x.uri == uri && x.loc == loc) = true →
    (nds.set i (x.upd nm val tnm tval)).map dt = setA uri loc nm val (nds.map dt)
  | [], i, _, hx, _ => by simp at hx
  | y :: r, 0, _, hx, hm => by
    obtain rfl : y = x := by simpa using hx
    show dt (y.upd nm val tnm tval) :: r.map dt = if (y.uri == uri && y.loc == loc) = true then (y.uri, y.loc, nm, val) :: r.map dt else _
    rw [if_pos hm]
  | y :: r, i + 1, hj, hx, hm => by
    have h0 := hj 0 y (Nat.succ_pos i) rfl
    have ih := setA_hit (nm := nm) (val := val) (tnm := tnm) (tval := tval) (nds := r) (i := i) (fun j z hji hz => hj (j + 1) z (Nat.succ_lt_succ hji) hz) (by simpa using hx) hm
    show dt y :: (r.set i (x.upd nm val tnm tval)).map dt = if (y.uri == uri && y.loc == loc) = true then _ else dt y :: setA uri loc nm val (r.map dt)
    rw [if_neg (by rw [h0]; exact Bool.false_ne_true), ih]
theorem setA_miss {uri loc nm val : Str} : ∀ {nds : List Nd}, (∀ (j : Nat) (y : Nd), nds[j]? = some y → (y.uri == uri && y.loc == loc) = false) → setA uri loc nm val (nds.map dt) = nds.map dt ++ [(uri, loc, nm, val)]
  | [], _ => rfl
  | y :: r, hj => by
    have h0 := hj 0 y rfl
    have ih := setA_miss (nm := nm) (val := val) (nds := r) fun j z hz => hj (j + 1) z hz
    show (if (y.uri == uri && y.loc == loc) = true then _ else dt y :: setA uri loc nm val (r.map dt)) = dt y :: (r.map dt ++ _)
    rw [if_neg (by rw [h0]; exact Bool.false_ne_true), ih]
theorem miss_step {uri loc : Str} {nds : List Nd} {i : Nat} {x : Nd} (h : ∀ (j : Nat) (y : Nd), j < i → nds[j]? = some y → (y.uri == uri && y.loc == loc) = false) (hx : nds[i]? = some x) (hm : (x.uri == uri && x.loc == loc) = false) :
    ∀ (j : Nat) (y : Nd), j < i + 1 → nds[j]? = some y → (y.uri == uri && y.loc == loc) = false := by
  intro j y hj hy
  by_cases e : j = i
  · subst e
    rw [Option.some.inj (hy.symm.trans hx)]
    exact hm
  · exact h j y (by omega) hy
theorem miss_key {uri loc : Str} {nds : List Nd} (h : ∀ (j : Nat) (y : Nd), nds[j]? = some y → (y.uri == uri && y.loc == loc) = false) : (uri, loc) ∉ nds.map key := by
  intro hm
  obtain ⟨y, hy, e⟩ := List.mem_map.mp hm
  obtain ⟨j, hj, e2⟩ := List.getElem_of_mem hy
  have := h j y (by rw [List.getElem?_eq_getElem hj, e2])
  injection e with e3 e4
  rw [e3, e4] at this
  simp at this
local macro_rules | `(tactic| walk_at "call ref") => `(tactic| ((with_reducible refine at_call 192 ?_); k_dflt (open_k with (element_row_ok _ _ _ _ _ _ _ _ _ _ ?a1 ?a2 ?a3 ?a4 ?a5 ?a6 ?a7 ?a8 ?a9); walk_at "m3"; walk_at "m6"; walk_at "m8"; (case a9 => assumption); walk_at "kB"); walk_at "kJ"; walk_at "kR"))
section
variable {prog : Program} {w : World} {A A₀ : Around} {E : Value → Shared → Prop} {s : Shared} {h₀ : Heap} {L : Addr} {m : Str → Option Value} {r : Led}
theorem set_nm {Q : Unit → Shared → Prop} {x : Nd} {v : Str} {t : Tok} (F : Fr h₀ L s.heap m) (X₀ : (hd.heap_1 w.params).In h₀) (N : News h₀ L s.heap ((x.d, dictOf (rowEs w.params x) 9) :: r)) (hx : (x.a, instObj 111 x.d) ∈ r) (hr : ∀ q ∈ r, q.1 ≠ x.d)
    (h : ∀ h', Fr h₀ L h' m → News h₀ L h' ((x.d, dictOf (rowEs w.params { x with nm := v, tnm := t }) 9) :: r) → Q () { s with heap := h', toks := s.toks + 2 }) : wpAny (model prog w) A (setAttr (.ref x.a) (Str.ofString "name") (.str v t)) Q E s := by
  refine set_dict F X₀ N (InstAt.of_news N (.tail _ hx) (.head _)) rfl ?k5 ?k6 ?k7 ?k8 ?k9 ?k10 (Upd.head hr) ?k12 h
  case k5 => k_is
  case k6 => k_is
  case k7 => k_is
  case k8 => k_is
  case k9 => k_get
  case k10 => k_put
  case k12 => exact Nat.le_of_ble_eq_true rfl
theorem set_val {Q : Unit → Shared → Prop} {x : Nd} {v : Str} {t : Tok} (F : Fr h₀ L s.heap m) (X₀ : (hd.heap_1 w.params).In h₀) (N : News h₀ L s.heap ((x.d, dictOf (rowEs w.params x) 9) :: r)) (hx : (x.a, instObj 111 x.d) ∈ r) (hr : ∀ q ∈ r, q.1 ≠ x.d)
    (h : ∀ h', Fr h₀ L h' m → News h₀ L h' ((x.d, dictOf (rowEs w.params { x with val := v, tval := t }) 9) :: r) → Q () { s with heap := h', toks := s.toks + 2 }) : wpAny (model prog w) A (setAttr (.ref x.a) (Str.ofString "value") (.str v t)) Q E s := by
  refine set_dict F X₀ N (InstAt.of_news N (.tail _ hx) (.head _)) rfl ?k5 ?k6 ?k7 ?k8 ?k9 ?k10 (Upd.head hr) ?k12 h
  case k5 => k_is
  case k6 => k_is
  case k7 => k_is
  case k8 => k_is
  case k9 => k_get
  case k10 => k_put
  case k12 => exact Nat.le_of_ble_eq_true rfl
end
section
variable {w : World} {p : Program} {loose : List Str} {mean : ExcName → Option Value} {mg mb : Str → Option Value}
section
local macro_rules | `(tactic| walk_at "call ref") => `(tactic| ((with_reducible refine at_call 136 ?_); k_dflt (open_k with (newrow_ok _ _ _ _ _ _ _ _ _ _ _ _ _ _ _ _ _ _ ?a1 ?a2 ?a3 ?a4 ?a5 ?a6); walk_at "m3"; (case a4 => omega); walk_at "o6"; walk_at "kB"); walk_at "kJ"; walk_at "kX"))
local macro_rules | `(tactic| walk_at "exec For Name Attribute cons nil") => `(tactic| (k_here; refine Halt.out ?_))
theorem setattr_ok (b : Addr) (l : Led) (z : TS) (nds : List Nd) (uri loc nm val : Str) (u t1 t2 t3 t4 : Tok) (H : TreeOk w.params b l z nds) (hlen : nds.length ≤ 20) :
    KC w p loose mean mg mb 199 [.ref z.T, .int 0 u, .str nm t1, .str uri t2, .str loc t3, .str val t4] l 5
      (fun r l' => ∃ z' nds', TreeOk w.params b l' z' nds' ∧ nds'.map dt = setA uri loc nm val (nds.map dt) ∧ z'.T = z.T ∧ (∀ q ∈ l, Kept b q → q ∈ l') ∧ nds'.length ≤ nds.length + 1) := by
  intro dp un gd cn cs ad ccd cl outer A₀ base h₀ L m s Q E B F X N T' hk hd hu hret
  obtain ⟨ivs, hat, hivs⟩ := H.hat
  have hT := H.hT
  have hdT := H.hdT
  have hR := H.hR
  have hE := H.hE
  have hdE := H.hdE
  have hkE := H.hk
  have hrl : (refsOf z nds).length ≤ 100 := by simp [refsOf]; omega
  have h0x : (refsOf z nds)[Int.toNat 0]? = some (.ref z.el.a) := rfl
  have Fl : Func l := func_of N
  refine wpAny_call ?_
  k_dflt k_enter
  k_steps
  unfold Halt
  k_dflt (refine For_turns F' ?_)
  walk1
  walk1
  walk1
  refine iter_listTurns (vs := ivs) (lo := listOf ivs.toArray z.ac) rfl (by k_asm) (by k_asm) hat rfl rfl (fun I hI => items_inv (fun i m₁ nw => l = nw ∧ m₁ (Str.ofString "self") = some (.ref z.T) ∧ m₁ (Str.ofString "row") = some (.ref z.el.a) ∧ m₁ (Str.ofString "element") = some (.int 0 u) ∧
    m₁ (Str.ofString "name") = some (.str nm t1) ∧ m₁ (Str.ofString "uri") = some (.str uri t2) ∧ m₁ (Str.ofString "local") = some (.str loc t3) ∧ m₁ (Str.ofString "value") = some (.str val t4) ∧
    ∀ (j : Nat) (y : Nd), j < i → nds[j]? = some y → (y.uri == uri && y.loc == loc) = false) ⟨rfl, rfl, rfl, rfl, rfl, rfl, rfl, rfl, fun j y h => absurd h (Nat.not_lt_zero _)⟩ ?_ ?_)
  · rintro i v m₁ nw h tk' hv ⟨rfl, hs1, hs2, hs3, hs4, hs5, hs6, hs7, hmiss⟩ F1
    refine AllObj.cons fun o1 hc1 => AllObj.nil fun N1 => ?_
    replace F1 : Fr g' L' h m₁ := F1
    replace N1 : News g' L' h ((I, o1) :: l) := N1
    have hi : i < nds.length := by
      have h1 := (List.getElem?_eq_some_iff.mp hv).1
      have h2 := hivs.length
      simp [idx] at h2
      omega
    obtain ⟨x, hx⟩ : ∃ x, nds[i]? = some x := ⟨_, List.getElem?_eq_getElem hi⟩
    obtain ⟨hx1, hx2, hx3, hx4⟩ := H.hn x (List.mem_of_getElem? hx)
    obtain ⟨tv, htv⟩ := hivs.get i ((i : Int) + 1) (by simp [idx, hi])
    obtain rfl : v = .int ((i : Int) + 1) tv := Option.some.inj (hv.symm.trans htv)
    have hitem : (refsOf z nds)[Int.toNat ((i : Int) + 1)]? = some (.ref x.a) := by
      have : Int.toNat ((i : Int) + 1) = i + 1 := by omega
      rw [this]
      simp [refsOf, hx]
    have Fn : Func ((I, o1) :: l) := func_of N1
    have hxoff : (x.a, instObj 111 x.d) ∈ off x.d ((I, o1) :: l) := off_mem (.tail _ hx1) (Fn.ne (.tail _ hx1) (.tail _ hx2) ne_inst_dict)
    k_steps
    · refine set_nm (by k_asm) (by k_asm) (off_news N' (.tail _ hx2)) hxoff off_ne fun h'' F'' N'' => ?_
      k_steps
      refine hret _ ((x.d, dictOf (rowEs w.params (x.upd nm val t1 t4)) 9) :: off x.d l) _ _ (by k_asm) (news_sub (l := (x.d, dictOf (rowEs w.params (x.upd nm val t1 t4)) 9) :: off x.d ((I, o1) :: l)) (by k_asm) fun q hq => ?_) ⟨z, nds.set i (x.upd nm val t1 t4), tree_upd H Fl hx nm val t1 t4, setA_hit hmiss hx ?_, rfl, fun q hq hb => .tail _ (off_mem hq ?_), by rw [List.length_set]; omega⟩
      · rcases List.mem_cons.mp hq with rfl | hq
        · exact .head _
        · exact .tail _ (List.mem_filter.mpr ⟨.tail _ (List.mem_filter.mp hq).1, (List.mem_filter.mp hq).2⟩)
      · rw [‹(x.uri == uri) = true›, ‹(x.loc == loc) = true›]; rfl
      · exact kept_ne Fl hq hb hx2 hx4 (.inr rfl)
    · refine endW F' N' (fun q hq => Nat.ne_of_lt (hI q hq)) ⟨⟨hat, trivial⟩, rfl, hs1, hs2, hs3, hs4, hs5, hs6, hs7, miss_step hmiss hx ?_⟩
      rw [‹(x.uri == uri) = true›, ‹(x.loc == loc) = false›]; rfl
    · refine endW F' N' (fun q hq => Nat.ne_of_lt (hI q hq)) ⟨⟨hat, trivial⟩, rfl, hs1, hs2, hs3, hs4, hs5, hs6, hs7, miss_step hmiss hx ?_⟩
      rw [‹(x.uri == uri) = false›]; rfl
  · rintro m₁ nw h tk' ⟨rfl, hs1, hs2, hs3, hs4, hs5, hs6, hs7, hmiss⟩ F1 N1
    replace F1 : Fr g' L' h m₁ := F1
    replace N1 : News g' L' h l := N1
    have hivl : ivs.length = nds.length := by have h2 := hivs.length; simpa [idx] using h2
    have hmiss2 : ∀ (j : Nat) (y : Nd), nds[j]? = some y → (y.uri == uri && y.loc == loc) = false := fun j y hy => hmiss j y (by have := (List.getElem?_eq_some_iff.mp hy).1; omega) hy
    have eRA : z.R ≠ z.el.at_ := Fl.ne hR hat (refs_ne_ints hivs)
    have eTR : z.T ≠ z.R := Fl.ne hT hR ne_inst_list
    have edR : z.dT ≠ z.R := Fl.ne hdT hR ne_dict_list
    have hE9 : (z.el.a, instObj 111 z.el.d) ∈ off z.R l := off_mem hE (Fl.ne hE hR ne_inst_list)
    have hdE9 : (z.el.d, dictOf (rowEs w.params z.el) 9) ∈ off z.R l := off_mem hdE (Fl.ne hdE hR ne_dict_list)
    have hat9 : (z.el.at_, listOf ivs.toArray z.ac) ∈ off z.R l := off_mem hat (Ne.symm eRA)
    dsimp only
    k_steps
    have kF : Fr h₀ L h' m := by k_asm
    have kN := ‹News h₀ L h' _›
    have e0 : ((refsOf z nds).length : Int) = (nds.length : Int) + 1 := by simp [refsOf]
    rw [e0] at kN ⊢
    refine hret _ _ _ _ kF kN ⟨{ z with rc := z.rc + 1, ac := z.ac + 1 }, nds ++ [x9], tree_new H Fl x9 e1 ?_ lo9 lo1 ivs (z.ac + 1) hat hivs u9 ?_ (.head _), ?_, rfl, fun q hq hb => .tail _ (off_mem (.tail _ (.tail _ (.tail _ (.tail _ (.tail _ (.tail _ (off_mem hq ?_))))))) ?_), by rw [List.length_append]; exact Nat.le_refl _⟩
    · rw [key, e3, e4]; exact miss_key hmiss2
    · intro q hq
      rcases List.mem_cons.mp hq with rfl | hq
      · exact .tail _ (.tail _ (.tail _ (.tail _ (.head _))))
      rcases List.mem_cons.mp hq with rfl | hq
      · exact .tail _ (.tail _ (.tail _ (.tail _ (.tail _ (.head _)))))
      · exact .tail _ (.tail _ (.tail _ (.tail _ (.tail _ (.tail _ hq)))))
    · rw [List.map_append, setA_miss hmiss2]
      show _ ++ [dt x9] = _
      rw [dt, e2, e3, e4, e5]
    · exact kept_ne Fl hq hb hR H.lowR (.inl rfl)
    · exact kept_ne Fl hq hb hat H.lowA (.inl rfl)
end
end

/-- what a tree of questions ends at, the answers given -/
noncomputable def kasRun {α : Type} (lt : Nat → Nat → Bool) : KasT α → α
  | .ret a => a
  | .ask i j k => kasRun lt (k (lt i j))
noncomputable def kasIn {α : Type} (lt : Nat → Nat → Bool) (n : Nat) : KasT α → Bool
  | .ret _ => true
  | .ask i j k => Nat.blt i n && Nat.blt j n && kasIn lt n (k (lt i j))
theorem kas_by {α : Type} {ask : Nat → Nat → (Bool → Shared → Prop) → Shared → Prop} {lt : Nat → Nat → Bool} {n : Nat} {s : Shared} {Q : α → Shared → Prop} (ha : ∀ i j C, i < n → j < n → C (lt i j) s → ask i j C s) :
    ∀ t : KasT α, kasIn lt n t = true → Q (kasRun lt t) s → t.kasWp ask Q s
  | .ret _, _, h => h
  | .ask i j k, hi, h => by
    unfold kasIn at hi
    rw [Bool.and_eq_true, Bool.and_eq_true] at hi
    exact ha i j _ (by simpa using hi.1.1) (by simpa using hi.1.2) (kas_by ha (k (lt i j)) hi.2 h)
noncomputable abbrev ltP (ps : List Nat) (i j : Nat) : Bool := Nat.blt (ps.getD i 0) (ps.getD j 0)
noncomputable def sortP (ps : List Nat) : List Nat := (kasRun (ltP ps) (kas_sort ps.length)).toList
noncomputable def addE (es : List (Nat × Nat)) (i j : Nat) : List (Nat × Nat) :=
  ((i :: (es.filter fun e => e.2 == i).map (·.1)).flatMap fun a => (j :: (es.filter fun e => e.1 == j).map (·.2)).map fun b => (a, b)) ++ es
noncomputable def upE (es : List (Nat × Nat)) : List Nat → Bool
  | [] => true
  | [_] => true
  | a :: b :: r => es.contains (a, b) && upE es (b :: r)
/-- every way through the tree ends at the things in order: `es` holds what the answers so far tell -/
noncomputable def goodT (n : Nat) : KasT (Array Nat) → List (Nat × Nat) → Bool
  | .ret p, es => upE es p.toList && (p.toList.all fun i => Nat.blt i n) && (List.range n).all fun i => p.toList.contains i
  | .ask i j k, es => Nat.blt i n && Nat.blt j n && !(i == j) && (if es.contains (i, j) = true then goodT n (k true) es else if es.contains (j, i) = true then goodT n (k false) es else goodT n (k true) (addE es i j) && goodT n (k false) (addE es j i))
theorem add_ok {r : Nat → Nat} {es : List (Nat × Nat)} {i j : Nat} (h : ∀ e ∈ es, r e.1 < r e.2) (hij : r i < r j) : ∀ e ∈ addE es i j, r e.1 < r e.2 := by
  intro e he
  rcases List.mem_append.mp he with he | he
  · obtain ⟨a, ha, he⟩ := List.mem_flatMap.mp he
    obtain ⟨b, hb, rfl⟩ := List.mem_map.mp he
    have h1 : r a ≤ r i := by
      rcases List.mem_cons.mp ha with rfl | ha
      · exact Nat.le_refl _
      · obtain ⟨e, he2, rfl⟩ := List.mem_map.mp ha
        have h2 := List.mem_filter.mp he2
        have h3 := h e h2.1
        have h4 : e.2 = i := by simpa using h2.2
        rw [h4] at h3
        exact Nat.le_of_lt h3
    have h2 : r j ≤ r b := by
      rcases List.mem_cons.mp hb with rfl | hb
      · exact Nat.le_refl _
      · obtain ⟨e, he2, rfl⟩ := List.mem_map.mp hb
        have h2 := List.mem_filter.mp he2
        have h3 := h e h2.1
        have h4 : e.1 = j := by simpa using h2.2
        rw [h4] at h3
        exact Nat.le_of_lt h3
    show r a < r b
    omega
  · exact h e he
theorem up_ok {r : Nat → Nat} {es : List (Nat × Nat)} (h : ∀ e ∈ es, r e.1 < r e.2) : ∀ {l : List Nat}, upE es l = true → (l.map r).Pairwise (· < ·)
  | [], _ => .nil
  | [a], _ => by simp
  | a :: b :: l, hu => by
    unfold upE at hu
    rw [Bool.and_eq_true] at hu
    have ih := up_ok h hu.2
    have h1 : r a < r b := h (a, b) (by simpa using hu.1)
    rw [List.map_cons, List.pairwise_cons]
    refine ⟨fun c hc => ?_, ih⟩
    rw [List.map_cons] at hc ih
    rcases List.mem_cons.mp hc with rfl | hc
    · exact h1
    · exact Nat.lt_trans h1 ((List.pairwise_cons.mp ih).1 c hc)
theorem good_ok {r : Nat → Nat} {n : Nat} (hr : ∀ i j, i < n → j < n → i ≠ j → r i ≠ r j) : ∀ (t : KasT (Array Nat)) (es : List (Nat × Nat)), (∀ e ∈ es, r e.1 < r e.2) → goodT n t es = true →
    kasIn (fun i j => Nat.blt (r i) (r j)) n t = true ∧ ((kasRun (fun i j => Nat.blt (r i) (r j)) t).toList.map r).Pairwise (· < ·) ∧ (∀ x, x ∈ (kasRun (fun i j => Nat.blt (r i) (r j)) t).toList ↔ x < n)
  | .ret p, es, h, hg => by
    unfold goodT at hg
    rw [Bool.and_eq_true, Bool.and_eq_true] at hg
    refine ⟨rfl, up_ok h hg.1.1, fun i => ⟨fun hi => ?_, fun hi => ?_⟩⟩
    · have := List.all_eq_true.mp hg.1.2 i hi
      simpa using this
    · have := List.all_eq_true.mp hg.2 i (List.mem_range.mpr hi)
      exact List.contains_iff_mem.mp this
  | .ask i j k, es, h, hg => by
    unfold goodT at hg
    rw [Bool.and_eq_true, Bool.and_eq_true, Bool.and_eq_true] at hg
    obtain ⟨⟨⟨h1, h2⟩, h3⟩, h4⟩ := hg
    have hi : i < n := by simpa using h1
    have hj : j < n := by simpa using h2
    have hne : i ≠ j := by simpa using h3
    have go : ∀ b, Nat.blt (r i) (r j) = b → (kasIn (fun i j => Nat.blt (r i) (r j)) n (k b) = true ∧ ((kasRun (fun i j => Nat.blt (r i) (r j)) (k b)).toList.map r).Pairwise (· < ·) ∧ (∀ x, x ∈ (kasRun (fun i j => Nat.blt (r i) (r j)) (k b)).toList ↔ x < n)) →
        kasIn (fun i j => Nat.blt (r i) (r j)) n (.ask i j k) = true ∧ ((kasRun (fun i j => Nat.blt (r i) (r j)) (.ask i j k)).toList.map r).Pairwise (· < ·) ∧ (∀ x, x ∈ (kasRun (fun i j => Nat.blt (r i) (r j)) (.ask i j k)).toList ↔ x < n) := by
      intro b e g
      unfold kasIn kasRun
      rw [e, h1, h2]
      exact g
    by_cases hlt : r i < r j
    · have e : Nat.blt (r i) (r j) = true := by simpa using hlt
      refine go true e ?_
      by_cases c1 : es.contains (i, j) = true
      · rw [if_pos c1] at h4
        exact good_ok hr (k true) es h h4
      · rw [if_neg c1] at h4
        by_cases c2 : es.contains (j, i) = true
        · have := h (j, i) (List.contains_iff_mem.mp c2)
          dsimp only at this
          omega
        · rw [if_neg c2, Bool.and_eq_true] at h4
          exact good_ok hr (k true) _ (add_ok h hlt) h4.1
    · have e : Nat.blt (r i) (r j) = false := by
        cases hb : Nat.blt (r i) (r j) with
        | false => rfl
        | true => exact absurd (by simpa using hb) hlt
      refine go false e ?_
      have hgt : r j < r i := by have := hr i j hi hj hne; omega
      by_cases c1 : es.contains (i, j) = true
      · have := h (i, j) (List.contains_iff_mem.mp c1)
        dsimp only at this
        omega
      · rw [if_neg c1] at h4
        by_cases c2 : es.contains (j, i) = true
        · rw [if_pos c2] at h4
          exact good_ok hr (k false) es h h4
        · rw [if_neg c2, Bool.and_eq_true] at h4
          exact good_ok hr (k false) _ (add_ok h hgt) h4.2
theorem good_all : ((List.range 7).all fun n => goodT n (kas_sort n) []) = true := by decide +kernel
theorem up_same : ∀ {a b : List Nat}, a.Pairwise (· < ·) → b.Pairwise (· < ·) → (∀ x, x ∈ a ↔ x ∈ b) → a = b
  | [], [], _, _, _ => rfl
  | [], y :: b, _, _, h => by have := (h y).mpr (.head _); cases this
  | x :: a, [], _, _, h => by have := (h x).mp (.head _); cases this
  | x :: a, y :: b, ha, hb, h => by
    have ha' := List.pairwise_cons.mp ha
    have hb' := List.pairwise_cons.mp hb
    have e : x = y := by
      rcases List.mem_cons.mp ((h x).mp (.head _)) with e | hx
      · exact e
      · rcases List.mem_cons.mp ((h y).mpr (.head _)) with e | hy
        · exact e.symm
        · have h1 := hb'.1 x hx
          have h2 := ha'.1 y hy
          omega
    subst e
    rw [up_same ha'.2 hb'.2 fun z => ?_]
    constructor
    · intro hz
      rcases List.mem_cons.mp ((h z).mp (.tail _ hz)) with e | hz'
      · have := ha'.1 z hz; omega
      · exact hz'
    · intro hz
      rcases List.mem_cons.mp ((h z).mpr (.tail _ hz)) with e | hz'
      · have := hb'.1 z hz; omega
      · exact hz'
theorem range_up : ∀ n, (List.range n).Pairwise (· < ·)
  | 0 => .nil
  | n + 1 => by
    rw [List.range_succ, List.pairwise_append]
    exact ⟨range_up n, by simp, fun a ha b hb => by rw [List.mem_singleton.mp hb]; exact List.mem_range.mp ha⟩
noncomputable def chkP (ps : List Nat) : Bool := kasIn (ltP ps) ps.length (kas_sort ps.length) && ((sortP ps).map fun i => ps.getD i 0) == (List.range 7).filter ps.contains
theorem chk_ok {ps : List Nat} (hn : ps.Nodup) (hl : ∀ p ∈ ps, p < 7) (h6 : ps.length ≤ 6) : chkP ps = true := by
  have hg : goodT ps.length (kas_sort ps.length) [] = true := List.all_eq_true.mp good_all ps.length (List.mem_range.mpr (by omega))
  have hinj : ∀ i j, i < ps.length → j < ps.length → i ≠ j → ps.getD i 0 ≠ ps.getD j 0 := by
    intro i j hi hj hne e
    rw [List.getD_eq_getElem?_getD, List.getD_eq_getElem?_getD, List.getElem?_eq_getElem hi, List.getElem?_eq_getElem hj] at e
    exact hne ((List.getElem?_inj hi hn).mp (by rw [List.getElem?_eq_getElem hi, List.getElem?_eq_getElem hj]; exact congrArg some e))
  obtain ⟨h1, h2, h3⟩ := good_ok (r := fun i => ps.getD i 0) (n := ps.length) hinj _ [] (fun e he => by cases he) hg
  unfold chkP
  rw [Bool.and_eq_true]
  refine ⟨h1, beq_iff_eq.mpr (up_same h2 ((range_up 7).filter _) fun x => ?_)⟩
  rw [List.mem_map, List.mem_filter, List.mem_range, List.contains_iff_mem]
  constructor
  · rintro ⟨i, hi, rfl⟩
    have hi' := (h3 i).mp hi
    have : ps.getD i 0 ∈ ps := by rw [List.getD_eq_getElem?_getD, List.getElem?_eq_getElem hi']; exact List.getElem_mem hi'
    exact ⟨hl _ this, this⟩
  · rintro ⟨_, hx⟩
    obtain ⟨i, hi, rfl⟩ := List.getElem_of_mem hx
    exact ⟨i, (h3 i).mpr hi, by rw [List.getD_eq_getElem?_getD, List.getElem?_eq_getElem hi]; rfl⟩
theorem run0 (lt : Nat → Nat → Bool) : (kasRun lt (kas_sort 0)).toList = [] := by
  have : kas_sort 0 = .ret #[] := by kernel_rfl
  rw [this]; rfl
theorem run1 (lt : Nat → Nat → Bool) : (kasRun lt (kas_sort 1)).toList = [0] := by
  have : kas_sort 1 = .ret #[0] := by kernel_rfl
  rw [this]; rfl
section
variable {prog : Program} {w : World} {A : Around} {E : Value → Shared → Prop} {s : Shared} {h₀ : Heap} {L : Addr} {m : Str → Option Value} {news : Led} {vs : List Value}
/-- a list of at most one thing, sorted: no question is asked -/
theorem lsort_few {a : Addr} {n : Nat} {P : PySem.Fin → Shared → Prop} (F : Fr h₀ L s.heap m) (N : News h₀ L s.heap news) (ho : s.heap.get? a = some (seqObj "list" vs.toArray n)) (haL : a ≠ L) (ha0 : h₀.get? a = none) (hna : ∀ p ∈ news, p.1 ≠ a)
    (h1 : vs.length < 2) (h : ∀ c h', Fr h₀ L h' m → News h₀ L h' ((a, listOf vs.toArray c) :: news) → P (.done (.ret .none)) { s with heap := h' }) :
    wpAny (model prog w) A (Builtin.«list.sort» ⟨[.ref a], []⟩) P E s := by
  have s1 := Heap.SameBut.update s.heap a (Obj.mapSeq fun _ => (#[] : Array Value))
  obtain ⟨e1, ho1⟩ : ∃ e1, (s.heap.update a (Obj.mapSeq fun _ => (#[] : Array Value))).get? a = some (seqObj "list" #[] e1) := ⟨_, get?_update_seq ho fun _ => #[]⟩
  have F3 : Fr h₀ L (((s.heap.update a (Obj.mapSeq fun _ => (#[] : Array Value))).push (seqObj "tuple" vs.toArray 0)).push (seqObj "list" #[] 0)) m := ((kas_fr F s1 haL ha0).push _).push _
  have N2 : News h₀ L (((s.heap.update a (Obj.mapSeq fun _ => (#[] : Array Value))).push (seqObj "tuple" vs.toArray 0)).push (seqObj "list" #[] 0)) news :=
    (kas_news N s1 hna).grown fun b x e => Heap.get?_push_of_some _ (Heap.get?_push_of_some _ e)
  have ho3 := Heap.get?_push_of_some (seqObj "list" #[] 0) (Heap.get?_push_of_some (seqObj "tuple" vs.toArray 0) ho1)
  rw [list_sort_plain]
  refine wpAny_bind (listItems_at ho rfl ?_)
  refine wpAny_bind (listUpdate_at ho rfl ?_ (by rw [List.size_toArray, sizeLine_eq]; omega) (Nat.zero_le _))
  refine wpAny_bind (seqEpoch_at ho1 rfl ?_)
  refine wpAny_bind (wpAny_newTuple ?_ (by show vs.length ≤ _; rw [sizeLine_eq]; omega))
  refine wpAny_bind (wpAny_newList ?_ (Nat.zero_le _))
  refine wpAny_holding ?_
  show wpAny (model prog w) A _ P E { s with heap := ((s.heap.update a (Obj.mapSeq fun _ => (#[] : Array Value))).push (seqObj "tuple" vs.toArray 0)).push (seqObj "list" #[] 0) }
  dsimp only
  have hp2 : vs.toArray.size < 2 := by rw [List.size_toArray]; exact h1
  rw [if_pos hp2, if_pos hp2]
  refine wpAny_bind (wpAny_pure ?_)
  rw [StateT.run_pure]
  refine wpAny_bind (wpAny_pure ?_)
  dsimp only
  have hout : (arrOf (SortSt.mk' general' (vs.toArray.zip vs.toArray) #[] 7 none)).map (·.2) = vs.toArray := by
    apply Array.toList_inj.mp
    show ((vs.toArray.zip vs.toArray).map (·.2)).toList = _
    simp [List.map_snd_zip]
  refine wpAny_bind (seqEpoch_at ho3 rfl ?_)
  refine wpAny_bind (listUpdate_at ho3 rfl ?_ (Nat.zero_le _) ?_)
  · simp only [bne_self_eq_false, Bool.false_eq_true, if_false]
    rw [hout]
    have s2 := Heap.SameBut.update (((s.heap.update a (Obj.mapSeq fun _ => (#[] : Array Value))).push (seqObj "tuple" vs.toArray 0)).push (seqObj "list" #[] 0)) a (Obj.mapSeq fun _ => vs.toArray)
    obtain ⟨c2, hc2⟩ : ∃ c2, ((((s.heap.update a (Obj.mapSeq fun _ => (#[] : Array Value))).push (seqObj "tuple" vs.toArray 0)).push (seqObj "list" #[] 0)).update a (Obj.mapSeq fun _ => vs.toArray)).get? a = some (seqObj "list" vs.toArray c2) := ⟨_, get?_update_seq ho3 fun _ => vs.toArray⟩
    refine wpAny_pure (h c2 _ (kas_fr F3 s2 haL ha0) ?_)
    intro q hq
    rcases List.mem_cons.mp hq with rfl | hq
    · exact ⟨hc2, haL, ha0⟩
    · exact kas_news N2 s2 hna q hq
  · rw [hout, List.size_toArray, sizeLine_eq]; omega
theorem sorted_few {l : Addr} {Q : Value → Shared → Prop} (F : Fr h₀ L s.heap m) (N : News h₀ L s.heap news) (hl : s.heap.IsList l vs.toArray) (h1 : vs.length < 2)
    (h : ∀ D c h', Fr h₀ L h' m → News h₀ L h' ((D, listOf vs.toArray c) :: news) → (∀ q ∈ news, q.1 < D) → Q (.ref D) { s with heap := h' }) :
    wpAny (model prog w) A (call (.builtin "sorted") [.ref l]) Q E s := by
  refine Calls.call_function_entry kind_sorted plain_sorted entry_sorted (args_sorted1 _) ?_
  unfold Builtin.«sorted»
  refine wpAny_bind (m := checkCount "sorted" 1 1 _) (wpAny_pure ?_)
  refine wpAny_bind (collect_list hl ?_ (by rw [sizeLine_eq]; omega))
  refine wpAny_bind (wpAny_newList ?_ (by rw [sizeLine_eq]; omega))
  have hsz : ((s.heap.push (seqObj "list" #[] 0)).update s.heap.objs.size (Obj.mapSeq (· ++ vs.toArray))).objs.size = s.heap.objs.size + 1 := by
    rw [Heap.size_update, size_push']
  have hoL : (((s.heap.push (seqObj "list" #[] 0)).update s.heap.objs.size (Obj.mapSeq (· ++ vs.toArray))).push (seqObj "list" vs.toArray 0)).get? (s.heap.objs.size + 1) = some (seqObj "list" vs.toArray 0) := by
    rw [← hsz]; exact Heap.get?_push_size _ rfl
  have keep : ∀ b o, s.heap.get? b = some o → (((s.heap.push (seqObj "list" #[] 0)).update s.heap.objs.size (Obj.mapSeq (· ++ vs.toArray))).push (seqObj "list" vs.toArray 0)).get? b = some o := fun b o q => by
    have hlt : b < s.heap.objs.size := Heap.lt_size q
    rw [Heap.get?_push_ne _ _ _ (by rw [hsz]; exact Nat.ne_of_lt (Nat.lt_succ_of_lt hlt)), Heap.get?_update_ne _ _ _ _ (Nat.ne_of_lt hlt), Heap.get?_push_ne _ _ _ (Nat.ne_of_lt hlt)]
    exact q
  have hL : L < s.heap.objs.size := F.ns.lt
  show wpAny _ _ _ _ _ { s with heap := ((s.heap.push (seqObj "list" #[] 0)).update s.heap.objs.size (Obj.mapSeq (· ++ vs.toArray))).push (seqObj "list" vs.toArray 0) }
  rw [hsz]
  refine wpAny_bind (wpAny_holding (wpAny_call_entry slot_list_sort ⟨_, hoL, rfl⟩ entry_list_sort ?body (args_list_sort _)))
  case body =>
    refine lsort_few (s := { s with heap := ((s.heap.push (seqObj "list" #[] 0)).update s.heap.objs.size (Obj.mapSeq (· ++ vs.toArray))).push (seqObj "list" vs.toArray 0) })
      (F.kept keep) (N.grown keep) hoL (Nat.ne_of_gt (Nat.lt_succ_of_lt hL)) (Heap.get?_none_of_le (Nat.le_trans F.above (Nat.le_succ_of_le (Nat.le_of_lt hL))))
      (fun p hp => Nat.ne_of_lt (Nat.lt_succ_of_lt (Heap.lt_size (N p hp).1))) h1 fun c h' F' N' => ?_
    exact ⟨_, rfl, wpAny_pure ⟨_, rfl, h _ c h' F' N' fun q hq => Nat.lt_succ_of_lt (Heap.lt_size (N q hq).1)⟩⟩
end

noncomputable abbrev Trip := Str × Str × Str
noncomputable def rowAt (p : Nat) : Trip := nameTab.getD p (Str.ofString "", Str.ofString "", Str.ofString "")
noncomputable abbrev PV := Nat × Str
noncomputable abbrev dtOf (x : PV) : Dt := ((rowAt x.1).1, (rowAt x.1).2.1, (rowAt x.1).2.2, x.2)
theorem lt_one : ∀ p q : Fin 7, (rowAt p).1 ≠ (rowAt q).1 → decide ((rowAt p).1.cps.toList < (rowAt q).1.cps.toList) = Nat.blt p q := by decide +kernel
theorem lt_two : ∀ p q : Fin 7, (rowAt p).1 = (rowAt q).1 → (rowAt p).2.1 ≠ (rowAt q).2.1 → decide ((rowAt p).2.1.cps.toList < (rowAt q).2.1.cps.toList) = Nat.blt p q := by decide +kernel
theorem lt_three : ∀ p q : Fin 7, (rowAt p).1 = (rowAt q).1 → (rowAt p).2.1 = (rowAt q).2.1 → p = q := by decide +kernel
/-- tuples of four texts, as the ledger bears them -/
noncomputable def QuadIn (led : Led) (vs : List Value) (ds : List Dt) : Prop :=
  vs.length = ds.length ∧ ∀ (i : Nat) (q : Dt), ds[i]? = some q → ∃ a u1 u2 u3 u4 c, vs[i]? = some (Value.ref a) ∧ (a, tupObj [Value.str q.1 u1, Value.str q.2.1 u2, Value.str q.2.2.1 u3, Value.str q.2.2.2 u4] c) ∈ led
theorem ne_str_tup : (Value.type "str" != Value.type "tuple") = true := by decide +kernel
theorem sortP_eq {ps : List Nat} {n : Nat} (h : ps.length = n) : sortP ps = (kasRun (ltP ps) (kas_sort n)).toList := by subst h; rfl
theorem few_same (lt : Nat → Nat → Bool) : ∀ {vs : List Value}, vs.length < 2 → ((kasRun lt (kas_sort vs.length)).toList.map fun i => vs.getD i Value.none) = vs
  | [], _ => by rw [List.length_nil, run0]; rfl
  | [v], _ => by rw [List.length_singleton, run1]; rfl
  | _ :: _ :: _, h => by simp at h; omega
theorem sort_few {ps : List Nat} {vs : List Value} (h : ps.length = vs.length) (h2 : vs.length < 2) : ((sortP ps).map fun i => vs.getD i Value.none) = vs := by
  rw [sortP_eq h]; exact few_same _ h2
theorem chk_in {ps : List Nat} (hn : ps.Nodup) (hl : ∀ p ∈ ps, p < 7) (h6 : ps.length ≤ 6) : kasIn (ltP ps) ps.length (kas_sort ps.length) = true := by
  have h := chk_ok hn hl h6
  unfold chkP at h
  rw [Bool.and_eq_true] at h
  exact h.1
theorem chk_row {ps : List Nat} (hn : ps.Nodup) (hl : ∀ p ∈ ps, p < 7) (h6 : ps.length ≤ 6) : ((sortP ps).map fun i => ps.getD i 0) = (List.range 7).filter ps.contains := by
  have h := chk_ok hn hl h6
  unfold chkP at h
  rw [Bool.and_eq_true] at h
  exact beq_iff_eq.mp h.2
section
variable {prog : Program} {w : World} {A : Around} {E : Value → Shared → Prop} {s : Shared} {h₀ : Heap} {L : Addr} {m : Str → Option Value} {news : Led} {vs : List Value}
theorem ask_rows {pvs : List PV} {i j : Nat} {C : Bool → Shared → Prop} (N : News h₀ L s.heap news) (hq : QuadIn news vs (pvs.map dtOf)) (hn : (pvs.map (·.1)).Nodup) (h7 : ∀ x ∈ pvs, x.1 < 7) (hi : i < vs.length) (hj : j < vs.length)
    (h : C (ltP (pvs.map (·.1)) i j) s) : kas_ask prog w A (tuples' true) vs i j C s := by
  have hl : vs.length = pvs.length := by simpa using hq.1
  have hi' : i < pvs.length := by omega
  have hj' : j < pvs.length := by omega
  obtain ⟨a, u1, u2, u3, u4, c, ha, ma⟩ := hq.2 i (dtOf pvs[i]) (by rw [List.getElem?_map, List.getElem?_eq_getElem hi']; rfl)
  obtain ⟨b, v1, v2, v3, v4, d, hb, mb⟩ := hq.2 j (dtOf pvs[j]) (by rw [List.getElem?_map, List.getElem?_eq_getElem hj']; rfl)
  have ei : (pvs.map (·.1)).getD i 0 = pvs[i].1 := by simp [hi']
  have ej : (pvs.map (·.1)).getD j 0 = pvs[j].1 := by simp [hj']
  unfold ltP at h
  rw [ei, ej] at h
  have p7 := h7 _ (List.getElem_mem hi')
  have q7 := h7 _ (List.getElem_mem hj')
  unfold kas_ask
  rw [List.getD_eq_getElem?_getD, List.getD_eq_getElem?_getD, ha, hb]
  refine kat_lt (N _ ma).1 rfl (N _ mb).1 rfl ?_
  refine kat_cons (wpAny_eqBool_str ?_)
  by_cases e1 : (rowAt pvs[i].1).1 = (rowAt pvs[j].1).1
  · rw [decide_eq_true e1]
    refine kat_yes (kat_cons (wpAny_eqBool_str ?_))
    by_cases e2 : (rowAt pvs[i].1).2.1 = (rowAt pvs[j].1).2.1
    · have e3 : pvs[i].1 = pvs[j].1 := congrArg Fin.val (lt_three ⟨_, p7⟩ ⟨_, q7⟩ e1 e2)
      have e4 : i = j := by
        have := (List.getElem?_inj (l := pvs.map (·.1)) (i := i) (j := j) (by simpa using hi') hn).mp (by simp [hi', hj', e3])
        exact this
      subst e4
      rw [decide_eq_true e2]
      refine kat_yes (kat_cons (wpAny_eqBool_str ?_))
      rw [decide_eq_true rfl]
      refine kat_yes (kat_cons (wpAny_eqBool_str ?_))
      rw [decide_eq_true rfl]
      refine kat_yes (kat_nil ?_)
      have z : Nat.blt pvs[i].1 pvs[i].1 = false := Bool.eq_false_iff.mpr fun hz => absurd (Nat.blt_eq.mp hz) (Nat.lt_irrefl _)
      rw [z] at h
      exact h
    · rw [decide_eq_false e2]
      refine kat_no (kat_one _ _ (lt_str ?_))
      rw [lt_two ⟨_, p7⟩ ⟨_, q7⟩ e1 e2]
      exact h
  · rw [decide_eq_false e1]
    refine kat_no (oneLt_str ?_)
    rw [lt_one ⟨_, p7⟩ ⟨_, q7⟩ e1]
    exact h
theorem tups_of : ∀ {vs : List Value} {ds : List Dt} {h : Heap}, News h₀ L h news → QuadIn news vs ds → ∃ fs : List Value, KatTups h vs fs ∧ fs.length = vs.length ∧ ∀ v ∈ fs, ∃ x t, v = Value.str x t
  | [], _, _, _, _ => ⟨[], .nil, rfl, fun v hv => by cases hv⟩
  | v :: r, [], _, _, hq => by have := hq.1; simp at this
  | v :: r, q :: ds, h, N, hq => by
    obtain ⟨fs, h1, h2, h3⟩ := tups_of (vs := r) (ds := ds) N ⟨Nat.succ.inj hq.1, fun i q' e => by
      obtain ⟨a, u1, u2, u3, u4, c, ha, ma⟩ := hq.2 (i + 1) q' e
      exact ⟨a, u1, u2, u3, u4, c, ha, ma⟩⟩
    obtain ⟨a, u1, u2, u3, u4, c, ha, ma⟩ := hq.2 0 q rfl
    obtain rfl : v = .ref a := Option.some.inj ha
    refine ⟨.str q.1 u1 :: fs, .cons (N _ ma).1 rfl rfl rfl h1, by simp [h2], fun v hv => ?_⟩
    rcases List.mem_cons.mp hv with rfl | hv
    · exact ⟨_, _, rfl⟩
    · exact h3 v hv
/-- rows of told attributes, sorted -/
theorem sorted_rows {pvs : List PV} {l : Addr} {Q : Value → Shared → Prop} {c₀ : Nat} (F : Fr h₀ L s.heap m) (N : News h₀ L s.heap news) (hl : (l, listOf vs.toArray c₀) ∈ news) (hq : QuadIn news vs (pvs.map dtOf)) (hn : (pvs.map (·.1)).Nodup) (h7 : ∀ x ∈ pvs, x.1 < 7) (h6 : pvs.length ≤ 6)
    (h : ∀ D c h', Fr h₀ L h' m → News h₀ L h' ((D, listOf ((sortP (pvs.map (·.1))).map fun i => vs.getD i Value.none).toArray c) :: news) → (∀ q ∈ news, q.1 < D) → Q (.ref D) { s with heap := h' }) :
    wpAny (model prog w) A (call (.builtin "sorted") [.ref l]) Q E s := by
  have hlen : vs.length = pvs.length := by simpa using hq.1
  have hpl : (pvs.map (·.1)).length = vs.length := by rw [List.length_map, hlen]
  have hsl : s.heap.IsList l vs.toArray := ⟨_, (N _ hl).1, rfl, _, rfl⟩
  have b6 : vs.length ≤ 6 := by omega
  rcases Nat.lt_or_ge vs.length 2 with h2 | h2
  · refine sorted_few F N hsl h2 fun D c h' F' N' lD => h D c h' F' ?_ lD
    rw [sort_few hpl h2]
    exact N'
  · have hck := chk_in hn (fun p hp => by obtain ⟨x, hx, rfl⟩ := List.mem_map.mp hp; exact h7 x hx) (Nat.le_trans (Nat.le_of_eq hpl) b6)
    rw [hpl] at hck
    refine kat_sorted F N hsl h2 (Nat.lt_of_le_of_lt b6 (by decide)) fun D e1 h' F' N' lD => ?_
    obtain ⟨fs, t1, t2, t3⟩ := tups_of (news := news) (fun q hq => N' q (.tail _ hq)) hq
    refine kat_kind (T := .type "str") t1 (by rw [t2]; exact Nat.lt_of_lt_of_le (by decide) h2) (fun v hv => ?_) rfl ?_
    · obtain ⟨x, t, rfl⟩ := t3 v hv
      exact Looks.of_pure rfl
    · rw [ne_str_tup]
      refine kas_by (lt := ltP (pvs.map (·.1))) (n := vs.length) (fun i j C hi hj hC => ask_rows (fun q hq => N' q (.tail _ hq)) hq hn h7 hi hj hC) _ hck ?_
      refine KasFin.intro F' N' (.head (fun q hq => Nat.ne_of_lt (lD q hq))) fun h'' c F'' N'' => h D c h'' F'' ?_ lD
      rw [sortP_eq hpl]
      exact N''
end

section
open PyProof.Rows.LCg
variable {prog : Program} {w : World} {A : Around} {E : Value → Shared → Prop} {s : Shared} {h₀ : Heap} {L : Addr} {m : Str → Option Value} {env : Env}
theorem four_assign {env : Env} {a b c d : Str} {pa pb pc pd tp : Pos} {kk : Nat} {T : Addr} {x y z u : Value} {m : Str → Option Value} {Q : Unit → Shared → Prop} (hh : A.handled = none) (ht : s.heap.IsTuple T #[x, y, z, u])
    (ha : env.kindOf a = some .local) (hb : env.kindOf b = some .local) (hc : env.kindOf c = some .local) (hd : env.kindOf d = some .local) (hp : (env.scope.kind == .class || (env.scope.kind == .module && env.locals != env.globals)) = false) (hn : s.heap.Ns env.locals m)
    (h : ∀ (h' : Heap) (tk : Nat), h'.Ns env.locals (fun q => if q = d then some u else if q = c then some z else if q = b then some y else if q = a then some x else m q) → (∀ c o, c ≠ env.locals → s.heap.get? c = some o → h'.get? c = some o) → Q () { s with heap := h', toks := tk }) :
    wpAny (model prog w) A (assign (.Tuple [.Name a pa, .Name b pb, .Name c pc, .Name d pd] kk tp) env (.ref T)) Q E s := by
  refine wpAny_assign_Tuple hh ht rfl rfl fun h₁ he₁ => ?_
  have hL : env.locals ≠ s.heap.objs.size := Nat.ne_of_lt hn.lt
  have hn₁ : h₁.Ns env.locals m := hn.at' fun o e => he₁ _ o hL e
  have up₁ : ∀ c o, s.heap.get? c = some o → h₁.get? c = some o := fun c o e => he₁ c o (Nat.ne_of_lt (Heap.lt_size e)) e
  show wpAny _ _ (assignInOrder [assign (.Name a pa) env, assign (.Name b pb) env, assign (.Name c pc) env, assign (.Name d pd) env] [x, y, z, u]) _ _ _
  refine assignInOrder_cons ?_
  refine wpAny_assign_Name (wpAny_storeName_local ha hn₁ (fun h₂ hn₂ hs₂ => ?_) hp)
  refine assignInOrder_cons ?_
  refine wpAny_assign_Name (wpAny_storeName_local hb hn₂ (fun h₃ hn₃ hs₃ => ?_) hp)
  refine assignInOrder_cons ?_
  refine wpAny_assign_Name (wpAny_storeName_local hc hn₃ (fun h₄ hn₄ hs₄ => ?_) hp)
  refine assignInOrder_cons ?_
  refine wpAny_assign_Name (wpAny_storeName_local hd hn₄ (fun h₅ hn₅ hs₅ => ?_) hp)
  refine assignInOrder_nil ?_
  exact h h₅ _ hn₅ fun c o hc e => hs₅.extBut c o hc (hs₄.extBut c o hc (hs₃.extBut c o hc (hs₂.extBut c o hc (up₁ c o e))))
/-- the block's four names take a row's items -/
theorem cassign4 {x y z u : Str} {px py pz pu tp : Pos} {kk : Nat} {scope : Scope} {cl : List (Str × Addr)} {vx vy vz vu : Value} {T : Addr} {c : Nat} {I C D : Addr} {oI oC oD : Obj} {mC : Str → Option Value} {news : Led} {Q : Unit → Shared → Prop}
    (hh : A.handled = none) (hC : NsObj oC mC) (F : Fr h₀ L s.heap m) (N : News h₀ L s.heap ((I, oI) :: (C, oC) :: (D, oD) :: news)) (off : Off3 I C D news) (ne : (@Ne Nat I C) ∧ (@Ne Nat I D) ∧ (@Ne Nat C D)) (hT : (T, tupObj [vx, vy, vz, vu] c) ∈ news)
    (hx : scope.names.lookup x = some .local) (hy : scope.names.lookup y = some .local) (hz : scope.names.lookup z = some .local) (hu : scope.names.lookup u = some .local) (hne : [x, y, z, u].Nodup) (hkind : scope.kind = .function)
    (next : ∀ h' tk' oC' mC', mC' x = some vx → mC' y = some vy → mC' z = some vz → mC' u = some vu → NsObj oC' mC' → Fr h₀ L h' m → News h₀ L h' ((I, oI) :: (C, oC') :: (D, oD) :: news) → Q () { s with heap := h', toks := tk' }) :
    wpAny (model prog w) A (assign (.Tuple [.Name x px, .Name y py, .Name z pz, .Name u pu] kk tp) (compEnvC scope cl C env) (.ref T)) Q E s := by
  have zC := N (C, oC) (.tail _ (.head _))
  have zT := N _ (.tail _ (.tail _ (.tail _ hT)))
  have hne' : ¬ x = y ∧ ¬ x = z ∧ ¬ x = u ∧ ¬ y = z ∧ ¬ y = u ∧ ¬ z = u := by
    simp only [List.nodup_cons, List.mem_cons, List.not_mem_nil, or_false, not_or] at hne
    exact ⟨hne.1.1, hne.1.2.1, hne.1.2.2, hne.2.1.1, hne.2.1.2, hne.2.2.1⟩
  refine four_assign (env := compEnvC scope cl C env) hh ⟨_, zT.1, rfl, _, rfl⟩ (lookup_relabel_local hx) (lookup_relabel_local hy) (lookup_relabel_local hz) (lookup_relabel_local hu) (by simp [compEnvC, relabel, hkind]) (hC.ns zC.1) fun h₃ tk₃ hn₃ hs₃ => ?_
  obtain ⟨oC', heC, hoC⟩ := ns_obj hn₃
  have F₃ : Fr h₀ L h₃ m := ⟨F.ns.at' fun o e => hs₃ _ o (Ne.symm zC.2.1) e, fun c o e => hs₃ c o (fun q => by rw [q] at e; exact absurd (e.symm.trans zC.2.2) (by simp)) (F.keep c o e), F.above⟩
  refine next h₃ _ oC' _ (by simp [hne']) (by simp [hne']) (by simp [hne']) (by simp) hoC F₃ fun p hp => ?_
  have off3 := off.mem
  rcases List.mem_cons.mp hp with rfl | hp
  · have z := N _ (.head _); exact ⟨hs₃ _ _ ne.1 z.1, z.2⟩
  · rcases List.mem_cons.mp hp with rfl | hp
    · exact ⟨heC, zC.2⟩
    · have z := N p (.tail _ (.tail _ hp))
      refine ⟨hs₃ _ _ ?_ z.1, z.2⟩
      rcases List.mem_cons.mp hp with rfl | hp
      · exact Ne.symm ne.2.2
      · exact (off3 p hp).2.1
end
local macro_rules | `(tactic| walk_at "call ref") => `(tactic| ((with_reducible refine at_call 227 ?_); k_dflt (open_k with (get_name _ _ _ _ _ _ _ _ _ _ ?a1 ?a2 ?a3 ?a4 ?a5 ?a6 ?a7 ?a8); walk_at "m3"; walk_at "m6"; walk_at "m8"; walk_at "kB"); walk_at "kJ"; walk_at "kR"))
local macro_rules | `(tactic| walk_at "call ref") => `(tactic| ((with_reducible refine at_call 234 ?_); k_dflt (open_k with (get_uri _ _ _ _ _ _ _ _ _ _ ?a1 ?a2 ?a3 ?a4 ?a5 ?a6 ?a7 ?a8); walk_at "m3"; walk_at "m6"; walk_at "m8"; walk_at "kB"); walk_at "kJ"; walk_at "kR"))
local macro_rules | `(tactic| walk_at "call ref") => `(tactic| ((with_reducible refine at_call 241 ?_); k_dflt (open_k with (get_local _ _ _ _ _ _ _ _ _ _ ?a1 ?a2 ?a3 ?a4 ?a5 ?a6 ?a7 ?a8); walk_at "m3"; walk_at "m6"; walk_at "m8"; walk_at "kB"); walk_at "kJ"; walk_at "kR"))
local macro_rules | `(tactic| walk_at "call ref") => `(tactic| ((with_reducible refine at_call 248 ?_); k_dflt (open_k with (get_value _ _ _ _ _ _ _ _ _ _ ?a1 ?a2 ?a3 ?a4 ?a5 ?a6 ?a7 ?a8); walk_at "m3"; walk_at "m6"; walk_at "m8"; walk_at "kB"); walk_at "kJ"; walk_at "kR"))
local macro_rules | `(tactic| walk_at "call ref") => `(tactic| ((with_reducible refine at_call 269 ?_); k_dflt (open_k with (attributes_ok _ _ _ _ _ _ _ _ _ _ _ _ ?a1 ?a2 ?a3 ?a4 ?a5 ?a6 ?a7 ?a8 ?a9 ?b1); walk_at "m3"; walk_at "m6"; walk_at "m8"; (case a9 => k_mem); (case b1 => omega); walk_at "kB"); walk_at "kJ"; obtain ⟨D9, n9, rfl, el9, lD9⟩ := P9; rw [el9] at N9; clear el9; (try k_sweep); (try k_fold)))
local macro_rules | `(tactic| walk_at "call ref") => `(tactic| ((with_reducible refine at_call 74 ?_); k_dflt (open_k with (cvalue_ok _ _ _ ?a1); (case a1 => assumption); walk_at "kB"); walk_at "kJ"; walk_at "kU"))
theorem sort_lt {ps : List Nat} (hn : ps.Nodup) (hl : ∀ p ∈ ps, p < 7) (h6 : ps.length ≤ 6) : ∀ j ∈ sortP ps, j < ps.length := by
  have hg : goodT ps.length (kas_sort ps.length) [] = true := List.all_eq_true.mp good_all ps.length (List.mem_range.mpr (by omega))
  have hinj : ∀ i j, i < ps.length → j < ps.length → i ≠ j → ps.getD i 0 ≠ ps.getD j 0 := by
    intro i j hi hj hne e
    rw [List.getD_eq_getElem?_getD, List.getD_eq_getElem?_getD, List.getElem?_eq_getElem hi, List.getElem?_eq_getElem hj] at e
    exact hne ((List.getElem?_inj hi hn).mp (by rw [List.getElem?_eq_getElem hi, List.getElem?_eq_getElem hj]; exact congrArg some e))
  obtain ⟨h1, h2, h3⟩ := good_ok (r := fun i => ps.getD i 0) (n := ps.length) hinj _ [] (fun e he => by cases he) hg
  exact fun j hj => (h3 j).mp hj
theorem sort_len {ps : List Nat} (hn : ps.Nodup) (hl : ∀ p ∈ ps, p < 7) (h6 : ps.length ≤ 6) : (sortP ps).length ≤ 7 := by
  have h := congrArg List.length (chk_row hn hl h6)
  rw [List.length_map] at h
  rw [h]
  exact List.length_filter_le _ _
theorem name_len : ∀ p : Fin 7, (rowAt p).2.2.length ≤ 3 := by decide +kernel
theorem value_len {x : Str} (hx : x.length ≤ 18) : (repl x valuePairs).length ≤ 839808 := by
  have := repl_len valueOk x
  have e : valuePairs.length = 6 := rfl
  rw [e] at this
  omega
theorem quad_mono {led led' : Led} {vs : List Value} {ds : List Dt} (h : QuadIn led vs ds) (hs : ∀ q ∈ led, q ∈ led') : QuadIn led' vs ds := ⟨h.1, fun i q e => by
  obtain ⟨a, v1, v2, v3, v4, c, h1, h2⟩ := h.2 i q e
  exact ⟨a, v1, v2, v3, v4, c, h1, hs _ h2⟩⟩
theorem quad_snoc {led led' : Led} {vs : List Value} {ds : List Dt} {q : Dt} {a : Addr} {u1 u2 u3 u4 : Tok} {c : Nat} (h : QuadIn led vs ds) (hs : ∀ q ∈ led, q ∈ led')
    (hm : (a, tupObj [Value.str q.1 u1, Value.str q.2.1 u2, Value.str q.2.2.1 u3, Value.str q.2.2.2 u4] c) ∈ led') : QuadIn led' (vs ++ [.ref a]) (ds ++ [q]) := by
  refine ⟨by rw [List.length_append, List.length_append, h.1]; rfl, fun i q' e => ?_⟩
  rcases Nat.lt_or_ge i ds.length with hi | hi
  · rw [List.getElem?_append_left hi] at e
    obtain ⟨a', v1, v2, v3, v4, c', h1, h2⟩ := h.2 i q' e
    exact ⟨a', v1, v2, v3, v4, c', by rw [List.getElem?_append_left (by rw [h.1]; exact hi)]; exact h1, hs _ h2⟩
  · rw [List.getElem?_append_right hi] at e
    have e0 : i - ds.length = 0 := by
      cases hk : i - ds.length with
      | zero => rfl
      | succ n => rw [hk] at e; simp at e
    rw [e0] at e
    obtain rfl : q = q' := by simpa using e
    refine ⟨a, u1, u2, u3, u4, c, ?_, hm⟩
    rw [List.getElem?_append_right (by rw [h.1]; exact hi), h.1, e0]
    rfl
section
variable {w : World} {p : Program} {loose : List Str} {mean : ExcName → Option Value} {mg mb : Str → Option Value}
noncomputable def piece (x : PV) : Str := Str.ofString " " ++ (rowAt x.1).2.2 ++ Str.ofString "=\"" ++ repl x.2 valuePairs ++ Str.ofString "\""
noncomputable abbrev pieceL (x : PV) : List Nat := (piece x).cps.toList
theorem app_len (a b : Str) : (a ++ b).length = a.length + b.length := Array.size_append
theorem piece_len {x : PV} (h7 : x.1 < 7) (hx : x.2.length ≤ 18) : (piece x).length ≤ 840000 := by
  have h1 := name_len ⟨x.1, h7⟩
  have h2 := value_len hx
  have e1 : (Str.ofString " ").length = 1 := by decide +kernel
  have e2 : (Str.ofString "=\"").length = 2 := by decide +kernel
  have e3 : (Str.ofString "\"").length = 1 := by decide +kernel
  unfold piece
  rw [app_len, app_len, app_len, app_len, e1, e2, e3]
  dsimp only at h1
  omega
noncomputable def told (pvs : List PV) : Str := ⟨((sortP (pvs.map (·.1))).flatMap fun i => pieceL (pvs.getD i (0, Str.ofString ""))).toArray⟩
section
local macro_rules | `(tactic| walk_at "exec Assign cons ListComp") => `(tactic| (k_here; refine Halt.out ?_))
local macro_rules | `(tactic| walk_at "eval ListComp") => `(tactic| (k_here; refine Halt.out ?_))
local macro_rules | `(tactic| walk_at "call builtin:sorted") => `(tactic| (k_here; refine Halt.out ?_))
theorem told_ok (b : Addr) (l : Led) (z : TS) (nds : List Nd) (u : Tok) (pvs : List PV) (H : TreeOk w.params b l z nds) (hpv : nds.map dt = pvs.map dtOf) (hn : (pvs.map (·.1)).Nodup) (h7 : ∀ x ∈ pvs, x.1 < 7) (h6 : pvs.length ≤ 6) (h18 : ∀ x ∈ pvs, x.2.length ≤ 18) :
    KC w p loose mean mg mb 86 [.ref z.T, .int 0 u] l 6 (fun r l' => ∃ t, r = .str (told pvs) t ∧ ∀ q ∈ l, q ∈ l') := by
  intro dp un gd cn cs ad ccd cl outer A₀ base h₀ L m s Q E B F X N T' hk hd hu hret
  obtain ⟨ivs, hat, hivs⟩ := H.hat
  have hT := H.hT
  have hdT := H.hdT
  have hR := H.hR
  have hE := H.hE
  have hdE := H.hdE
  have hlen : nds.length = pvs.length := by simpa using congrArg List.length hpv
  have hrl : (refsOf z nds).length ≤ 100 := by simp [refsOf]; omega
  have h0x : (refsOf z nds)[Int.toNat 0]? = some (.ref z.el.a) := rfl
  have hivl : ivs.length = nds.length := by have h2 := hivs.length; simpa [idx] using h2
  refine wpAny_call ?_
  k_dflt k_enter
  k_steps
  unfold Halt
  k_dflt (refine my_Assign_ListComp_L (by k_asm) (by rfl) (by rfl) (by rfl) (by decide) (by rfl) (by decide) (by rfl) (by rfl) ?_)
  k_steps
  refine ⟨D9, ivs, n9, _, fun i ys nw => QuadIn nw ys ((nds.map dt).take i) ∧ ys.length = i ∧ ∀ q ∈ (D9, listOf ivs.toArray n9) :: (L' + 1, oc1) :: l, q ∈ nw,
    rfl, rfl, by k_asm, by k_asm, ?_, ?_, ?_, ⟨⟨rfl, fun i q h => by simp at h⟩, rfl, fun q hq => hq⟩, ?_, ?_⟩
  · have := sizeLine_eq; omega
  · rintro i ys nw ⟨_, h3, _⟩; omega
  · rintro i ys nw ⟨_, _, h3⟩; exact h3 _ (.head _)
  · intro g i v ys nw I oI C oC D mC h tk E' hi hv ⟨h1, h2, h3⟩ hC F1 N1 off1 ne1
    have hT2 := h3 _ (.tail _ (.tail _ hT))
    have hdT2 := h3 _ (.tail _ (.tail _ hdT))
    have hR2 := h3 _ (.tail _ (.tail _ hR))
    have hc2 := h3 _ (.tail _ (.head _))
    have hi' : i < nds.length := by omega
    obtain ⟨x, hx⟩ : ∃ x, nds[i]? = some x := ⟨_, List.getElem?_eq_getElem hi'⟩
    obtain ⟨hx1, hx2, hx3, hx4⟩ := H.hn x (List.mem_of_getElem? hx)
    have hx12 := h3 _ (.tail _ (.tail _ hx1))
    have hx22 := h3 _ (.tail _ (.tail _ hx2))
    obtain ⟨tv, htv⟩ := hivs.get i ((i : Int) + 1) (by simp [idx, hi'])
    obtain rfl : v = .int ((i : Int) + 1) tv := Option.some.inj (hv.symm.trans htv)
    have hitem : (refsOf z nds)[Int.toNat ((i : Int) + 1)]? = some (.ref x.a) := by
      have : Int.toNat ((i : Int) + 1) = i + 1 := by omega
      rw [this]
      simp [refsOf, hx]
    refine cassign1 hC F1 N1 off1 ne1 rfl rfl ?_
    intro h2' tk2' oC2 mC2 hm2 hC2 F2 N2
    refine wpAny_tests_nil ?_
    simp only [if_true]
    clear F1 N1
    k_steps
    rename_i Dn hn Fn Nn lA1 lA2 l11
    have off2 := off1.mem
    refine CEnd.intro ((Dn, tupObj [Value.str x.uri x.turi, Value.str x.loc x.tloc, Value.str x.nm x.tnm, Value.str x.val x.tval] 0) :: nw) hC2 Fn (news_sub Nn (by intro q hq; simp only [List.mem_cons] at hq ⊢; rcases hq with hq | hq | hq | hq | hq <;> simp [hq])) (LCg.Off3.of fun q hq => ?_) ⟨?_, by rw [List.length_append, h2]; rfl, fun q hq => .tail _ (h3 q hq)⟩
    · rcases List.mem_cons.mp hq with rfl | hq
      · exact ⟨Nat.ne_of_gt lA1, Nat.ne_of_gt lA2, Nat.ne_of_gt lA⟩
      · exact off2 q hq
    · have e : (nds.map dt).take (i + 1) = (nds.map dt).take i ++ [dt x] := by
        rw [List.take_add_one, List.getElem?_map, hx]; rfl
      rw [e]
      exact quad_snoc h1 (fun q hq => .tail _ hq) (.head _)
  · rintro g ys nw ⟨h1, h2, h3⟩
    unfold LCg.FinA
    intro D h tk F1 N1 o1
    replace F1 : Fr g' L' h _ := F1
    replace N1 : News g' L' h ((D, LCg.lst ys) :: nw) := N1
    k_steps
    unfold Halt
    k_dflt (refine my_ListComp_L (by k_asm) (by rfl) (by decide) (by rfl) (by decide) ?_)
    k_steps
    unfold Halt
    have hq1 : QuadIn ((D, LCg.lst ys) :: nw) ys (pvs.map dtOf) := by
      have e : (nds.map dt).take ivs.length = pvs.map dtOf := by rw [hpv, List.take_of_length_le]; rw [List.length_map]; omega
      rw [e] at h1
      exact quad_mono h1 fun q hq => .tail _ hq
    k_dflt (refine sorted_rows (by k_asm) (by k_asm) (.head _) hq1 hn h7 h6 ?_)
    intro D2 c2 h2' F2 N2 lD2
    k_steps
    have hyl : ys.length = pvs.length := by omega
    have hps : (pvs.map (·.1)).length = pvs.length := List.length_map _
    have hslt : ∀ j ∈ sortP (pvs.map (·.1)), j < pvs.length := fun j hj => by rw [← hps]; exact sort_lt hn (by rintro p hp; obtain ⟨x, hx, rfl⟩ := List.mem_map.mp hp; exact h7 x hx) (by omega) j hj
    have hsl : (sortP (pvs.map (·.1))).length ≤ 7 := sort_len hn (by rintro p hp; obtain ⟨x, hx, rfl⟩ := List.mem_map.mp hp; exact h7 x hx) (by omega)
    refine ⟨D2, (sortP (pvs.map (·.1))).map fun i => ys.getD i Value.none, c2, _, fun i zs nw2 => ∃ yS, StrsAre zs yS ∧ zs.length = i ∧ yS.length = i ∧ catL yS = ((sortP (pvs.map (·.1))).take i).flatMap (fun j => pieceL (pvs.getD j (0, Str.ofString ""))) ∧ (∀ y ∈ yS, y.cps.size ≤ 840000) ∧ (D2, listOf ((sortP (pvs.map (·.1))).map fun i => ys.getD i Value.none).toArray c2) :: (D, LCg.lst ys) :: nw = nw2,
      rfl, rfl, by k_asm, by k_asm, ?_, ?_, ?_, ⟨[], .nil, rfl, rfl, rfl, by simp, rfl⟩, ?_, ?_⟩
    · rw [List.length_map]; have := sizeLine_eq; omega
    · rintro i zs nw2 ⟨yS, _, h3, _⟩; omega
    · rintro i zs nw2 ⟨yS, _, _, _, _, _, rfl⟩; exact .head _
    · intro g i v zs nw2 I oI C oC D3 mC h tk E' hi hv ⟨yS, s1, s2, s3, s4, s5, s6⟩ hC F1 N1 off1 ne1
      subst s6
      have hi' : i < (sortP (pvs.map (·.1))).length := by simpa using hi
      have hj := hslt _ (List.getElem_mem hi')
      obtain ⟨a, u1, u2, u3, u4, c, ha, ma⟩ := hq1.2 (sortP (pvs.map (·.1)))[i] (dtOf pvs[(sortP (pvs.map (·.1)))[i]]) (by rw [List.getElem?_map, List.getElem?_eq_getElem hj]; rfl)
      obtain rfl : v = .ref a := by
        rw [List.getElem?_map, List.getElem?_eq_getElem hi'] at hv
        have h9 : ys.getD (sortP (pvs.map (·.1)))[i] Value.none = v := Option.some.inj hv
        rw [List.getD_eq_getElem?_getD, ha] at h9
        exact h9.symm
      have hpj : pvs.getD (sortP (pvs.map (·.1)))[i] (0, Str.ofString "") = pvs[(sortP (pvs.map (·.1)))[i]] := by rw [List.getD_eq_getElem?_getD, List.getElem?_eq_getElem hj]; rfl
      generalize hxx : pvs[(sortP (pvs.map (·.1)))[i]] = x at ma hpj
      have hxm : x ∈ pvs := hxx ▸ List.getElem_mem hj
      have hx18 := h18 x hxm
      have hxn := name_len ⟨x.1, h7 x hxm⟩
      have hxv := value_len hx18
      refine cassign4 rfl hC F1 N1 off1 ne1 (.tail _ ma) rfl rfl rfl rfl (by decide) rfl ?_
      intro h2' tk2' oC2 mC2 hm1 hm2 hm3 hm4 hC2 F2 N2
      refine wpAny_tests_nil ?_
      simp only [if_true]
      clear F1 N1
      k_steps
      refine CEnd.intro _ hC2 F9 N9 off1 ⟨yS ++ [_], strs_snoc s1, by simp [s2], by simp [s3], ?_, ?_, rfl⟩
      · rw [List.take_add_one, List.getElem?_eq_getElem hi', List.flatMap_append, ← s4]
        show (yS ++ [piece x]).flatMap _ = _
        rw [List.flatMap_append]
        show _ ++ ((piece x).cps.toList ++ []) = _ ++ (pieceL (pvs.getD (sortP (pvs.map (·.1)))[i] (0, Str.ofString "")) ++ [])
        rw [hpj]
        rfl
      · intro y hy
        rcases List.mem_append.mp hy with hy | hy
        · exact s5 y hy
        · rw [List.mem_singleton.mp hy]
          exact piece_len (h7 x hxm) hx18
    · rintro g zs nw2 ⟨yS, s1, s2, s3, s4, s5, s6⟩
      subst s6
      intro D3 h tk F1 N1 o1
      k_steps
      have hsz := sum_len_le s5
      have hyl2 : yS.length ≤ 7 := by rw [s3, List.length_map]; exact hsl
      refine my_join N1 (.head _) s1 ?_ ?_
      · rw [emptyStr_len]; omega
      intro t' k'
      k_steps
      have e1 : Fr h₀ L h m := by with_reducible assumption
      have e2 : News h₀ L h ((D3, LCg.lst zs) :: (D2, listOf ((sortP (pvs.map (·.1))).map fun i => ys.getD i Value.none).toArray c2) :: (D, LCg.lst ys) :: nw) := by with_reducible assumption
      refine hret _ _ h _ e1 e2 ⟨_, str_eq ?_, fun q hq => .tail _ (.tail _ (.tail _ (h3 q (.tail _ (.tail _ hq)))))⟩
      rw [List.length_map, List.take_of_length_le (Nat.le_refl _)] at s4
      unfold told
      rw [← s4, ← join_nil yS]
end
end

local macro_rules | `(tactic| walk_at "call ref") => `(tactic| ((with_reducible refine at_call 136 ?_); k_dflt (open_k with (newrow_ok _ _ _ _ _ _ _ _ _ _ _ _ _ _ _ _ _ _ ?a1 ?a2 ?a3 ?a4 ?a5 ?a6); walk_at "m3"; (case a4 => omega); walk_at "o6"; walk_at "kB"); walk_at "kJ"; walk_at "kX"))
section
variable {w : World} {p : Program} {loose : List Str} {mean : ExcName → Option Value} {mg mb : Str → Option Value}
/-- a child of no parent -/
theorem addchild_ok (l : Led) (T dT R : Addr) (kr : Tok) (its : List Value) (c : Nat) (kd nm uri loc val : Str) (t1 t2 t3 t4 t5 : Tok)
    (hT : (T, instObj 300 dT) ∈ l) (hdT : (dT, dictOf [ent w.params "rows" kr (.ref R)] 1) ∈ l) (hR : (R, listOf its.toArray c) ∈ l) (hlen : its.length ≤ 100) (hTR : T ≠ R) (hdR : dT ≠ R) :
    KC w p loose mean mg mb 157 [.ref T, .none, .str kd t1, .str nm t2, .str uri t3, .str loc t4, .str val t5] l 4
      (fun r l' => ∃ (x : Nd) (u : Tok), r = Value.int ((its.length : Nat) : Int) u ∧ x.kd = kd ∧ x.nm = nm ∧ x.uri = uri ∧ x.loc = loc ∧ x.val = val ∧ x.par = Value.none ∧ (∀ q ∈ l, q.1 < x.d) ∧ @LT.lt Nat _ x.d x.a ∧ @LT.lt Nat _ x.a x.ch ∧ @LT.lt Nat _ x.ch x.at_ ∧ @LT.lt Nat _ x.at_ x.ns ∧
        l' = (R, listOf (its ++ [Value.ref x.a]).toArray (c + 1)) :: (x.ns, listOf #[] 0) :: (x.at_, listOf #[] 0) :: (x.ch, listOf #[] 0) :: (x.a, instObj 111 x.d) :: (x.d, dictOf (rowEs w.params x) 9) :: off R l) := by
  intro dp un gd cn cs ad ccd cl outer A₀ base h₀ L m s Q E B F X N T' hk hd hu hret
  refine wpAny_call ?_
  k_dflt k_enter
  k_steps
  rename News _ _ _ _ => kN
  rename Fr _ _ _ _ => kF
  exact hret _ _ _ _ kF kN ⟨x9, _, rfl, e1, e2, e3, e4, e5, e6, lo9, lo1, lo2, lo3, lo4, rfl⟩
end

local macro_rules | `(tactic| walk_at "call ref") => `(tactic| ((with_reducible refine at_call 157 ?_); k_dflt (open_k with (addchild_ok _ _ _ _ _ _ _ _ _ _ _ _ _ _ _ _ _ ?a1 ?a2 ?a3 ?a4 ?a5 ?a6); walk_at "m3"; (case a4 => omega); walk_at "o6"; walk_at "kB"); walk_at "kJ"; walk_at "kX"))
section
variable {w : World} {p : Program} {loose : List Str} {mean : ExcName → Option Value} {mg mb : Str → Option Value}
theorem addelement_ok (l : Led) (T dT R : Addr) (kr : Tok) (its : List Value) (c : Nat) (nm uri loc : Str) (t1 t2 t3 : Tok)
    (hT : (T, instObj 300 dT) ∈ l) (hdT : (dT, dictOf [ent w.params "rows" kr (.ref R)] 1) ∈ l) (hR : (R, listOf its.toArray c) ∈ l) (hlen : its.length ≤ 100) (hTR : T ≠ R) (hdR : dT ≠ R) :
    KC w p loose mean mg mb 164 [.ref T, .none, .str nm t1, .str uri t2, .str loc t3] l 5
      (fun r l' => ∃ (x : Nd) (u : Tok), r = Value.int ((its.length : Nat) : Int) u ∧ x.kd = Str.ofString "element" ∧ x.nm = nm ∧ x.uri = uri ∧ x.loc = loc ∧ x.val = Str.ofString "" ∧ x.par = Value.none ∧ (∀ q ∈ l, q.1 < x.d) ∧ @LT.lt Nat _ x.d x.a ∧ @LT.lt Nat _ x.a x.ch ∧ @LT.lt Nat _ x.ch x.at_ ∧ @LT.lt Nat _ x.at_ x.ns ∧
        l' = (R, listOf (its ++ [Value.ref x.a]).toArray (c + 1)) :: (x.ns, listOf #[] 0) :: (x.at_, listOf #[] 0) :: (x.ch, listOf #[] 0) :: (x.a, instObj 111 x.d) :: (x.d, dictOf (rowEs w.params x) 9) :: off R l) := by
  intro dp un gd cn cs ad ccd cl outer A₀ base h₀ L m s Q E B F X N T' hk hd hu hret
  refine wpAny_call ?_
  k_dflt k_enter
  k_steps
  rename News _ _ _ _ => kN
  rename Fr _ _ _ _ => kF
  exact hret _ _ _ _ kF kN ⟨x9, _, rfl, e1, e2, e3, e4, e5, e6, lo9, lo1, lo2, lo3, lo4, rfl⟩
theorem addtext_ok (l : Led) (T dT R : Addr) (kr : Tok) (its : List Value) (c : Nat) (val : Str) (t1 : Tok)
    (hT : (T, instObj 300 dT) ∈ l) (hdT : (dT, dictOf [ent w.params "rows" kr (.ref R)] 1) ∈ l) (hR : (R, listOf its.toArray c) ∈ l) (hlen : its.length ≤ 100) (hTR : T ≠ R) (hdR : dT ≠ R) :
    KC w p loose mean mg mb 171 [.ref T, .none, .str val t1] l 5
      (fun r l' => ∃ (x : Nd) (u : Tok), r = Value.int ((its.length : Nat) : Int) u ∧ x.kd = Str.ofString "text" ∧ x.nm = Str.ofString "" ∧ x.uri = Str.ofString "" ∧ x.loc = Str.ofString "" ∧ x.val = val ∧ x.par = Value.none ∧ (∀ q ∈ l, q.1 < x.d) ∧ @LT.lt Nat _ x.d x.a ∧ @LT.lt Nat _ x.a x.ch ∧ @LT.lt Nat _ x.ch x.at_ ∧ @LT.lt Nat _ x.at_ x.ns ∧
        l' = (R, listOf (its ++ [Value.ref x.a]).toArray (c + 1)) :: (x.ns, listOf #[] 0) :: (x.at_, listOf #[] 0) :: (x.ch, listOf #[] 0) :: (x.a, instObj 111 x.d) :: (x.d, dictOf (rowEs w.params x) 9) :: off R l) := by
  intro dp un gd cn cs ad ccd cl outer A₀ base h₀ L m s Q E B F X N T' hk hd hu hret
  refine wpAny_call ?_
  k_dflt k_enter
  k_steps
  rename News _ _ _ _ => kN
  rename Fr _ _ _ _ => kF
  exact hret _ _ _ _ kF kN ⟨x9, _, rfl, e1, e2, e3, e4, e5, e6, lo9, lo1, lo2, lo3, lo4, rfl⟩
theorem addcomment_ok (l : Led) (T dT R : Addr) (kr : Tok) (its : List Value) (c : Nat) (val : Str) (t1 : Tok)
    (hT : (T, instObj 300 dT) ∈ l) (hdT : (dT, dictOf [ent w.params "rows" kr (.ref R)] 1) ∈ l) (hR : (R, listOf its.toArray c) ∈ l) (hlen : its.length ≤ 100) (hTR : T ≠ R) (hdR : dT ≠ R) :
    KC w p loose mean mg mb 178 [.ref T, .none, .str val t1] l 5
      (fun r l' => ∃ (x : Nd) (u : Tok), r = Value.int ((its.length : Nat) : Int) u ∧ x.kd = Str.ofString "comment" ∧ x.nm = Str.ofString "" ∧ x.uri = Str.ofString "" ∧ x.loc = Str.ofString "" ∧ x.val = val ∧ x.par = Value.none ∧ (∀ q ∈ l, q.1 < x.d) ∧ @LT.lt Nat _ x.d x.a ∧ @LT.lt Nat _ x.a x.ch ∧ @LT.lt Nat _ x.ch x.at_ ∧ @LT.lt Nat _ x.at_ x.ns ∧
        l' = (R, listOf (its ++ [Value.ref x.a]).toArray (c + 1)) :: (x.ns, listOf #[] 0) :: (x.at_, listOf #[] 0) :: (x.ch, listOf #[] 0) :: (x.a, instObj 111 x.d) :: (x.d, dictOf (rowEs w.params x) 9) :: off R l) := by
  intro dp un gd cn cs ad ccd cl outer A₀ base h₀ L m s Q E B F X N T' hk hd hu hret
  refine wpAny_call ?_
  k_dflt k_enter
  k_steps
  rename News _ _ _ _ => kN
  rename Fr _ _ _ _ => kF
  exact hret _ _ _ _ kF kN ⟨x9, _, rfl, e1, e2, e3, e4, e5, e6, lo9, lo1, lo2, lo3, lo4, rfl⟩
theorem addinstr_ok (l : Led) (T dT R : Addr) (kr : Tok) (its : List Value) (c : Nat) (nm val : Str) (t1 t2 : Tok)
    (hT : (T, instObj 300 dT) ∈ l) (hdT : (dT, dictOf [ent w.params "rows" kr (.ref R)] 1) ∈ l) (hR : (R, listOf its.toArray c) ∈ l) (hlen : its.length ≤ 100) (hTR : T ≠ R) (hdR : dT ≠ R) :
    KC w p loose mean mg mb 185 [.ref T, .none, .str nm t1, .str val t2] l 5
      (fun r l' => ∃ (x : Nd) (u : Tok), r = Value.int ((its.length : Nat) : Int) u ∧ x.kd = Str.ofString "instruction" ∧ x.nm = nm ∧ x.uri = Str.ofString "" ∧ x.loc = nm ∧ x.val = val ∧ x.par = Value.none ∧ (∀ q ∈ l, q.1 < x.d) ∧ @LT.lt Nat _ x.d x.a ∧ @LT.lt Nat _ x.a x.ch ∧ @LT.lt Nat _ x.ch x.at_ ∧ @LT.lt Nat _ x.at_ x.ns ∧
        l' = (R, listOf (its ++ [Value.ref x.a]).toArray (c + 1)) :: (x.ns, listOf #[] 0) :: (x.at_, listOf #[] 0) :: (x.ch, listOf #[] 0) :: (x.a, instObj 111 x.d) :: (x.d, dictOf (rowEs w.params x) 9) :: off R l) := by
  intro dp un gd cn cs ad ccd cl outer A₀ base h₀ L m s Q E B F X N T' hk hd hu hret
  refine wpAny_call ?_
  k_dflt k_enter
  k_steps
  rename News _ _ _ _ => kN
  rename Fr _ _ _ _ => kF
  exact hret _ _ _ _ kF kN ⟨x9, _, rfl, e1, e2, e3, e4, e5, e6, lo9, lo1, lo2, lo3, lo4, rfl⟩
end

noncomputable def sgn (q : Str × Str) : Nat := q.1.cps.toList.headD 0
noncomputable def subAll (ps : List (Str × Str)) (l : List Nat) : List Nat := ps.foldl (fun l q => sub1 (sgn q) q.2.cps.toList l) l
noncomputable def tab1 : List (Str × Str) → Nat → List Nat
  | [], k => [k]
  | q :: r, k => if k = sgn q then q.2.cps.toList else tab1 r k
noncomputable def safeB : List (Str × Str) → Bool
  | [] => true
  | q :: r => (r.all fun q' => !(q.2.cps.toList.contains (sgn q'))) && safeB r
theorem tab1_free : ∀ {r : List (Str × Str)} {k : Nat}, (∀ q ∈ r, k ≠ sgn q) → tab1 r k = [k]
  | [], _, _ => rfl
  | q :: r, k, h => by
    show (if k = sgn q then q.2.cps.toList else tab1 r k) = [k]
    rw [if_neg (h q (.head _)), tab1_free fun q' hq => h q' (.tail _ hq)]
theorem tab_free {r : List (Str × Str)} : ∀ {z : List Nat}, (∀ q ∈ r, sgn q ∉ z) → z.flatMap (tab1 r) = z
  | [], _ => rfl
  | k :: z, h => by
    rw [List.flatMap_cons, tab1_free fun q hq e => h q hq (e ▸ List.mem_cons_self ..), tab_free fun q hq m => h q hq (List.mem_cons_of_mem _ m)]
    rfl
theorem subAll_tab : ∀ {ps : List (Str × Str)}, safeB ps = true → ∀ l : List Nat, subAll ps l = l.flatMap (tab1 ps)
  | [], _, l => by
    show l = l.flatMap fun k => [k]
    induction l with
    | nil => rfl
    | cons a r ih => rw [List.flatMap_cons, ← ih]; rfl
  | q :: r, h, l => by
    unfold safeB at h
    rw [Bool.and_eq_true, List.all_eq_true] at h
    have hz : ∀ q' ∈ r, sgn q' ∉ q.2.cps.toList := fun q' hq m => by
      have h1 := h.1 q' hq
      rw [List.contains_iff_mem.mpr m] at h1
      exact Bool.noConfusion h1
    show subAll r (sub1 (sgn q) q.2.cps.toList l) = _
    rw [subAll_tab h.2, sub1, List.flatMap_assoc]
    congr 1
    funext k
    show (if k = sgn q then q.2.cps.toList else [k]).flatMap (tab1 r) = if k = sgn q then q.2.cps.toList else tab1 r k
    by_cases e : k = sgn q
    · rw [if_pos e, if_pos e, tab_free hz]
    · rw [if_neg e, if_neg e, List.flatMap_singleton]
theorem sgn_of {q : Str × Str} (h : PairOk q) : q.1 = ⟨#[sgn q]⟩ := by
  obtain ⟨c, hc⟩ := h.1
  unfold sgn
  rw [hc]
  rfl
theorem repl_cps : ∀ {ps : List (Str × Str)}, (∀ q ∈ ps, PairOk q) → ∀ x : Str, (repl x ps).cps.toList = subAll ps x.cps.toList
  | [], _, _ => rfl
  | q :: r, h, x => by
    show (repl (Txt.replace x q.1 q.2) r).cps.toList = subAll r (sub1 (sgn q) q.2.cps.toList x.cps.toList)
    rw [repl_cps fun a ha => h a (.tail _ ha)]
    congr 1
    rw [sgn_of (h q (.head _)), replace_sub]
theorem tabOf_cps : ∀ {ps : List (Str × Str)}, (∀ q ∈ ps, PairOk q) → ∀ k : Nat, (tabOf ps ⟨#[k]⟩).cps.toList = tab1 ps k
  | [], _, _ => rfl
  | q :: r, h, k => by
    have ih := tabOf_cps (fun a ha => h a (.tail _ ha)) k
    have hq := sgn_of (h q (.head _))
    show _ = if k = sgn q then q.2.cps.toList else tab1 r k
    unfold tabOf at ih ⊢
    rw [List.find?_cons]
    by_cases e : k = sgn q
    · have e2 : (q.1 == (⟨#[k]⟩ : Str)) = true := by rw [hq, e]; exact beq_self_eq_true _
      rw [e2, if_pos e]
      rfl
    · have e2 : (q.1 == (⟨#[k]⟩ : Str)) = false := by
        rw [hq]
        refine beq_eq_false_iff_ne.mpr fun e3 => e ?_
        injection e3 with e3
        have := congrArg Array.toList e3
        simpa using this.symm
      rw [e2, if_neg e]
      exact ih
theorem str_ext {a b : Str} (h : a.cps.toList = b.cps.toList) : a = b := by
  obtain ⟨a⟩ := a
  obtain ⟨b⟩ := b
  congr 1
  exact Array.toList_inj.mp h
theorem byTab_cps {ps : List (Str × Str)} (h : ∀ q ∈ ps, PairOk q) (x : Str) : (byTab ps x).cps.toList = x.cps.toList.flatMap (tab1 ps) := by
  show (x.cps.toList.flatMap fun c => (tabOf ps ⟨#[c]⟩).cps.toList).toArray.toList = _
  rw [List.toList_toArray]
  congr 1
  funext k
  exact tabOf_cps h k
/-- one text after the other put for another: the same as sign by sign -/
theorem repl_byTab {ps : List (Str × Str)} (h : ∀ q ∈ ps, PairOk q) (hs : safeB ps = true) (x : Str) : repl x ps = byTab ps x := by
  apply str_ext
  rw [repl_cps h, byTab_cps h, subAll_tab hs]
theorem textSafe : safeB textPairs = true := by decide +kernel
theorem valueSafe : safeB valuePairs = true := by decide +kernel
theorem plainSafe : safeB plainPairs = true := by decide +kernel
/-- an attribute's place takes a value -/
noncomputable def setP (p : Nat) (v : Str) : List PV → List PV
  | [] => [(p, v)]
  | r :: rs => if r.1 = p then (p, v) :: rs else r :: setP p v rs
/-- the attributes as they stand behind the rows -/
noncomputable def putAll (rows : List PV) : List PV := rows.foldl (fun l x => setP x.1 x.2 l) []
noncomputable def valsAt (rows : List PV) (p : Nat) : List Str := (rows.filter fun x => x.1 == p).map (·.2)
theorem putAll_snoc (rows : List PV) (x : PV) : putAll (rows ++ [x]) = setP x.1 x.2 (putAll rows) := by
  unfold putAll
  rw [List.foldl_append]
  rfl
theorem setP_look (p : Nat) (v : Str) (q : Nat) : ∀ l : List PV, (setP p v l).lookup q = if q = p then some v else l.lookup q
  | [] => by
    show (match q == p with | true => some v | false => none) = _
    by_cases e : q = p
    · rw [if_pos e, beq_iff_eq.mpr e]
    · rw [if_neg e, beq_eq_false_iff_ne.mpr e]; rfl
  | r :: rs => by
    have ih := setP_look p v q rs
    unfold setP
    by_cases e : r.1 = p
    · rw [if_pos e]
      show (match q == p with | true => some v | false => rs.lookup q) = if q = p then some v else (match q == r.1 with | true => some r.2 | false => rs.lookup q)
      by_cases e2 : q = p
      · rw [if_pos e2, beq_iff_eq.mpr e2]
      · rw [if_neg e2, beq_eq_false_iff_ne.mpr e2, e, beq_eq_false_iff_ne.mpr e2]
    · rw [if_neg e]
      show (match q == r.1 with | true => some r.2 | false => (setP p v rs).lookup q) = if q = p then some v else (match q == r.1 with | true => some r.2 | false => rs.lookup q)
      rw [ih]
      by_cases e2 : q = p
      · have e3 : ¬ q = r.1 := fun h => e (by rw [← h, e2])
        rw [if_pos e2, beq_eq_false_iff_ne.mpr e3, if_pos e2]
      · rw [if_neg e2, if_neg e2]
theorem setP_keys (p : Nat) (v : Str) : ∀ l : List PV, (l.map (·.1)).Nodup → ((setP p v l).map (·.1)).Nodup ∧ (∀ x ∈ setP p v l, x = (p, v) ∨ x ∈ l)
  | [], _ => ⟨by simp [setP], fun x hx => by simpa [setP] using hx⟩
  | r :: rs, h => by
    have h' : r.1 ∉ rs.map (·.1) ∧ (rs.map (·.1)).Nodup := List.nodup_cons.mp h
    obtain ⟨i1, i2⟩ := setP_keys p v rs h'.2
    unfold setP
    by_cases e : r.1 = p
    · rw [if_pos e]
      refine ⟨?_, fun x hx => ?_⟩
      · rw [List.map_cons]
        show (p :: rs.map (·.1)).Nodup
        rw [← e]
        exact h
      · rcases List.mem_cons.mp hx with rfl | hx
        · exact .inl rfl
        · exact .inr (.tail _ hx)
    · rw [if_neg e]
      refine ⟨List.nodup_cons.mpr ⟨fun hm => ?_, i1⟩, fun x hx => ?_⟩
      · obtain ⟨y, hy, e2⟩ := List.mem_map.mp hm
        rcases i2 y hy with rfl | hy
        · exact e e2.symm
        · exact h'.1 (List.mem_map.mpr ⟨y, hy, e2⟩)
      · rcases List.mem_cons.mp hx with rfl | hx
        · exact .inr (.head _)
        · rcases i2 x hx with h | h
          · exact .inl h
          · exact .inr (.tail _ h)
theorem setP_len (p : Nat) (v : Str) : ∀ l : List PV, (setP p v l).length ≤ l.length + 1
  | [] => Nat.le_refl _
  | r :: rs => by
    have ih := setP_len p v rs
    unfold setP
    by_cases e : r.1 = p
    · rw [if_pos e]; exact Nat.le_succ _
    · rw [if_neg e]; simp only [List.length_cons]; omega
/-- by rows from behind -/
theorem rows_ind {P : List PV → Prop} (h0 : P []) (h1 : ∀ r x, P r → P (r ++ [x])) : ∀ rows, P rows := by
  have go : ∀ n rows, rows.length = n → P rows := by
    intro n
    induction n with
    | zero => intro rows h; rw [List.length_eq_zero_iff.mp h]; exact h0
    | succ n ih =>
      intro rows h
      have hne : rows ≠ [] := fun e => by rw [e] at h; cases h
      rw [← List.dropLast_concat_getLast hne]
      exact h1 _ _ (ih _ (by rw [List.length_dropLast, h]; rfl))
  exact fun rows => go _ rows rfl
theorem putAll_ok : ∀ rows : List PV, ((putAll rows).map (·.1)).Nodup ∧ (∀ x ∈ putAll rows, x ∈ rows) ∧ (putAll rows).length ≤ rows.length := by
  refine rows_ind ⟨List.nodup_nil, fun x hx => (nomatch hx), Nat.le_refl _⟩ fun r x ⟨h1, h2, h3⟩ => ?_
  rw [putAll_snoc]
  obtain ⟨a, b⟩ := setP_keys x.1 x.2 (putAll r) h1
  refine ⟨a, fun y hy => ?_, ?_⟩
  · rcases b y hy with h | h
    · exact List.mem_append_right _ (List.mem_singleton.mpr h)
    · exact List.mem_append_left _ (h2 y h)
  · have := setP_len x.1 x.2 (putAll r)
    rw [List.length_append, List.length_singleton]
    omega
theorem vals_snoc (r : List PV) (x : PV) (p : Nat) : valsAt (r ++ [x]) p = if p = x.1 then valsAt r p ++ [x.2] else valsAt r p := by
  unfold valsAt
  rw [List.filter_append, List.map_append]
  by_cases e : p = x.1
  · rw [if_pos e, List.filter_cons_of_pos (by rw [e]; exact beq_self_eq_true _)]
    rfl
  · rw [if_neg e, List.filter_cons_of_neg (by rw [beq_eq_false_iff_ne.mpr (Ne.symm e)]; exact Bool.false_ne_true)]
    simp
theorem vals_len (r : List PV) (p : Nat) : (valsAt r p).length ≤ r.length := by
  unfold valsAt
  rw [List.length_map]
  exact List.length_filter_le _ _
theorem putAll_look (p : Nat) : ∀ rows : List PV, (putAll rows).lookup p = (valsAt rows p).getLast? := by
  refine rows_ind rfl fun r x ih => ?_
  rw [putAll_snoc, setP_look, vals_snoc, ih]
  by_cases e : p = x.1
  · rw [if_pos e, if_pos e, List.getLast?_append]; rfl
  · rw [if_neg e, if_neg e]
/-- what is due for a place -/
noncomputable def dueAt (rows : List PV) (p : Nat) : List Nat := match (valsAt rows p).getLast? with
  | some v => pieceL (p, v)
  | none => []
noncomputable def due (rows : List PV) (n : Nat) : List Nat := (List.range n).flatMap (dueAt rows)
theorem due_succ (rows : List PV) (n : Nat) : due rows (n + 1) = due rows n ++ dueAt rows n := by
  unfold due
  rw [List.range_succ, List.flatMap_append, List.flatMap_singleton]
theorem dueAt_nil {rows : List PV} {n : Nat} (h : valsAt rows n = []) : dueAt rows n = [] := by
  unfold dueAt
  rw [h]
  rfl
theorem dueAt_last {rows : List PV} {n : Nat} {v : Str} (h : (valsAt rows n).getLast? = some v) : dueAt rows n = pieceL (n, v) := by
  unfold dueAt
  rw [h]
theorem vals_mem {rows : List PV} {n : Nat} {v : Str} (h : v ∈ valsAt rows n) : (n, v) ∈ rows := by
  obtain ⟨x, hx, rfl⟩ := List.mem_map.mp h
  obtain ⟨h1, h2⟩ := List.mem_filter.mp hx
  have : x.1 = n := by simpa using h2
  rw [← this]
  exact h1
theorem due_len {rows : List PV} (h18 : ∀ x ∈ rows, x.2.length ≤ 18) : ∀ n : Nat, n ≤ 7 → (due rows n).length ≤ n * 840000
  | 0, _ => Nat.le_refl _
  | n + 1, hn => by
    have ih := due_len h18 n (by omega)
    rw [due_succ, List.length_append]
    have : (dueAt rows n).length ≤ 840000 := by
      cases h : (valsAt rows n).getLast? with
      | none => unfold dueAt; rw [h]; exact Nat.zero_le _
      | some v =>
        rw [dueAt_last h]
        have h1 := vals_mem (List.mem_of_getLast? h)
        have := piece_len (x := (n, v)) (by dsimp only; omega) (h18 _ h1)
        rw [Array.length_toList]
        exact this
    omega
theorem piece_quoted (p : Nat) (v : Str) : Str.ofString " " ++ (rowAt p).2.2 ++ Str.ofString "=" ++ quoted v = piece (p, v) := by
  apply str_ext
  unfold piece quoted
  rw [repl_byTab valueOk valueSafe]
  have e : (Str.ofString "=\"").cps.toList = (Str.ofString "=").cps.toList ++ (Str.ofString "\"").cps.toList := by decide +kernel
  simp only [Str.cps_append, Array.toList_append, e, List.append_assoc]
theorem due_step {rows : List PV} {i : Nat} {v du : Str} (hdu : Str.mk (due rows i).toArray = du) (h : (valsAt rows i).getLast? = some v) : du ++ (Str.ofString " " ++ (rowAt i).2.2 ++ Str.ofString "=" ++ quoted v) = ⟨(due rows (i + 1)).toArray⟩ := by
  rw [piece_quoted, ← hdu, due_succ, dueAt_last h]
  apply str_ext
  simp only [Str.cps_append, Array.toList_append, List.toList_toArray]
theorem due_stay {rows : List PV} {i : Nat} {du : Str} (hdu : Str.mk (due rows i).toArray = du) (h : valsAt rows i = []) : du ++ Str.ofString "" = ⟨(due rows (i + 1)).toArray⟩ := by
  rw [← hdu, due_succ, dueAt_nil h]
  apply str_ext
  have e : (Str.ofString "").cps.toList = [] := by decide +kernel
  simp only [Str.cps_append, Array.toList_append, List.toList_toArray, e]
theorem quoted_len {v : Str} (h : v.length ≤ 18) : (quoted v).length ≤ 110 := by
  unfold quoted
  have h1 := byTab_len valueOk h
  have e : (Str.ofString "\"").length = 1 := by decide +kernel
  rw [app_len, app_len, e]
  omega
theorem flatMap_filter {α β : Type} (f : α → List β) (c : α → Bool) : ∀ l : List α, (l.filter c).flatMap f = l.flatMap fun a => if c a = true then f a else []
  | [] => rfl
  | a :: r => by
    rw [List.flatMap_cons, ← flatMap_filter f c r, List.filter_cons]
    by_cases h : c a = true
    · rw [if_pos h, if_pos h, List.flatMap_cons]
    · rw [if_neg h, if_neg h]; rfl
theorem flatMap_same {α β : Type} {f g : α → List β} : ∀ {l : List α}, (∀ a ∈ l, f a = g a) → l.flatMap f = l.flatMap g
  | [], _ => rfl
  | a :: r, h => by rw [List.flatMap_cons, List.flatMap_cons, h a (.head _), flatMap_same fun b hb => h b (.tail _ hb)]
theorem my_ne_nil {prog : Program} {w : World} {A : Around} {E : Value → Shared → Prop} {s : Shared} {a b : Addr} {xs : List Value} {Q : Value → Shared → Prop} (ha : s.heap.IsList a xs.toArray) (hb : s.heap.IsList b ([] : List Value).toArray) (hu : A.units < cLine) (h : Q (.bool (!xs.isEmpty)) s) :
    wpAny (model prog w) A (compareOp .NotEq (.ref a) (.ref b)) Q E s := by
  cases xs with
  | nil => exact SeqAt.RcNeAt.lists (e := fun _ => true) ha hb rfl hu (fun j h1 h2 => absurd h1 (Nat.not_lt_zero _)) prog w E Q h
  | cons x r => exact SeqAt.RcNeAt.lists_lengths ha hb (by simp) hu prog w E Q h
theorem my_last {prog : Program} {w : World} {A : Around} {E : Value → Shared → Prop} {s : Shared} {h₀ : Heap} {L : Addr} {led : Led} {value slice : PySem.Expr} {l : Addr} {vs : List Value} {n : Nat} {u : Tok} {v : Value} {Q : Value → Shared → Prop}
    (N : News h₀ L s.heap led) (hm : (l, listOf vs.toArray n) ∈ led) (h1 : 1 ≤ vs.length) (hx : vs[vs.length - 1]? = some v) (h : Q v s)
    (hs : subscripted slice false (.ref l) (.int (-1) u) = operate [.ref l, .int (-1) u] (getItem (.ref l) (.int (-1) u)) := by with_unfolding_all rfl) :
    wpAny (model prog w) A (subscriptTail value slice (.ref l) (.int (-1) u)) Q E s := by
  have hl : s.heap.IsList l vs.toArray := ⟨_, (N _ hm).1, rfl, _, rfl⟩
  have e : (-1 + ((vs.toArray.size : Nat) : Int)).toNat = vs.length - 1 := by rw [List.size_toArray]; omega
  refine tail_any hl.typeIs slot_list_getitem.lookup (wpAny_getItem_list_neg hl (by decide) (by rw [List.size_toArray]; omega) (by decide) (by rw [e]; simpa using hx) h) hs
theorem last_of {vs : List Value} {ys : List Str} (h : StrsAre vs ys) (hne : ys ≠ []) : ∃ v t, ys.getLast? = some v ∧ vs[vs.length - 1]? = some (.str v t) ∧ 1 ≤ vs.length ∧ v ∈ ys := by
  have hl := h.length
  have h1 : 1 ≤ ys.length := List.length_pos_iff.mpr hne
  have h2 : ys[ys.length - 1]? = some (ys.getLast hne) := by rw [← List.getLast?_eq_getElem?, List.getLast?_eq_some_getLast hne]
  obtain ⟨t, ht⟩ := h.at h2
  refine ⟨_, t, List.getLast?_eq_some_getLast hne, ?_, by omega, List.getLast_mem hne⟩
  rw [hl]
  exact ht
theorem look_of : ∀ {l : List PV}, (l.map (·.1)).Nodup → ∀ {x : PV}, x ∈ l → l.lookup x.1 = some x.2
  | r :: rs, h, x, hx => by
    have h' : r.1 ∉ rs.map (·.1) ∧ (rs.map (·.1)).Nodup := List.nodup_cons.mp h
    show (match x.1 == r.1 with | true => some r.2 | false => rs.lookup x.1) = some x.2
    rcases List.mem_cons.mp hx with rfl | hx
    · rw [beq_self_eq_true]
    · have e : x.1 ≠ r.1 := fun e => h'.1 (e ▸ List.mem_map.mpr ⟨x, hx, rfl⟩)
      rw [beq_eq_false_iff_ne.mpr e]
      exact look_of h'.2 hx
theorem look_none : ∀ {l : List PV} {p : Nat}, p ∉ l.map (·.1) → l.lookup p = none
  | [], _, _ => rfl
  | r :: rs, p, h => by
    have h' : p ≠ r.1 ∧ p ∉ rs.map (·.1) := by simpa [not_or] using h
    show (match p == r.1 with | true => some r.2 | false => rs.lookup p) = none
    rw [beq_eq_false_iff_ne.mpr h'.1]
    exact look_none h'.2
/-- what is told is what is due -/
theorem told_due {rows : List PV} (h7 : ∀ x ∈ rows, x.1 < 7) (h6 : rows.length ≤ 6) : (told (putAll rows)).cps.toList = due rows 7 := by
  obtain ⟨k1, k2, k3⟩ := putAll_ok rows
  have p7 : ∀ x ∈ putAll rows, x.1 < 7 := fun x hx => h7 x (k2 x hx)
  have hl : ∀ p ∈ (putAll rows).map (·.1), p < 7 := fun p hp => by obtain ⟨x, hx, rfl⟩ := List.mem_map.mp hp; exact p7 x hx
  have hlen : ((putAll rows).map (·.1)).length ≤ 6 := by rw [List.length_map]; omega
  have hrow := chk_row k1 hl hlen
  have hlt := sort_lt k1 hl hlen
  let f : Nat → List Nat := fun p => match (putAll rows).lookup p with | some v => pieceL (p, v) | none => []
  have e1 : (told (putAll rows)).cps.toList = (sortP ((putAll rows).map (·.1))).flatMap fun i => f (((putAll rows).map (·.1)).getD i 0) := by
    unfold told
    rw [List.toList_toArray]
    refine flatMap_same fun i hi => ?_
    have hi' : i < (putAll rows).length := by have := hlt i hi; rw [List.length_map] at this; exact this
    have g1 : (putAll rows).getD i (0, Str.ofString "") = (putAll rows)[i] := by rw [List.getD_eq_getElem?_getD, List.getElem?_eq_getElem hi']; rfl
    have g2 : ((putAll rows).map (·.1)).getD i 0 = (putAll rows)[i].1 := by rw [List.getD_eq_getElem?_getD, List.getElem?_map, List.getElem?_eq_getElem hi']; rfl
    rw [g1, g2]
    show _ = (match (putAll rows).lookup (putAll rows)[i].1 with | some v => pieceL ((putAll rows)[i].1, v) | none => [])
    rw [look_of k1 (List.getElem_mem hi')]
  have e2 : (sortP ((putAll rows).map (·.1))).flatMap (fun i => f (((putAll rows).map (·.1)).getD i 0)) = ((sortP ((putAll rows).map (·.1))).map fun i => ((putAll rows).map (·.1)).getD i 0).flatMap f := by
    rw [List.flatMap_map]
  rw [e1, e2, hrow, flatMap_filter]
  unfold due
  congr 1
  funext p
  show (if ((putAll rows).map (·.1)).contains p = true then f p else []) = dueAt rows p
  have e3 : dueAt rows p = f p := by
    show _ = (match (putAll rows).lookup p with | some v => pieceL (p, v) | none => [])
    rw [putAll_look]
    rfl
  rw [e3]
  by_cases h : ((putAll rows).map (·.1)).contains p = true
  · rw [if_pos h]
  · rw [if_neg h]
    have h' : p ∉ (putAll rows).map (·.1) := fun m => h (List.contains_iff_mem.mpr m)
    show [] = (match (putAll rows).lookup p with | some v => pieceL (p, v) | none => [])
    rw [look_none h']

theorem tree_first {P : Params} {b : Addr} {l : Led} {T dT R : Addr} {kr : Tok} {c : Nat} {x : Nd} (hTR : T ≠ R) (hdR : dT ≠ R) (hT : (T, instObj 300 dT) ∈ l) (hdT : (dT, dictOf [ent P "rows" kr (.ref R)] 1) ∈ l) (hR : (R, listOf ([] : List Value).toArray c) ∈ l)
    (hk : x.kd = Str.ofString "element") (lo : ∀ q ∈ l, q.1 < x.d) (h1 : @LT.lt Nat _ x.d x.a) (h2 : @LT.lt Nat _ x.a x.ch) (h3 : @LT.lt Nat _ x.ch x.at_) (hb : @LE.le Nat _ b R) :
    TreeOk P b ((R, listOf (([] : List Value) ++ [Value.ref x.a]).toArray (c + 1)) :: (x.ns, listOf #[] 0) :: (x.at_, listOf #[] 0) :: (x.ch, listOf #[] 0) :: (x.a, instObj 111 x.d) :: (x.d, dictOf (rowEs P x) 9) :: off R l) ⟨T, dT, R, kr, c + 1, x, 0⟩ [] := by
  have hlR : @LT.lt Nat _ R x.d := lo _ hR
  refine ⟨?_, ?_, .head _, .tail _ (.tail _ (.tail _ (.tail _ (.head _)))), .tail _ (.tail _ (.tail _ (.tail _ (.tail _ (.head _))))), hk, ⟨[], .tail _ (.tail _ (.head _)), .nil⟩, fun y hy => (nomatch hy), List.nodup_nil, hb, ?_⟩
  · exact .tail _ (.tail _ (.tail _ (.tail _ (.tail _ (.tail _ (off_mem hT hTR))))))
  · exact .tail _ (.tail _ (.tail _ (.tail _ (.tail _ (.tail _ (off_mem hdT hdR))))))
  · dsimp only; omega
theorem TreeOk.mono {P : Params} {b : Addr} {l l' : Led} {z : TS} {nds : List Nd} (H : TreeOk P b l z nds) (hs : ∀ q ∈ l, q ∈ l') : TreeOk P b l' z nds := by
  obtain ⟨ivs, h1, h2⟩ := H.hat
  refine ⟨hs _ H.hT, hs _ H.hdT, hs _ H.hR, hs _ H.hE, hs _ H.hdE, H.hk, ⟨ivs, hs _ h1, h2⟩, fun x hx => ?_, H.keys, H.lowR, H.lowA⟩
  obtain ⟨h1, h2, h3, h4⟩ := H.hn x hx
  exact ⟨hs _ h1, hs _ h2, h3, h4⟩
theorem tree_start {P : Params} {h₀ h : Heap} {L : Addr} {T dT R : Addr} {kr : Tok} {c : Nat} {x : Nd} {l₁ : Led}
    (N : News h₀ L h ((R, listOf (([] : List Value) ++ [Value.ref x.a]).toArray (c + 1)) :: (x.ns, listOf #[] 0) :: (x.at_, listOf #[] 0) :: (x.ch, listOf #[] 0) :: (x.a, instObj 111 x.d) :: (x.d, dictOf (rowEs P x) 9) :: off R ((R, listOf #[] c) :: (T, instObj 300 dT) :: (dT, dictOf [ent P "rows" kr (.ref R)] 1) :: l₁)))
    (hTR : @LT.lt Nat _ T R) (hdR : @LT.lt Nat _ dT R) (hl : ∀ q ∈ l₁, q.1 < R)
    (hk : x.kd = Str.ofString "element") (lo : ∀ q ∈ (R, listOf #[] c) :: (T, instObj 300 dT) :: (dT, dictOf [ent P "rows" kr (.ref R)] 1) :: l₁, q.1 < x.d) (h1 : @LT.lt Nat _ x.d x.a) (h2 : @LT.lt Nat _ x.a x.ch) (h3 : @LT.lt Nat _ x.ch x.at_) :
    ∃ led z, News h₀ L h led ∧ TreeOk P R led z [] ∧ z.T = T ∧ ∀ q ∈ l₁, q ∈ led := by
  refine ⟨_, _, N, tree_first (l := (R, listOf #[] c) :: (T, instObj 300 dT) :: (dT, dictOf [ent P "rows" kr (.ref R)] 1) :: l₁) (Nat.ne_of_lt hTR) (Nat.ne_of_lt hdR) (.tail _ (.head _)) (.tail _ (.tail _ (.head _))) (.head _) hk lo h1 h2 h3 (Nat.le_refl _), rfl, fun q hq => ?_⟩
  exact .tail _ (.tail _ (.tail _ (.tail _ (.tail _ (.tail _ (off_mem (.tail _ (.tail _ (.tail _ hq))) (Nat.ne_of_lt (hl q hq))))))))
/-- an object that is none of the tree's kinds -/
structure Odd (o : Obj) : Prop where
  inst : ∀ C dx, o ≠ instObj C dx
  dict : ∀ es k, o ≠ dictOf es k
  list : ∀ its n, o ≠ listOf its n
  tup : ∀ its n, o ≠ tupObj its n
theorem Odd.cls {o : Obj} {n : String} (h : o.cls = .type n) (h1 : Value.type n ≠ .type "dict") (h2 : Value.type n ≠ .type "list") (h3 : Value.type n ≠ .type "tuple") : Odd o :=
  ⟨fun C dx => ne_cls (by rw [h]; intro e; cases e), fun es k => ne_cls (by rw [h]; exact h1), fun its n => ne_cls (by rw [h]; exact h2), fun its n => ne_cls (by rw [h]; exact h3)⟩
theorem Odd.cell {o : Obj} {v : Option Value} (h : o.data = .cell v) : Odd o :=
  ⟨fun C dx e => (by rw [e] at h; cases h), fun es k e => (by rw [e] at h; cases h), fun its n e => (by rw [e] at h; cases h), fun its n e => (by rw [e] at h; cases h)⟩
theorem TripIn.off {l : Led} {vs : List Value} {ps : List (Str × Str × Str)} (H : TripIn l vs ps) (Fn : Func l) {c : Addr} {o : Obj} (hc : (c, o) ∈ l) (ho : Odd o) : TripIn (Mine.off c l) vs ps :=
  ⟨H.1, fun i q e => by
    obtain ⟨a, u1, u2, u3, k, h1, h2⟩ := H.2 i q e
    exact ⟨a, u1, u2, u3, k, h1, off_mem h2 (Fn.ne h2 hc (Ne.symm (ho.tup _ _)))⟩⟩

theorem TreeOk.off {P : Params} {b : Addr} {l : Led} {z : TS} {nds : List Nd} (H : TreeOk P b l z nds) (Fn : Func l) {c : Addr} {o : Obj} (hc : (c, o) ∈ l) (ho : Odd o) : TreeOk P b (off c l) z nds := by
  have go : ∀ {a : Addr} {o' : Obj}, (a, o') ∈ l → o ≠ o' → (a, o') ∈ Mine.off c l := fun h1 h2 => off_mem h1 (Fn.ne h1 hc (Ne.symm h2))
  obtain ⟨ivs, h1, h2⟩ := H.hat
  refine ⟨go H.hT (ho.inst _ _), go H.hdT (ho.dict _ _), go H.hR (ho.list _ _), go H.hE (ho.inst _ _), go H.hdE (ho.dict _ _), H.hk, ⟨ivs, go h1 (ho.list _ _), h2⟩, fun x hx => ?_, H.keys, H.lowR, H.lowA⟩
  obtain ⟨h1, h2, h3, h4⟩ := H.hn x hx
  exact ⟨go h1 (ho.inst _ _), go h2 (ho.dict _ _), h3, h4⟩
theorem key_inj : ∀ p q : Fin 7, ((rowAt p).1 == (rowAt q).1 && (rowAt p).2.1 == (rowAt q).2.1) = decide (p = q) := by decide +kernel
theorem setA_setP {p : Nat} {v : Str} (hp : p < 7) : ∀ {pvs : List PV}, (∀ x ∈ pvs, x.1 < 7) → setA (rowAt p).1 (rowAt p).2.1 (rowAt p).2.2 v (pvs.map dtOf) = (setP p v pvs).map dtOf
  | [], _ => rfl
  | r :: rs, h => by
    have h1 := key_inj ⟨r.1, h r (.head _)⟩ ⟨p, hp⟩
    dsimp only at h1
    have ih := setA_setP (v := v) hp (pvs := rs) fun x hx => h x (.tail _ hx)
    show (if ((rowAt r.1).1 == (rowAt p).1 && (rowAt r.1).2.1 == (rowAt p).2.1) = true then _ else _) = _
    by_cases e : r.1 = p
    · subst e
      have e2 : ((rowAt r.1).1 == (rowAt r.1).1 && (rowAt r.1).2.1 == (rowAt r.1).2.1) = true := by rw [h1]; simp
      rw [if_pos e2, setP, if_pos rfl]
      rfl
    · have e2 : ¬ ((rowAt r.1).1 == (rowAt p).1 && (rowAt r.1).2.1 == (rowAt p).2.1) = true := by rw [h1]; simpa using e
      rw [if_neg e2, setP, if_neg e, ih]
      rfl
section Inv2
open PyProof.Rows.LCg
variable {prog : Program} {w : World} {A : Around} {E : Value → Shared → Prop} {s : Shared} {h₀ : Heap} {L : Addr} {m : Str → Option Value} {env : Env}
/-- a for over the places and items of a list, by an invariant -/
theorem enum_inv {target : PySem.Expr} {body : List Stmt} {Q : Flow → Shared → Prop} {ws : List (Addr × String)} {keep : Led} {vs : List Value} {news : Led} (J : Nat → (Str → Option Value) → Led → Prop) (h0 : J 0 m news)
    (turn : ∀ i v T t m₁ nw h tk, vs[i]? = some v → J i m₁ nw → IsTup h T #[.int (i : Int) t, v] → Fr h₀ env.locals h m₁ → AllObj ws (fun its => News h₀ env.locals h (its ++ nw) →
      wpAny (model prog w) A (assign target env (.ref T)) (fun _ s₂ => wpAny (model prog w) A (execs body env) (UnrPostW h₀ env.locals { s with heap := h, toks := tk } its (fun m' n' => SubL keep n' ∧ J (i + 1) m' n') Q) E s₂) E { s with heap := h, toks := tk }))
    (done : ∀ m₁ nw h tk, J vs.length m₁ nw → Fr h₀ env.locals h m₁ → News h₀ env.locals h nw → Q .next { s with heap := h, toks := tk }) :
    ItemsRest prog w A E h₀ env target body Q s ws keep (enumItems 0 vs) m news := by
  have go : ∀ r i m₁ nw, vs.drop i = r → i ≤ vs.length → J i m₁ nw → ItemsRest prog w A E h₀ env target body Q s ws keep (enumItems i r) m₁ nw := by
    intro r
    induction r with
    | nil =>
      intro i m₁ nw e hi hJ
      refine ItemsRest.zero fun h tk F N => ?_
      have : vs.length ≤ i := List.drop_eq_nil_iff.mp e
      obtain rfl : i = vs.length := by omega
      exact done m₁ nw h tk hJ F N
    | cons v r ih =>
      intro i m₁ nw e hi hJ
      have hlt : i < vs.length := by
        rcases Nat.lt_or_ge i vs.length with h | h
        · exact h
        · rw [List.drop_eq_nil_of_le h] at e; cases e
      have hv : vs[i]? = some v := by
        rw [List.drop_eq_getElem_cons hlt] at e
        rw [List.getElem?_eq_getElem hlt, (List.cons.inj e).1]
      have hr : vs.drop (i + 1) = r := by
        rw [List.drop_eq_getElem_cons hlt] at e
        exact (List.cons.inj e).2
      refine ItemsRest.pair fun T t h tk hT F => ?_
      have mono : ∀ (ws : List (Addr × String)) (k k' : Led → Prop), (∀ its, k its → k' its) → AllObj ws k → AllObj ws k' := by
        intro ws
        induction ws with
        | nil => intro k k' hk a; exact hk _ a
        | cons p ws ihw => intro k k' hk a o hc; exact ihw _ _ (fun its => hk _) (a o hc)
      refine mono _ _ _ (fun its hn N => ?_) (turn i v T t m₁ nw h tk hv hJ hT F)
      refine wpAny_mono (hn N) (fun _ s₂ h₂ => wpAny_mono h₂ (fun f s₃ p => ?_) fun _ _ e => e) fun _ _ e => e
      cases f with
      | ret v => exact p
      | brk => exact p
      | next =>
        obtain ⟨h', tk', m', news', e1, F', N', ne, hk, hJ'⟩ := p
        exact ⟨h', tk', m', news', e1, F', N', ne, hk, ih (i + 1) m' news' hr hlt hJ'⟩
      | cont =>
        obtain ⟨h', tk', m', news', e1, F', N', ne, hk, hJ'⟩ := p
        exact ⟨h', tk', m', news', e1, F', N', ne, hk, ih (i + 1) m' news' hr hlt hJ'⟩
  exact go vs 0 m news List.drop_zero (Nat.zero_le _) h0
theorem endW2 {L I I2 : Addr} {o o2 : Obj} {rest : (Str → Option Value) → Led → Prop} {s₁ : Shared} {h' : Heap} {tk : Nat} {m' : Str → Option Value} {news' : Led} (F : Fr h₀ L h' m') (N : News h₀ L h' ((I, o) :: (I2, o2) :: news'))
    (off : ∀ p ∈ news', p.1 ≠ I) (off2 : ∀ p ∈ news', p.1 ≠ I2) (r : rest m' news') : UnrEndW h₀ L s₁ [(I, o), (I2, o2)] rest { s₁ with heap := h', toks := tk } :=
  ⟨h', tk, m', news', rfl, F, N, fun p hp q hq => by
    rcases List.mem_cons.mp hq with rfl | hq
    · exact off p hp
    · rw [List.mem_singleton.mp hq]; exact off2 p hp, r⟩
end Inv2
theorem off_lt {c D : Addr} {l : Led} (h : ∀ q ∈ l, q.1 < D) : ∀ q ∈ Mine.off c l, q.1 < D := fun q hq => h q (off_sub q hq)
theorem trip_get {led : Led} {vs : List Value} {k : Int} (h : TripIn led vs nameTab) (h0 : 0 ≤ k) (h7 : k < 7) : ∃ a u1 u2 u3 c, vs[k.toNat]? = some (Value.ref a) ∧ (a, tupObj [Value.str (rowAt k.toNat).1 u1, Value.str (rowAt k.toNat).2.1 u2, Value.str (rowAt k.toNat).2.2 u3] c) ∈ led := by
  have h8 : k.toNat < nameTab.length := by show k.toNat < 7; omega
  refine h.2 k.toNat (rowAt k.toNat) ?_
  unfold rowAt
  rw [List.getD_eq_getElem?_getD, List.getElem?_eq_getElem h8]
  rfl
local macro_rules | `(tactic| walk_at "call ref") => `(tactic| ((with_reducible refine at_call 164 ?_); k_dflt (open_k with (addelement_ok _ _ _ _ _ _ _ _ _ _ _ _ _ ?a1 ?a2 ?a3 ?a4 ?a5 ?a6); walk_at "m3"; walk_at "n6"; walk_at "kB"); walk_at "kJ"; walk_at "kX"))
section
variable {w : World} {p : Program} {loose : List Str} {mean : ExcName → Option Value} {mg mb : Str → Option Value}
/-- rows as the law keeps them: a place and a text -/
noncomputable def RowsIn (led : Led) (vs : List Value) (ds : List PV) : Prop :=
  vs.length = ds.length ∧ ∀ (i : Nat) (q : PV), ds[i]? = some q → ∃ a u1 u2 c, vs[i]? = some (Value.ref a) ∧ (a, tupObj [Value.int (q.1 : Int) u1, Value.str q.2 u2] c) ∈ led
section
local macro_rules | `(tactic| walk_at "exec For Tuple Name cons nil") => `(tactic| (k_here; refine Halt.out ?_))
local macro_rules | `(tactic| walk_at "exec For") => `(tactic| (k_here; refine Halt.out ?_))
local macro_rules | `(tactic| walk_at "call ref") => `(tactic| ((with_reducible refine at_call 344 ?_); k_dflt (open_k with (quoted_ok _ _ _ ?a1); (case a1 => assumption); walk_at "kB"); walk_at "kJ"; walk_at "kU"))
local macro_rules | `(tactic| walk_at "subscriptTail") => `(tactic| (k_here; (with_reducible show wpAny _ _ (subscriptTail _ _ (Value.ref _) (Value.int (-1) _)) _ _ _); k_dflt (refine' my_last ?k1 ?k2 ?k3 ?k4 ?_ ?k6; (case k1 => k_asm); (case k2 => k_mem); (case k3 => assumption); (case k4 => assumption); (case k6 => with_unfolding_all rfl); k_whole)))
local macro_rules | `(tactic| walk_at "compareOp NotEq ref ref") => `(tactic| (k_here; refine Halt.out ?_))
local macro_rules | `(tactic| walk_at "call type:enumerate") => `(tactic| (k_here; refine Halt.out ?_))
local macro_rules | `(tactic| walk_at "exec Assign cons ListComp") => `(tactic| (k_here; refine Halt.out ?_))
local macro_rules | `(tactic| walk_at "eval ListComp") => `(tactic| (k_here; refine Halt.out ?_))
local macro_rules | `(tactic| walk_at "call ref") => `(tactic| (with_reducible refine halt_call 356 ?_))
local macro_rules | `(tactic| walk_at "call ref") => `(tactic| (with_reducible refine halt_call 199 ?_))
local macro_rules | `(tactic| walk_at "call ref") => `(tactic| (with_reducible refine halt_call 86 ?_))
theorem right_ok (l : Led) (rw : Addr) (rvs : List Value) (n : Nat) (rows : List PV) (hrw : (rw, listOf rvs.toArray n) ∈ l) (hrows : RowsIn l rvs rows) (h7 : ∀ x ∈ rows, x.1 < 7) (h18 : ∀ x ∈ rows, x.2.length ≤ 18) (h6 : rows.length ≤ 6) :
    KC w p loose mean mg mb 361 [.ref rw] l 9 (fun r l' => r = .bool true ∧ ∀ q ∈ l, q ∈ l') := by
  intro dp un gd cn cs ad ccd cl outer A₀ base h₀ L m s Q E B F X N T hk hd hu hret
  refine wpAny_call ?_
  k_dflt k_enter
  k_steps
  unfold Halt
  rename_i g1 L1 _ B1 X1 T1 l11 x1 d1 _ lA2 l12 l22 _ _ _ _ _ _ _ _ _ _ _ _ _ _ _ _
  have hL1 : ∀ q ∈ (L1 + 1, oc1) :: l, q.1 < l' := by
    intro q hq
    rcases List.mem_cons.mp hq with rfl | hq
    · exact lA
    · exact Nat.lt_trans (l11 q hq) (Nat.lt_trans (Nat.lt_succ_self _) lA)
  obtain ⟨nw0, z0, N0, H0, hz0, hs0⟩ := tree_start N' (by assumption) (by assumption) hL1 e1 lo9 lo1 lo2 lo3
  have hrw0 := hs0 _ (.tail _ hrw)
  k_dflt (refine For_turns F' ?_)
  walk1
  refine iter_listTurns (vs := rvs) (lo := listOf rvs.toArray n) rfl (by k_asm) N0 hrw0 rfl rfl (fun I hI => items_inv (fun i m₁ nw => ∃ z nds, TreeOk w.params l' nw z nds ∧ nds.map dt = (putAll (rows.take i)).map dtOf ∧ nds.length ≤ i ∧
    m₁ (Str.ofString "tree") = some (.ref z.T) ∧ m₁ (Str.ofString "element") = some (.int 0 u9) ∧ m₁ (Str.ofString "rows") = some (.ref rw) ∧ ∀ q ∈ (L1 + 1, oc1) :: l, q ∈ nw)
    ⟨z0, [], H0, rfl, Nat.le_refl _, by rw [hz0]; rfl, rfl, rfl, hs0⟩ ?_ ?_)
  · rintro i v m₁ nw h tk' hv ⟨z, nds, H, hd, hl, hm1, hm2, hm3, hsub⟩ F1
    refine AllObj.cons fun o1 hc1 => AllObj.nil fun N1 => ?_
    have hi : i < rows.length := by
      have h1 := (List.getElem?_eq_some_iff.mp hv).1
      have h2 := hrows.1
      omega
    obtain ⟨a1, u1, u2, c1, e1, hma⟩ := hrows.2 i rows[i] (List.getElem?_eq_getElem hi)
    obtain rfl : v = .ref a1 := Option.some.inj (hv.symm.trans e1)
    have hma2 := hsub _ (.tail _ hma)
    have hp7 := h7 _ (List.getElem_mem hi)
    have hsnoc : rows.take (i + 1) = rows.take i ++ [rows[i]] := by rw [List.take_add_one, List.getElem?_eq_getElem hi]; rfl
    generalize hq : rows[i] = q at hma hma2 hp7 hsnoc
    obtain ⟨pl, vl⟩ := q
    dsimp only at hma hma2 hp7
    replace F1 : Fr g1 L1 h m₁ := F1
    replace N1 : News g1 L1 h ((I, o1) :: nw) := N1
    k_steps
    unfold Halt
    k_dflt (refine' KC.use (names_ok _) ?k1 ?k2 ?k3 ?k4 ?k5 ?k6 ?k7 ?k8 ?_; (case k1 => k_asm); (case k2 => k_asm); (case k3 => k_asm); (case k4 => k_asm); (case k5 => k_asm); (case k6 => first | exact rfl | assumption); (case k7 => ktr_room); (case k8 => ktr_units))
    rintro r9 led9 h9 tk9 F9 N9 ⟨ln, refs, cc, rfl, hln, htr, hs9⟩ htk9
    obtain ⟨a2, v1, v2, v3, c2, hx2, hmt⟩ := trip_get (k := (pl : Int)) htr (by omega) (by omega)
    have hpl : ((pl : Nat) : Int).toNat = pl := by omega
    have h0pl : 0 ≤ ((pl : Nat) : Int) := by omega
    rw [hpl] at hmt
    have H9 : TreeOk w.params l' led9 z nds := H.mono fun q hq => hs9 _ (.tail _ hq)
    have hT9 := H9.hT
    have hdT9 := H9.hdT
    have hI9 := hs9 _ (.head _)
    k_steps
    unfold Halt
    k_dflt (refine' KC.use (setattr_ok l' _ z nds _ _ _ _ _ _ _ _ _ H9 (by omega)) ?k1 ?k2 ?k3 ?k4 ?k5 ?k6 ?k7 ?k8 ?_; (case k1 => k_asm); (case k2 => k_asm); (case k3 => k_asm); (case k4 => k_asm); (case k5 => k_asm); (case k6 => first | exact rfl | assumption); (case k7 => ktr_room); (case k8 => ktr_units))
    rintro r10 led10 h10 tk10 F10 N10 ⟨z', nds', H10, hd10, hz10, hk10, hl10⟩ htk10
    k_steps
    have Fn10 := func_of N10
    replace hc1 : o1.cls = .type "list_iterator" := hc1
    have hIk : (I, o1) ∈ led10 := hk10 _ hI9 (.inr ⟨by rw [hc1]; decide +kernel, by rw [hc1]; decide +kernel⟩)
    refine endW F10 (news_sub N10 (l' := (I, o1) :: off I led10) ?_) off_ne ⟨⟨off_mem (hk10 _ (hs9 _ (.tail _ (hsub _ (.tail _ hrw)))) (.inl (hL1 _ (.tail _ hrw)))) (Nat.ne_of_lt (hI _ hrw0)), trivial⟩, z', nds', H10.off Fn10 hIk (Odd.cls hc1 (by decide +kernel) (by decide +kernel) (by decide +kernel)), ?_, by omega, ?_, hm2, hm3, ?_⟩
    · intro q hq
      rcases List.mem_cons.mp hq with rfl | hq
      · exact hIk
      · exact off_sub q hq
    · rw [hd10, hd, hsnoc, putAll_snoc]
      exact setA_setP hp7 fun x hx => h7 x (List.mem_of_mem_take ((putAll_ok _).2.1 x hx))
    · rw [hz10]; exact hm1
    · intro q hq
      exact off_mem (hk10 _ (hs9 _ (.tail _ (hsub _ hq))) (.inl (hL1 _ hq))) (Nat.ne_of_lt (hI _ (hs0 _ hq)))
  · rintro m₁ nw h tk' ⟨z, nds, H, hd, hl, hm1, hm2, hm3, hsub⟩ F1 N1
    have e0 : rows.take rvs.length = rows := by rw [hrows.1, List.take_length]
    rw [e0] at hd
    replace F1 : Fr g1 L1 h m₁ := F1
    replace N1 : News g1 L1 h nw := N1
    k_steps
    unfold Halt
    k_dflt (refine For_turns F' ?_)
    k_steps
    unfold Halt
    k_dflt (refine' KC.use (names_ok _) ?k1 ?k2 ?k3 ?k4 ?k5 ?k6 ?k7 ?k8 ?_; (case k1 => k_asm); (case k2 => k_asm); (case k3 => k_asm); (case k4 => k_asm); (case k5 => k_asm); (case k6 => first | exact rfl | assumption); (case k7 => ktr_room); (case k8 => ktr_units))
    rintro r9 led9 h9 tk9 F9 N9 ⟨ln, refs, cc, rfl, hln, htr, hs9⟩ htk9
    k_steps
    unfold Halt
    have Fn9 := func_of N9
    have hodd := Odd.cell dc1
    have hc9 := hs9 _ (hsub _ (.head _))
    have hln2 : (ln, listOf refs.toArray cc) ∈ off (L1 + 1) led9 := off_mem hln (Fn9.ne hln hc9 (Ne.symm (hodd.list _ _)))
    have htr2 := htr.off Fn9 hc9 hodd
    have H2 := (H.mono hs9).off Fn9 hc9 hodd
    have hs2 : ∀ q ∈ l, q ∈ off (L1 + 1) led9 := fun q hq => off_mem (hs9 _ (hsub _ (.tail _ hq))) (Nat.ne_of_lt (Nat.lt_succ_of_lt (l11 q hq)))
    have N9b := off_news N9 hc9
    generalize hb2 : off (L1 + 1) led9 = base2 at hln2 htr2 H2 hs2 N9b
    have hoff2 : ∀ q ∈ base2, q.1 ≠ L1 + 1 := hb2 ▸ off_ne
    refine ktu_enum (lo := listOf refs.toArray cc) (vs := refs) rfl F9 N9b (.tail _ hln2) rfl rfl rfl (fun I hI => enum_inv (fun i m₁ nw => ∃ oc vc t, oc.data = .cell vc ∧ (L1 + 1, oc) :: base2 = nw ∧
      m₁ (Str.ofString "tree") = some (.ref z.T) ∧ m₁ (Str.ofString "element") = some (.int 0 u9) ∧ m₁ (Str.ofString "rows") = some (.ref rw) ∧ m₁ (Str.ofString "due") = some (.str ⟨(due rows i).toArray⟩ t))
      ⟨oc1, _, _, dc1, rfl, hm1, hm2, hm3, rfl⟩ ?_ ?_)
    · rintro i v T₂ t₂ m₁ nw h tk' hv ⟨oc, vc, t0, hoc, rfl, hm1, hm2, hm3, hm4⟩ hT F1
      refine AllObj.cons fun o1 hc1 => AllObj.cons fun o2 hc2 => AllObj.nil fun N1 => ?_
      have hi : i < 7 := by
        have h1 := (List.getElem?_eq_some_iff.mp hv).1
        have h2 : refs.length = 7 := htr.1
        omega
      obtain ⟨a2, v1, v2, v3, c2, hx2, hmt⟩ := trip_get (k := (i : Int)) htr2 (by omega) (by omega)
      have hpl : ((i : Nat) : Int).toNat = i := by omega
      rw [hpl] at hmt hx2
      obtain rfl : v = .ref a2 := Option.some.inj (hv.symm.trans hx2)
      replace F1 : Fr g1 L1 h m₁ := F1
      replace N1 : News g1 L1 h ((I + 1, o1) :: (I, o2) :: (L1 + 1, oc) :: base2) := N1
      have hLI : @LT.lt Nat _ (L1 + 1) I := hI _ (.head _)
      have hI2 : ∀ q ∈ base2, q.1 < I := fun q hq => hI q (.tail _ hq)
      have hIa : ∀ {o : Obj}, ∀ q ∈ (L1 + 1, o) :: base2, q.1 < I := fun q hq => by
        rcases List.mem_cons.mp hq with rfl | hq
        · exact hLI
        · exact hI2 q hq
      k_steps
      unfold Halt
      k_dflt (refine my_Assign_ListComp_L (by k_asm) (by rfl) (by rfl) (by rfl) (by decide) (by rfl) (by decide) (by rfl) (by rfl) ?_)
      k_steps
      refine ⟨rw, rvs, n, _, fun k ys nw => ∃ yS, StrsAre ys yS ∧ yS = valsAt (rows.take k) i ∧ (I + 1, o1) :: (I, o2) :: (L1 + 1, oc') :: base2 = nw,
        rfl, rfl, by k_asm, by k_asm, ?_, ?_, ?_, ⟨[], .nil, rfl, rfl⟩, ?_, ?_⟩
      · have h1 := hrows.1
        have := sizeLine_eq; omega
      · rintro k ys nw ⟨yS, s1, s2, s3⟩
        have e1 := s1.length
        have e2 := vals_len (rows.take k) i
        rw [List.length_take, ← s2] at e2
        omega
      · rintro k ys nw ⟨yS, s1, s2, rfl⟩
        exact .tail _ (.tail _ (.tail _ (hs2 _ hrw)))
      · intro g k v ys nw I3 oI C oC D mC h tk E' hk hv ⟨yS, s1, s2, s3⟩ hC F1 N1 off1 ne1
        subst s3
        have hk' : k < rows.length := by have := hrows.1; omega
        obtain ⟨a3, w1, w2, c3, e3, hma⟩ := hrows.2 k rows[k] (List.getElem?_eq_getElem hk')
        obtain rfl : v = .ref a3 := Option.some.inj (hv.symm.trans e3)
        have hp7 := h7 _ (List.getElem_mem hk')
        have hsnoc : rows.take (k + 1) = rows.take k ++ [rows[k]] := by rw [List.take_add_one, List.getElem?_eq_getElem hk']; rfl
        generalize hq : rows[k] = q at hma hp7 hsnoc
        obtain ⟨pl, vl⟩ := q
        dsimp only at hma hp7
        refine cassign2 rfl hC F1 N1 off1 ne1 (.tail _ (.tail _ (.tail _ (hs2 _ hma)))) rfl rfl (by decide) rfl ?_
        intro h2' tk2' oC2 mC2 hm1 hm2 hC2 F2 N2
        refine wpAny_tests_one ?_
        clear F1 N1
        k_steps
        · rename_i hpi
          have hpi' : i = pl := by omega
          refine CEnd.intro _ hC2 F2 N2 off1 ⟨yS ++ [vl], strs_snoc s1, ?_, rfl⟩
          rw [hsnoc, vals_snoc, if_pos hpi', s2]
        · rename_i hpi
          have hpi' : ¬ i = pl := by omega
          refine CEnd.intro _ hC2 F2 N2 off1 ⟨yS, s1, ?_, rfl⟩
          rw [hsnoc, vals_snoc, if_neg hpi', s2]
      · rintro g ys nw ⟨yS, s1, s2, s3⟩
        subst s3
        rw [hrows.1, List.take_length] at s2
        unfold LCg.FinA
        intro D h2 tk2 F2 N2 o1'
        replace F2 : Fr g1 L1 h2 _ := F2
        replace N2 : News g1 L1 h2 ((D, LCg.lst ys) :: (I + 1, o1) :: (I, o2) :: (L1 + 1, oc') :: base2) := N2
        have hdl := due_len h18 i (by omega)
        have hdl2 : (Str.mk (due rows i).toArray).length ≤ i * 840000 := by
          show (due rows i).toArray.size ≤ _
          rw [List.size_toArray]; exact hdl
        generalize hdu : Str.mk (due rows i).toArray = du at hm4 hdl2
        k_steps
        unfold Halt
        have hlD : Heap.IsList h' D ys.toArray := ⟨_, (N' _ (.tail _ (.head _))).1, rfl, _, rfl⟩
        have hlE : Heap.IsList h' l' ([] : List Value).toArray := ⟨_, (N' _ (.head _)).1, rfl, _, rfl⟩
        k_dflt (refine my_ne_nil hlD hlE (by first | units_room | ktr_units) ?_)
        by_cases hy : yS = []
        · have hys : ys = [] := by subst hy; cases s1; rfl
          subst hys
          dsimp only [List.isEmpty, Bool.not_true]
          k_steps
          refine endW2 F' (news_sub N' fun q hq => .tail _ (.tail _ hq)) (fun q hq => Nat.ne_of_lt (Nat.lt_succ_of_lt (hIa q hq))) (fun q hq => Nat.ne_of_lt (hIa q hq)) ⟨⟨.tail _ hln2, trivial⟩, oc', _, _, dc', rfl, hm1, hm2, hm3, congrArg (fun x => some (Value.str x _)) (due_stay hdu (by rw [← s2, hy]))⟩
        · obtain ⟨v5, t5, hv1, hv2, hv3, hv4⟩ := last_of s1 hy
          have hys : (!ys.isEmpty) = true := by cases ys with
            | nil => simp at hv3
            | cons a r => rfl
          rw [hys]
          have hmv := vals_mem (s2 ▸ hv4)
          have hv18 : v5.length ≤ 18 := h18 _ hmv
          have hxn : (rowAt i).2.2.length ≤ 3 := name_len ⟨i, hi⟩
          have hql := quoted_len hv18
          k_steps
          refine endW2 F' (news_sub N' fun q hq => .tail _ (.tail _ hq)) (fun q hq => Nat.ne_of_lt (Nat.lt_succ_of_lt (hIa q hq))) (fun q hq => Nat.ne_of_lt (hIa q hq)) ⟨⟨.tail _ hln2, trivial⟩, oc', _, _, dc', rfl, hm1, hm2, hm3, congrArg (fun x => some (Value.str x _)) (due_step hdu (by rw [← s2, hv1]))⟩
    · rintro m₁ nw h tk' ⟨oc, vc, t0, hoc, rfl, hm1, hm2, hm3, hm4⟩ F1 N1
      replace F1 : Fr g1 L1 h m₁ := F1
      replace N1 : News g1 L1 h ((L1 + 1, oc) :: base2) := N1
      have e7 : refs.length = 7 := htr.1
      rw [e7] at hm4
      have H3 : TreeOk w.params l' ((L1 + 1, oc) :: base2) z nds := H2.mono fun q hq => .tail _ hq
      have hT3 := H3.hT
      have hdT3 := H3.hdT
      obtain ⟨k1, k2, k3⟩ := putAll_ok rows
      k_steps
      unfold Halt
      k_dflt (refine' KC.use (told_ok l' _ z nds _ (putAll rows) H3 hd k1 (fun x hx => h7 x (k2 x hx)) (by omega) (fun x hx => h18 x (k2 x hx))) ?k1 ?k2 ?k3 ?k4 ?k5 ?k6 ?k7 ?k8 ?_; (case k1 => k_asm); (case k2 => k_asm); (case k3 => k_asm); (case k4 => k_asm); (case k5 => k_asm); (case k6 => first | exact rfl | assumption); (case k7 => ktr_room); (case k8 => ktr_units))
      rintro r10 led10 h10 tk10 F10 N10 ⟨t10, rfl, hs10⟩ htk10
      k_steps
      have hb : (told (putAll rows) == (⟨(due rows 7).toArray⟩ : Str)) = true := beq_iff_eq.mpr (str_ext (told_due h7 h6))
      rw [hb]
      have e1 : Fr h₀ L h10 m := by with_reducible assumption
      have e2 : News h₀ L h10 led10 := by with_reducible assumption
      exact hret _ _ _ _ e1 e2 ⟨rfl, fun q hq => hs10 _ (.tail _ (hs2 q hq))⟩
end
end

noncomputable def cCom (x : Str) (c : Bool) : Str := if c = true then Str.ofString "<!--" ++ repl x plainPairs ++ Str.ofString "-->" else Str.ofString ""
local macro_rules | `(tactic| walk_at "call ref") => `(tactic| ((with_reducible refine at_call 220 ?_); k_dflt (open_k with (get_kind _ _ _ _ _ _ _ _ _ _ ?a1 ?a2 ?a3 ?a4 ?a5 ?a6 ?a7 ?a8); walk_at "m3"; walk_at "m6"; walk_at "m8"; walk_at "kB"); walk_at "kI"; walk_at "kR"))
local macro_rules | `(tactic| walk_at "call ref") => `(tactic| ((with_reducible refine at_call 67 ?_); k_dflt (open_k with (ctext_ok _ _ _ ?a1); (case a1 => assumption); walk_at "kB"); walk_at "kJ"; walk_at "kU"))
local macro_rules | `(tactic| walk_at "call ref") => `(tactic| ((with_reducible refine at_call 81 ?_); k_dflt (open_k with (cinstr_ok _ _ _ _ _ ?a1 ?a2); (case a1 => assumption); (case a2 => assumption); walk_at "kB"); walk_at "kJ"; walk_at "kU"))
local macro_rules | `(tactic| walk_at "call ref") => `(tactic| ((with_reducible refine at_call 248 ?_); k_dflt (open_k with (get_value _ _ _ _ _ _ _ _ _ _ ?a1 ?a2 ?a3 ?a4 ?a5 ?a6 ?a7 ?a8); walk_at "m3"; walk_at "m6"; walk_at "m8"; walk_at "kB"); walk_at "kI"; walk_at "kR"))
section
variable {w : World} {p : Program} {loose : List Str} {mean : ExcName → Option Value} {mg mb : Str → Option Value}
theorem cleaf_text (l : Led) (T dT R : Addr) (kr : Tok) (its : List Value) (c : Nat) (k : Int) (u : Tok) (x : Nd) (com : Bool)
    (hT : (T, instObj 300 dT) ∈ l) (hdT : (dT, dictOf [ent w.params "rows" kr (.ref R)] 1) ∈ l) (hR : (R, listOf its.toArray c) ∈ l) (hlen : its.length ≤ 100) (h0 : 0 ≤ k) (hx : its[k.toNat]? = some (.ref x.a))
    (hxa : (x.a, instObj 111 x.d) ∈ l) (hxd : (x.d, dictOf (rowEs w.params x) 9) ∈ l) (hkd : x.kd = Str.ofString "text") (hv : x.val.length ≤ 18) :
    KC w p loose mean mg mb 93 [.ref T, .int k u, .bool com] l 4 (fun r l' => ∃ t, r = .str (repl x.val textPairs) t ∧ l' = l) := by
  intro dp un gd cn cs ad ccd cl outer A₀ base h₀ L m s Q E B F X N T' hk hd hu hret
  have hb1 : (x.kd == Str.ofString "text") = true := by rw [hkd]; decide +kernel
  refine wpAny_call ?_
  k_dflt k_enter
  k_steps
  rename News _ _ _ _ => kN
  rename Fr _ _ _ _ => kF
  exact hret _ _ _ _ kF kN ⟨_, rfl, rfl⟩
theorem cleaf_instr (l : Led) (T dT R : Addr) (kr : Tok) (its : List Value) (c : Nat) (k : Int) (u : Tok) (x : Nd) (com : Bool)
    (hT : (T, instObj 300 dT) ∈ l) (hdT : (dT, dictOf [ent w.params "rows" kr (.ref R)] 1) ∈ l) (hR : (R, listOf its.toArray c) ∈ l) (hlen : its.length ≤ 100) (h0 : 0 ≤ k) (hx : its[k.toNat]? = some (.ref x.a))
    (hxa : (x.a, instObj 111 x.d) ∈ l) (hxd : (x.d, dictOf (rowEs w.params x) 9) ∈ l) (hkd : x.kd = Str.ofString "instruction") (hg : x.nm.length ≤ 3) (hv : x.val.length ≤ 18) :
    KC w p loose mean mg mb 93 [.ref T, .int k u, .bool com] l 4 (fun r l' => ∃ t, r = .str (cinstr x.nm x.val) t ∧ l' = l) := by
  intro dp un gd cn cs ad ccd cl outer A₀ base h₀ L m s Q E B F X N T' hk hd hu hret
  have hb1 : (x.kd == Str.ofString "text") = false := by rw [hkd]; decide +kernel
  have hb2 : (x.kd == Str.ofString "comment") = false := by rw [hkd]; decide +kernel
  have hb3 : (x.kd == Str.ofString "instruction") = true := by rw [hkd]; decide +kernel
  refine wpAny_call ?_
  k_dflt k_enter
  k_steps
  rename News _ _ _ _ => kN
  rename Fr _ _ _ _ => kF
  exact hret _ _ _ _ kF kN ⟨_, rfl, rfl⟩
section
local macro_rules | `(tactic| walk_at "call ref") => `(tactic| (with_reducible refine halt_call 60 ?_))
theorem cleaf_com (l : Led) (T dT R : Addr) (kr : Tok) (its : List Value) (c : Nat) (k : Int) (u : Tok) (x : Nd) (com : Bool)
    (hT : (T, instObj 300 dT) ∈ l) (hdT : (dT, dictOf [ent w.params "rows" kr (.ref R)] 1) ∈ l) (hR : (R, listOf its.toArray c) ∈ l) (hlen : its.length ≤ 100) (h0 : 0 ≤ k) (hx : its[k.toNat]? = some (.ref x.a))
    (hxa : (x.a, instObj 111 x.d) ∈ l) (hxd : (x.d, dictOf (rowEs w.params x) 9) ∈ l) (hkd : x.kd = Str.ofString "comment") (hv : x.val.length ≤ 18) :
    KC w p loose mean mg mb 93 [.ref T, .int k u, .bool com] l 4 (fun r l' => ∃ t, r = .str (cCom x.val com) t ∧ l' = l) := by
  intro dp un gd cn cs ad ccd cl outer A₀ base h₀ L m s Q E B F X N T' hk hd hu hret
  have hb1 : (x.kd == Str.ofString "text") = false := by rw [hkd]; decide +kernel
  have hb2 : (x.kd == Str.ofString "comment") = true := by rw [hkd]; decide +kernel
  cases com with
  | false =>
    refine wpAny_call ?_
    k_dflt k_enter
    k_steps
    rename News _ _ _ _ => kN
    rename Fr _ _ _ _ => kF
    exact hret _ _ _ _ kF kN ⟨_, rfl, rfl⟩
  | true =>
    refine wpAny_call ?_
    k_dflt k_enter
    (with_reducible refine gen_toks 1 ?htk ?_)
    (case htk => exact le_len rfl)
    intro tk0 htk0
    k_steps
    unfold Halt
    k_dflt (refine' KC.use (replaced_ok _ _ _ _ _ _ plainPairs ?m ?P hv (by decide) plainOk) ?k1 ?k2 ?k3 ?k4 ?k5 rfl ?k7 ?k8 ?_)
    (case k1 => k_asm)
    (case k2 => k_asm)
    (case k3 => k_asm)
    (case k4 => k_asm)
    (case k5 => k_asm)
    (case k7 => ktr_room)
    (case k8 => ktr_units)
    (case m => k_mem)
    (case P =>
      refine' PairsIn.cons ?mm ?u1 ?u2 ?u3 ?_; (case mm => k_mem); (case u1 => k_ne); (case u2 => k_ne); (case u3 => k_ne)
      exact PairsIn.nil)
    rintro r9 led9 h9 tk9 F9 N9 ⟨u9, rfl, rfl⟩ htk9
    have hlen2 := plain_len hv
    k_steps
    have e1 : Fr h₀ L h9 m := by with_reducible assumption
    have e2 : News h₀ L h9 l := by
      refine news_sub (by with_reducible assumption) ?_
      intro q hq
      exact .tail _ (.tail _ hq)
    exact hret _ l h9 _ e1 e2 ⟨_, rfl, rfl⟩
end
end

theorem row_at0 {v : Value} : (([] : List Value) ++ [v])[(((([] : List Value).length : Nat) : Int)).toNat]? = some v := rfl
theorem len_at0 {v : Value} : (([] : List Value) ++ [v]).length ≤ 100 := Nat.le_of_ble_eq_true rfl
theorem nonneg0 : 0 ≤ (((([] : List Value).length : Nat) : Int)) := Int.ofNat_nonneg _
theorem leaf_start {h₀ h : Heap} {L R T dT : Addr} {a b c d e f : Addr × Obj} {z o1 o2 : Obj} {l : Led} (N : News h₀ L h (a :: b :: c :: d :: e :: f :: off R ((R, z) :: (T, o1) :: (dT, o2) :: l))) (hTR : @LT.lt Nat _ T R) (hdR : @LT.lt Nat _ dT R) (hl : ∀ q ∈ l, q.1 < R) :
    News h₀ L h (a :: b :: c :: d :: e :: f :: (T, o1) :: (dT, o2) :: l) := by
  refine news_sub N fun q hq => ?_
  simp only [List.mem_cons] at hq ⊢
  rcases hq with h | h | h | h | h | h | h | h | h
  · exact .inl h
  · exact .inr (.inl h)
  · exact .inr (.inr (.inl h))
  · exact .inr (.inr (.inr (.inl h)))
  · exact .inr (.inr (.inr (.inr (.inl h))))
  · exact .inr (.inr (.inr (.inr (.inr (.inl h)))))
  · subst h; exact .inr (.inr (.inr (.inr (.inr (.inr (off_mem (.tail _ (.head _)) (Nat.ne_of_lt hTR)))))))
  · subst h; exact .inr (.inr (.inr (.inr (.inr (.inr (off_mem (.tail _ (.tail _ (.head _))) (Nat.ne_of_lt hdR)))))))
  · exact .inr (.inr (.inr (.inr (.inr (.inr (off_mem (.tail _ (.tail _ (.tail _ h))) (Nat.ne_of_lt (hl q h))))))))
theorem allLt_lt {D : Addr} : ∀ {l : Led}, AllLt D l → ∀ q ∈ l, q.1 < D
  | [], _, _, h => nomatch h
  | a :: r, h, q, hq => by
    rcases List.mem_cons.mp hq with e | hq
    · rw [e]; exact h.1
    · exact allLt_lt h.2 q hq
theorem com_same (x : Str) (c : Bool) : cCom x c = leafCom x c := by
  unfold cCom leafCom
  rw [repl_byTab plainOk plainSafe]
theorem pi_same (g x : Str) : cinstr g x = leafPi g x := by
  unfold cinstr leafPi
  rw [repl_byTab plainOk plainSafe]
  have e0 : (Str.ofString "").cps.toList = [] := by decide +kernel
  by_cases h : (x != Str.ofString "") = true
  · rw [if_pos h, if_pos h]
    apply str_ext
    simp only [Str.cps_append, Array.toList_append, List.append_assoc]
  · rw [if_neg h, if_neg h]
    have hx : x = Str.ofString "" := by simpa using h
    subst hx
    apply str_ext
    have e1 : (byTab plainPairs (Str.ofString "")).cps.toList = [] := by rw [byTab_cps plainOk, e0]; rfl
    simp only [Str.cps_append, Array.toList_append, List.append_assoc, e0, e1, List.nil_append]
local macro_rules | `(tactic| walk_at "call ref") => `(tactic| ((with_reducible refine at_call 171 ?_); k_dflt (open_k with (addtext_ok _ _ _ _ _ _ _ _ _ ?a1 ?a2 ?a3 ?a4 ?a5 ?a6); walk_at "m3"; walk_at "n6"; walk_at "kB"); walk_at "kJ"; walk_at "kX"))
local macro_rules | `(tactic| walk_at "call ref") => `(tactic| ((with_reducible refine at_call 178 ?_); k_dflt (open_k with (addcomment_ok _ _ _ _ _ _ _ _ _ ?a1 ?a2 ?a3 ?a4 ?a5 ?a6); walk_at "m3"; walk_at "n6"; walk_at "kB"); walk_at "kJ"; walk_at "kX"))
local macro_rules | `(tactic| walk_at "call ref") => `(tactic| ((with_reducible refine at_call 185 ?_); k_dflt (open_k with (addinstr_ok _ _ _ _ _ _ _ _ _ _ _ ?a1 ?a2 ?a3 ?a4 ?a5 ?a6); walk_at "m3"; walk_at "n6"; walk_at "kB"); walk_at "kJ"; walk_at "kX"))
section
variable {w : World} {p : Program} {loose : List Str} {mean : ExcName → Option Value} {mg mb : Str → Option Value}
section
local macro_rules | `(tactic| walk_at "call ref") => `(tactic| (with_reducible refine halt_call 93 ?_))
local macro_rules | `(tactic| walk_at "call ref") => `(tactic| (with_reducible refine halt_call 368 ?_))
theorem lr_all (l : Led) (kd g x : Str) (t1 t2 t3 : Tok) (c : Bool) (hkd : kd = Str.ofString "text" ∨ kd = Str.ofString "comment" ∨ kd = Str.ofString "instruction") (hg : kd = Str.ofString "instruction" → g.length ≤ 3) (hx : x.length ≤ 18) :
    KC w p loose mean mg mb 375 [.str kd t1, .str g t2, .str x t3, .bool c] l 9 (fun r l' => r = .bool true ∧ l' = l) := by
  intro dp un gd cn cs ad ccd cl outer A₀ base h₀ L m s Q E B F X N T hk hd hu hret
  refine wpAny_call ?_
  k_dflt k_enter
  iterate 23 (first | (k_unfold; (try dsimp only)) | walk1 | (dsimp only; walk1))
  rcases hkd with rfl | rfl | rfl
  · k_steps
    unfold Halt
    replace N' := leaf_start N' (by assumption) (by assumption) (by first | exact allLt_lt (by assumption) | (intro q hq; exact Nat.lt_trans (by assumption) (by assumption)))
    k_dflt (refine' KC.use (cleaf_text _ _ _ _ _ _ _ _ _ x9 c ?a1 ?a2 ?a3 len_at0 nonneg0 row_at0 ?a7 ?a8 e1 (by rw [e5]; exact hx)) ?k1 ?k2 ?k3 ?k4 ?k5 ?k6 ?k7 ?k8 ?_; (case k1 => k_asm); (case k2 => k_asm); (case k3 => k_asm); (case k4 => k_asm); (case k5 => k_asm); (case k6 => first | exact rfl | assumption); (case k7 => ktr_room); (case k8 => ktr_units))
    (case a1 => k_mem)
    (case a2 => k_mem)
    (case a3 => k_mem)
    (case a7 => k_mem)
    (case a8 => k_mem)
    rintro r10 led10 h10 tk10 F10 N10 ⟨t10, rfl, rfl⟩ htk10
    k_steps
    unfold Halt
    k_dflt (refine' KC.use (leaf_text_ok _ _ _ _ _ _ _ hx) ?k1 ?k2 ?k3 ?k4 ?k5 ?k6 ?k7 ?k8 ?_; (case k1 => k_asm); (case k2 => k_asm); (case k3 => k_asm); (case k4 => k_asm); (case k5 => k_asm); (case k6 => first | exact rfl | assumption); (case k7 => ktr_room); (case k8 => ktr_units))
    rintro r11 led11 h11 tk11 F11 N11 ⟨t11, rfl, rfl⟩ htk11
    k_steps
    have hb : (repl x9.val textPairs == byTab textPairs x) = true := beq_iff_eq.mpr (by rw [e5, repl_byTab textOk textSafe])
    rw [hb]
    have e1 : Fr h₀ L h11 m := by with_reducible assumption
    have e2 : News h₀ L h11 l := by
      refine news_sub (by with_reducible assumption) ?_
      intro q hq
      exact .tail _ (.tail _ (.tail _ (.tail _ (.tail _ (.tail _ (.tail _ (.tail _ hq)))))))
    exact hret _ l h11 _ e1 e2 ⟨rfl, rfl⟩
  · k_steps
    unfold Halt
    replace N' := leaf_start N' (by assumption) (by assumption) (by first | exact allLt_lt (by assumption) | (intro q hq; exact Nat.lt_trans (by assumption) (by assumption)))
    k_dflt (refine' KC.use (cleaf_com _ _ _ _ _ _ _ _ _ x9 c ?a1 ?a2 ?a3 len_at0 nonneg0 row_at0 ?a7 ?a8 e1 (by rw [e5]; exact hx)) ?k1 ?k2 ?k3 ?k4 ?k5 ?k6 ?k7 ?k8 ?_; (case k1 => k_asm); (case k2 => k_asm); (case k3 => k_asm); (case k4 => k_asm); (case k5 => k_asm); (case k6 => first | exact rfl | assumption); (case k7 => ktr_room); (case k8 => ktr_units))
    (case a1 => k_mem)
    (case a2 => k_mem)
    (case a3 => k_mem)
    (case a7 => k_mem)
    (case a8 => k_mem)
    rintro r10 led10 h10 tk10 F10 N10 ⟨t10, rfl, rfl⟩ htk10
    k_steps
    unfold Halt
    k_dflt (refine' KC.use (leaf_com_ok _ _ _ _ _ _ _ hx) ?k1 ?k2 ?k3 ?k4 ?k5 ?k6 ?k7 ?k8 ?_; (case k1 => k_asm); (case k2 => k_asm); (case k3 => k_asm); (case k4 => k_asm); (case k5 => k_asm); (case k6 => first | exact rfl | assumption); (case k7 => ktr_room); (case k8 => ktr_units))
    rintro r11 led11 h11 tk11 F11 N11 ⟨t11, rfl, rfl⟩ htk11
    k_steps
    have hb : (cCom x9.val c == leafCom x c) = true := beq_iff_eq.mpr (by rw [e5]; exact com_same x c)
    rw [hb]
    have e1 : Fr h₀ L h11 m := by with_reducible assumption
    have e2 : News h₀ L h11 l := by
      refine news_sub (by with_reducible assumption) ?_
      intro q hq
      exact .tail _ (.tail _ (.tail _ (.tail _ (.tail _ (.tail _ (.tail _ (.tail _ hq)))))))
    exact hret _ l h11 _ e1 e2 ⟨rfl, rfl⟩
  · k_steps
    unfold Halt
    replace N' := leaf_start N' (by assumption) (by assumption) (by first | exact allLt_lt (by assumption) | (intro q hq; exact Nat.lt_trans (by assumption) (by assumption)))
    k_dflt (refine' KC.use (cleaf_instr _ _ _ _ _ _ _ _ _ x9 c ?a1 ?a2 ?a3 len_at0 nonneg0 row_at0 ?a7 ?a8 e1 (by rw [e2]; exact hg rfl) (by rw [e5]; exact hx)) ?k1 ?k2 ?k3 ?k4 ?k5 ?k6 ?k7 ?k8 ?_; (case k1 => k_asm); (case k2 => k_asm); (case k3 => k_asm); (case k4 => k_asm); (case k5 => k_asm); (case k6 => first | exact rfl | assumption); (case k7 => ktr_room); (case k8 => ktr_units))
    (case a1 => k_mem)
    (case a2 => k_mem)
    (case a3 => k_mem)
    (case a7 => k_mem)
    (case a8 => k_mem)
    rintro r10 led10 h10 tk10 F10 N10 ⟨t10, rfl, rfl⟩ htk10
    k_steps
    unfold Halt
    k_dflt (refine' KC.use (leaf_pi_ok _ _ _ _ _ _ _ (hg rfl) hx) ?k1 ?k2 ?k3 ?k4 ?k5 ?k6 ?k7 ?k8 ?_; (case k1 => k_asm); (case k2 => k_asm); (case k3 => k_asm); (case k4 => k_asm); (case k5 => k_asm); (case k6 => first | exact rfl | assumption); (case k7 => ktr_room); (case k8 => ktr_units))
    rintro r11 led11 h11 tk11 F11 N11 ⟨t11, rfl, rfl⟩ htk11
    k_steps
    have hb : (cinstr x9.nm x9.val == leafPi g x) = true := beq_iff_eq.mpr (by rw [e5, e2]; exact pi_same g x)
    rw [hb]
    have e1 : Fr h₀ L h11 m := by with_reducible assumption
    have e2 : News h₀ L h11 l := by
      refine news_sub (by with_reducible assumption) ?_
      intro q hq
      exact .tail _ (.tail _ (.tail _ (.tail _ (.tail _ (.tail _ (.tail _ (.tail _ hq)))))))
    exact hret _ l h11 _ e1 e2 ⟨rfl, rfl⟩
theorem lr_text (l : Led) (g x : Str) (t1 t2 t3 : Tok) (c : Bool) (hx : x.length ≤ 18) :
    KC w p loose mean mg mb 375 [.str (Str.ofString "text") t1, .str g t2, .str x t3, .bool c] l 9 (fun r l' => r = .bool true ∧ l' = l) :=
  lr_all l _ g x t1 t2 t3 c (.inl rfl) (fun h => absurd h (by decide +kernel)) hx
theorem lr_com (l : Led) (g x : Str) (t1 t2 t3 : Tok) (c : Bool) (hx : x.length ≤ 18) :
    KC w p loose mean mg mb 375 [.str (Str.ofString "comment") t1, .str g t2, .str x t3, .bool c] l 9 (fun r l' => r = .bool true ∧ l' = l) :=
  lr_all l _ g x t1 t2 t3 c (.inr (.inl rfl)) (fun h => absurd h (by decide +kernel)) hx
theorem lr_pi (l : Led) (g x : Str) (t1 t2 t3 : Tok) (c : Bool) (hg : g.length ≤ 3) (hx : x.length ≤ 18) :
    KC w p loose mean mg mb 375 [.str (Str.ofString "instruction") t1, .str g t2, .str x t3, .bool c] l 9 (fun r l' => r = .bool true ∧ l' = l) :=
  lr_all l _ g x t1 t2 t3 c (.inr (.inr rfl)) (fun _ => hg) hx
end
end

section Fault
variable {prog : Program} {w : World} {A : Around} {h : Heap} {g : Array GenState} {d : Drawn} {t : Nat} {os : OsState}
variable {nm q : Str} {C N C2 N2 : Addr} {bs : List Value} {hdct : Bool} {sn : List Str} {sub : List Value} {ab : Bool} {col : Option Bool} {dd : Option Addr} {k0 k1 k2 k3 k5 : Option Value}
noncomputable abbrev excTail : List Value := [.type "Exception", .type "BaseException", .type "object"]
/-- the new object of an own exception class whose base is an own class again -/
theorem fault_new {R : Result → Shared → Prop} {rest : List Value} (hC : h.get? C = some (excClassObj nm q C N bs (.ref C2 :: excTail) hdct sn sub ab col dd k0 k1 k2 k3 k5 "Exception.__new__"))
    (hq : R (.ok (.ret (.ref (h.objs.size + 1)))) ⟨(h.push { cls := .type "tuple", data := .seq rest.toArray }).push
      { cls := .ref C, data := .fields #[.ref h.objs.size, .none, .none, .none, .bool false, .none] }, g, d, t, os⟩) (hrest : rest.length ≤ sizeLine := by size_fits) :
    codeAny (model prog w) A (.builtin "Exception.__new__" ⟨.ref C :: rest, []⟩) R ⟨h, g, d, t, os⟩ := by
  have Fn := F.excBase_Exception
  have hends := Fn.ends
  have hcB : (Value.ref C :: .ref C2 :: excTail).contains (.type "Exception") = true := by rw [List.contains_cons, List.contains_cons, Fn.hasB, Bool.or_true, Bool.or_true]
  have hcA : (Value.ref C :: .ref C2 :: excTail).contains (.type "AttributeError") = false := by rw [List.contains_cons, List.contains_cons, Fn.noAttr]; rfl
  have hcN : (Value.ref C :: .ref C2 :: excTail).contains (.type "NameError") = false := by rw [List.contains_cons, List.contains_cons, Fn.noName]; rfl
  refine codeAny_builtinAt Fn.entry ?_
  unfold Builtin.«BaseException.__new__»
  refine PySem.wpAt_bind ?_
  show PySem.wpAt _ _ _ (stack >>= _) _ _ _
  refine PySem.wpAt_bind (PySem.wpAt_stack fun p below => PySem.wpAt_of_wpAny ?_)
  wp_walk
  refine PySem.wpAt_of_wpAny ?_
  rw [Fn.owner]
  repeat (first | with_reducible refine wpAny_madeHere_exc Fn.canon hC ?_ | with_reducible refine wpAny_loadPart_at hC ?_ | (with_reducible refine wpAny_isSubtype_exc hC ?_; first | rw [hcB] | rw [hcA] | rw [hcN]) | wp_step)
  show R _ _
  rw [Heap.size_push]
  exact hq
theorem fault_type {E : Value → Shared → Prop} {mN mA : Str → Option Value} {rest : List Value} {fI : Addr} {oI : Obj} {c0 : Value} {dd2 : Option Addr} {cd2 : ClassData} {sl2 : Array (Option Value)} {Q : Fin → Shared → Prop}
    (hC : h.get? C = some (excClassObj nm q C N bs (.ref C2 :: excTail) hdct sn sub ab col dd k0 k1 k2 k3 k5 "Exception.__new__")) (hn : h.Ns N mN) (hni : mN "__init__" = none)
    (hA : h.get? C2 = some { cls := c0, dict := dd2, data := .cls cd2, slots := sl2 }) (hnA : h.Ns cd2.ns mA) (hi : mA "__init__" = some (.ref fI))
    (hfI : h.get? fI = some oI) (hfc : oI.cls = .type "function")
    (hq : ∀ h' e, Heap.MadeExcOf h h' e (.ref C) rest →
      wpAny (model prog w) A (call (.ref fI) (.ref e :: rest)) (fun r s' => r = .none ∧ Q (.done (.ret (.ref e))) s') E ⟨h', g, d, t, os⟩) (hrest : rest.length ≤ sizeLine := by size_fits) :
    wpAny (model prog w) A (Builtin.«type.__call__» ⟨.ref C :: rest, []⟩) Q E ⟨h, g, d, t, os⟩ := by
  have Fn := F.excBase_Exception
  repeat (first | with_reducible refine wpAny_loadPart_at hC ?_ | with_reducible refine wpAny_madeBy_exc hC ?_ | wp_step)
  refine codeAny_call_builtin_code (Code.quiet_builtin _ Fn.quiet) (wpAny_check_new_subU (bmB := .ref C2 :: excTail) Fn (by rw [List.contains_cons, Fn.hasB, Bool.or_true]) .base hC ?_)
  refine fault_new hC ?_ hrest
  show wpAny _ _ _ _ _ _
  have up : ∀ b o, h.get? b = some o → ((h.push { cls := .type "tuple", data := .seq rest.toArray }).push { cls := .ref C, data := .fields #[.ref h.objs.size, .none, .none, .none, .bool false, .none] }).get? b = some o :=
    fun b o e => Heap.get?_push_of_some _ (Heap.get?_push_of_some _ e)
  have hC₁ := up _ _ hC
  have hA₁ := up _ _ hA
  have hfI₁ := up _ _ hfI
  have hn₁ := hn.keeps up
  have hnA₁ := hnA.keeps up
  have hget : ((h.push { cls := .type "tuple", data := .seq rest.toArray }).push
      { cls := .ref C, data := .fields #[.ref h.objs.size, .none, .none, .none, .bool false, .none] }).get? (h.objs.size + 1) = some
      { cls := .ref C, data := .fields #[.ref h.objs.size, .none, .none, .none, .bool false, .none] } := by heap_get
  have hcC : (Value.ref C :: .ref C2 :: excTail).contains (.ref C) = true := by simp
  unfold isInstance
  repeat (first | with_reducible refine wpAny_loadPart_at hget ?_ | (with_reducible refine wpAny_isSubtype_exc hC₁ ?_; rw [hcC]) | wp_step)
  show wpAny _ _ (typeLookup (.ref C) _) _ _ _
  rw [typeLookup_eq]
  refine wpAny_bind (wpAny_mroOf_exc hC₁ ?_)
  rw [lookupAlong_cons]
  refine wpAny_bind (wpAny_classOwn_exc hC₁ hn₁ ?_)
  rw [hni]
  show wpAny _ _ (lookupAlong _ _) _ _ _
  rw [lookupAlong_cons]
  refine wpAny_bind (wpAny_classOwn_cls hA₁ hnA₁ ?_)
  rw [hi]
  refine wpAny_pure ?_
  refine wpAny_holding (wpAny_bind ?_)
  unfold bindSpecial
  refine wpAny_bind (wpAny_typeOf (T := "function") ⟨_, hfI₁, hfc⟩ ?_)
  rw [if_pos (by decide)]
  refine wpAny_pure (wpAny_bind (wpAny_mono (hq _ (h.objs.size + 1) ⟨up, Heap.get?_none_of_le (Nat.le_succ _), h.objs.size, hget, Heap.get?_none_of_le (Nat.le_refl _), ?_⟩) (fun r s' hr => ?_) fun _ _ x => x))
  · exact Heap.get?_push_of_some _ (Heap.get?_push_at rfl rfl)
  · obtain ⟨rfl, hQ⟩ := hr
    wp_walk
    exact hQ
theorem fault_call {E : Value → Shared → Prop} {mN mA : Str → Option Value} {rest : List Value} {fI : Addr} {oI : Obj} {c0 : Value} {dd2 : Option Addr} {cd2 : ClassData} {sl2 : Array (Option Value)} {Q : Value → Shared → Prop}
    (hC : h.get? C = some (excClassObj nm q C N bs (.ref C2 :: excTail) hdct sn sub ab col dd k0 k1 k2 k3 k5 "Exception.__new__")) (hn : h.Ns N mN) (hni : mN "__init__" = none)
    (hA : h.get? C2 = some { cls := c0, dict := dd2, data := .cls cd2, slots := sl2 }) (hnA : h.Ns cd2.ns mA) (hi : mA "__init__" = some (.ref fI))
    (hfI : h.get? fI = some oI) (hfc : oI.cls = .type "function")
    (hq : ∀ h' e, Heap.MadeExcOf h h' e (.ref C) rest →
      wpAny (model prog w) (A.under (.builtin "type.__call__" ⟨.ref C :: rest, []⟩)) (call (.ref fI) (.ref e :: rest)) (fun r s' => r = .none ∧ Q (.ref e) s') E ⟨h', g, d, t, os⟩) (hrest : rest.length ≤ sizeLine := by size_fits) :
    wpAny (model prog w) A (call (.ref C) rest) Q E ⟨h, g, d, t, os⟩ := by
  have f1 := tc_lookup
  have f2 := tc_bind (.ref C)
  have hT : (⟨h, g, d, t, os⟩ : Shared).TypeIs (.ref C) "type" := ⟨_, hC, rfl⟩
  refine wpAny_call (codeAny_of_tree ?_)
  show wpAny _ _ (callAny (.ref C) _) _ _ _
  repeat (any_goals (first | assumption | with_reducible refine wpAny_loadPart_at hC ?_ | wp_step))
  refine ⟨rfl, ?_⟩
  refine codeAny_call_builtin_at (Code.quiet_builtin _ (by decide +kernel)) entry_typeCall (wpAny_check_type_call_sub hC (fault_type (hrest := hrest) hC hn hni hA hnA hi hfI hfc fun h' e hm => ?_))
  exact hq h' e hm
theorem ns_some_of {K : Frag} {h : Heap} {N : Addr} {mg : Str → Option Value} {n : Str} {v : Value} (X : K.In h) (G : h.Ns N mg) (e : nsIn K N n = some (some v)) : mg n = some v := by
  obtain ⟨o, es, ep, ho, hd, _, hf⟩ := G
  unfold nsIn at e
  split at e
  · rename_i c d es' n' sl q
    have := X _ _ q
    rw [ho] at this
    cases this
    cases hd
    split at e
    · rename_i en he
      cases e
      rw [← hf]
      unfold nsFind findBy
      rw [← Array.find?_toList, he]
      rfl
    · split at e <;> cases e
  · cases e
/-- an exception's object as it is made -/
noncomputable abbrev excO (C t : Addr) (dx : Option Addr) : Obj := { cls := .ref C, dict := dx, data := .fields #[.ref t, .none, .none, .none, .bool false, .none] }
theorem made_news {L : Addr} {h₀ h h' : Heap} {m : Str → Option Value} {led : Led} {e C : Addr} {vs : List Value} (F : Fr h₀ L h m) (N : News h₀ L h led) (H : Heap.MadeExcOf h h' e (.ref C) vs) :
    ∃ t, Fr h₀ L h' m ∧ News h₀ L h' ((e, excO C t none) :: (t, tupObj vs 0) :: led) ∧ (∀ q ∈ led, q.1 ≠ e) ∧ (∀ q ∈ led, q.1 ≠ t) := by
  obtain ⟨t, h1, h2, h3⟩ := H.there
  have fresh : ∀ b, h.get? b = none → b ≠ L ∧ h₀.get? b = none := fun b hb => by
    refine ⟨fun q => ?_, ?_⟩
    · obtain ⟨o, _, _, ho, _⟩ := F.ns
      rw [q, ho] at hb; cases hb
    · cases q : h₀.get? b with
      | none => rfl
      | some o => rw [F.keep _ _ q] at hb; cases hb
  refine ⟨t, F.keeps H.keeps, fun q hq => ?_, fun q hq z => ?_, fun q hq z => ?_⟩
  · rcases List.mem_cons.mp hq with rfl | hq
    · exact ⟨h1, fresh _ H.new⟩
    rcases List.mem_cons.mp hq with rfl | hq
    · exact ⟨h3, fresh _ h2⟩
    exact ⟨H.keeps _ _ (N q hq).1, (N q hq).2⟩
  · have := (N q hq).1; rw [z, H.new] at this; cases this
  · have := (N q hq).1; rw [z, h2] at this; cases this
/-- a field of an exception's object is stored: its dict is made -/
theorem exc_store {K : Frag} {A : Around} {E : Value → Shared → Prop} {s : Shared} {x C t₀ : Addr} {name : Str} {v : Value} {cd : ClassData} {Q : Unit → Shared → Prop} (X : K.In s.heap) (hx : s.heap.get? x = some (excO C t₀ none)) (hc : clsIn K C = some cd) (hd : cd.hasDict = true)
    (hs : findIn K (.ref C) "__setattr__" = some (some (.builtin "object.__setattr__"))) (hn : findIn K (.ref C) name = some none) (hr : refuseLoop (.ref x) "__setattr__" cd.mro = pure ()) (hob : cd.mro.contains (.type "object") = true) (hne : cd.mro.isEmpty = false)
    (h : ∀ h' d tk, (∀ b o, b ≠ x → s.heap.get? b = some o → h'.get? b = some o) → h'.get? x = some (excO C t₀ (some d)) → s.heap.get? d = none → Q () { s with heap := h', toks := tk }) : wpAny (model prog w) A (setAttr (.ref x) name v) Q E s := by
  have I : InstAt s.heap x (excO C t₀ none) C none := ⟨hx, rfl, rfl, trivial⟩
  refine set_plain X I hs ?_
  have SF := PySem.F.store_object
  have sub : Looks (model prog w) s.heap (isInstance (.ref x) (.type "object")) true := I.type.andThen (looks_mroIn X (by unfold mroIn; rw [hc, Option.bind_some, if_neg (by rw [hne]; decide), hob]))
  refine codeAny_call_builtin SF.slot.plain SF.entry (@check_slot (model prog w) _ _ { s with toks := s.toks + 1 } "object.__setattr__" "object" "__setattr__" (.ref x) [.str name s.toks, v] [] _ SF.kind SF.split sub (SF.args (.ref x) (.str name s.toks) v) ?_)
  have hm : Looks (model prog w) s.heap (mroOf (.ref C)) cd.mro := (looks_clsIn X hc).andThen .now
  rw [osa_eq, refuse_eq]
  refine wpAny_bind (wpAny_bind (I.type.here (s := { s with toks := s.toks + 1 }) (wpAny_bind (hm.here (s := { s with toks := s.toks + 1 }) ?_))))
  rw [hr]
  refine wpAny_pure (wpAny_bind (I.type.here (s := { s with toks := s.toks + 1 }) (wpAny_bind ((looks_findIn X hn).here (s := { s with toks := s.toks + 1 }) (wpAny_bind (wpAny_pure ?_))))))
  show wpAny _ _ (PySem.Builtin.ObjectAttr.storeInOwnDict (.ref x) (.ref C) (.str name s.toks) name v false) _ _ _
  refine wpAny_bind (wpAny_pure (wpAny_bind (wpAny_bind (wpAny_loadPart hx (wpAny_bind ((looks_clsIn X hc).here (s := { s with toks := s.toks + 1 }) ?_))))))
  rw [hd]
  have hlt : x < s.heap.objs.size := Heap.lt_size hx
  have hx2 : (s.heap.push { cls := .type "dict", data := .dict #[] }).get? x = some (excO C t₀ none) := Heap.get?_push_of_some _ hx
  refine wpAny_bind (wpAny_alloc (wpAny_bind (wpAny_update hx2 (wpAny_pure (a := some s.heap.objs.size) (wpAny_bind (wpAny_pure (wpAny_bind ?_)))))))
  have D : ((s.heap.push { cls := .type "dict", data := .dict #[] }).update x fun o => { o with dict := some s.heap.objs.size }).get? s.heap.objs.size = some { cls := .type "dict", data := .dict #[] } := by
    rw [Heap.get?_update_other _ _ (Nat.ne_of_lt hlt)]
    exact Heap.get?_push_size _ rfl
  unfold nsSet
  refine wpAny_bind (wpAny_bind (wpAny_askSetting (wpAny_pure (wpAny_bind (wpAny_mkText (wpAny_bind (wpAny_loadPart D ?_)))))))
  dsimp only
  rw [aRefKeyMayBeTheName_at, if_neg (by simp)]
  refine wpAny_updatePart D ?_
  have D' := Heap.get?_update_self (Obj.putName name (PyData.keyHash w.params name) (.str name (s.toks + 1)) v) D rfl
  refine wpAny_bind (wpAny_lookBehind D' (pastItsLine_dict (n := 1) (es := #[⟨PyData.keyHash w.params name, .str name (s.toks + 1), v⟩]) (by rw [sizeLine_eq]; exact Nat.le_of_ble_eq_true rfl)) (wpAny_pure ?_))
  refine h _ s.heap.objs.size _ (fun b o hb e => ?_) ?_ (Heap.get?_none_of_le (Nat.le_refl _))
  · rw [Heap.get?_update_other _ _ (Nat.ne_of_gt (Heap.lt_size e)), Heap.get?_update_other _ _ (Ne.symm hb)]
    exact Heap.get?_push_of_some _ e
  · rw [Heap.get?_update_other _ _ (Nat.ne_of_gt hlt)]
    exact Heap.get?_update_self (fun o => { o with dict := some s.heap.objs.size }) hx2 rfl
theorem fault_check {M : Model} {E : Value → Shared → Prop} {x : Addr} {oe : Obj} {rest : List Value} {Q : Unit → Shared → Prop} (hC : h.get? C = some (excClassObj nm q C N bs (.ref C2 :: excTail) hdct sn sub ab col dd k0 k1 k2 k3 k5 "Exception.__new__")) (he : h.get? x = some oe) (hcls : oe.cls = .ref C) (hq : Q () ⟨h, g, d, t, os⟩) :
    wpAny M A (checkBuiltinCall "Exception.__init__" ⟨.ref x :: rest, []⟩) Q E ⟨h, g, d, t, os⟩ := by
  have Fn := F.excBase_Exception
  have hcB : (Value.ref C :: .ref C2 :: excTail).contains (.type "Exception") = true := by rw [List.contains_cons, List.contains_cons, Fn.hasB, Bool.or_true, Bool.or_true]
  have hshort := Fn.noStar
  simp only [checkBuiltinCall, Fn.initKind, Fn.initSplit, Fn.initRow]
  repeat (first | (with_reducible refine wpAny_loadPart_at he ?_; rw [hcls]) | with_reducible refine wpAny_loadPart_at hC ?_ | (with_reducible refine wpAny_isSubtype_exc hC ?_; rw [hcB]) | wp_step)
  refine wpAny_onRaise ?_
  rw [show ∀ (a b : String) (n : Nat), Bind.check ⟨.positional, "*", "Exception", .self, [⟨"args", .varPos, false⟩]⟩ a b n (List.map (fun x => x.fst) ({ pos := Value.ref x :: rest } : Args).kw) = pure () from
    fun a b n => check_star_args _ _ _ _ _ _]
  exact wpAny_pure hq
/-- Exception.__init__ of an object of such a class: its texts are put anew -/
theorem fault_base_init {E : Value → Shared → Prop} {x t₀ : Addr} {v : Value} {Q : Value → Shared → Prop} (hC : h.get? C = some (excClassObj nm q C N bs (.ref C2 :: excTail) hdct sn sub ab col dd k0 k1 k2 k3 k5 "Exception.__new__")) (hx : h.get? x = some (excO C t₀ none))
    (hq : ∀ h' t₁, (∀ b o, b ≠ x → h.get? b = some o → h'.get? b = some o) → h'.get? x = some (excO C t₁ none) → h'.get? t₁ = some (tupObj [v] 0) → h.get? t₁ = none → Q .none ⟨h', g, d, t, os⟩) :
    wpAny (model prog w) A (call (.builtin "Exception.__init__") [.ref x, v]) Q E ⟨h, g, d, t, os⟩ := by
  have Fn := F.excBase_Exception
  have hlt : x < h.objs.size := Heap.lt_size hx
  refine wpAny_call (codeAny_call_builtin Fn.init.plain Fn.initEntry (fault_check hC hx rfl ?_))
  wp_walk
  refine hq _ h.objs.size (fun b o hb e => ?_) ?_ ?_ (Heap.get?_none_of_le (Nat.le_refl _))
  · rw [Heap.get?_update_other _ _ (Ne.symm hb)]
    exact Heap.get?_push_of_some _ e
  · rw [Heap.get?_update_self _ (Heap.get?_push_of_some _ hx) rfl]
    rfl
  · rw [Heap.get?_update_other _ _ (Nat.ne_of_lt hlt)]
    exact Heap.get?_push_size _ rfl
end Fault
section
variable {w : World} {p : Program} {loose : List Str} {mean : ExcName → Option Value} {mg mb : Str → Option Value}
theorem fault_at {h : Heap} (X : (hd.heap_1 w.params).In h) : ∃ nm q bs hdct sn sub ab col dd k0 k1 k2 k3 k5, h.get? 51 = some (excClassObj nm q 51 50 bs (.ref 38 :: excTail) hdct sn sub ab col dd k0 k1 k2 k3 k5 "Exception.__new__") :=
  ⟨_, _, _, _, _, _, _, _, _, _, _, _, _, _, X _ _ (by k_is)⟩
theorem base_at {h : Heap} (X : (hd.heap_1 w.params).In h) : ∃ c0 dd2 cd2 sl2, h.get? 38 = some { cls := c0, dict := dd2, data := .cls cd2, slots := sl2 } ∧ cd2.ns = 37 :=
  ⟨_, _, _, _, X _ _ (by k_is), rfl⟩
theorem init_at {h : Heap} (X : (hd.heap_1 w.params).In h) : ∃ oI, h.get? 35 = some oI ∧ oI.cls = .type "function" :=
  ⟨_, X _ _ (by k_is), rfl⟩
theorem ns50_ok : nsOkIn (hd.heap_1 w.params) 50 = true := by kernel_rfl
theorem ns37_ok : nsOkIn (hd.heap_1 w.params) 37 = true := by kernel_rfl
theorem ns50_init : nsIn (hd.heap_1 w.params) 50 "__init__" = some none := by k_is
theorem ns37_init : nsIn (hd.heap_1 w.params) 37 "__init__" = some (some (.ref 35)) := by k_is
theorem fr_but1 {h₀ h h' : Heap} {L x : Addr} {m : Str → Option Value} (F : Fr h₀ L h m) (hL : L ≠ x) (h0 : h₀.get? x = none) (hk : ∀ b o, b ≠ x → h.get? b = some o → h'.get? b = some o) : Fr h₀ L h' m :=
  ⟨F.ns.at' fun o e => hk _ o hL e, fun c o e => hk c o (fun q => by rw [q, h0] at e; cases e) (F.keep c o e), F.above⟩
theorem fresh_at {h₀ h : Heap} {L b : Addr} {m : Str → Option Value} (F : Fr h₀ L h m) (hb : h.get? b = none) : b ≠ L ∧ h₀.get? b = none := by
  refine ⟨fun q => ?_, ?_⟩
  · obtain ⟨o, _, _, ho, _⟩ := F.ns
    rw [q, ho] at hb; cases hb
  · cases q : h₀.get? b with
    | none => rfl
    | some o => rw [F.keep _ _ q] at hb; cases hb
theorem base_init_K {A : Around} {E : Value → Shared → Prop} {s : Shared} {h₀ : Heap} {L x t₀ : Addr} {m : Str → Option Value} {l : Led} {v : Value} {Q : Value → Shared → Prop} (F : Fr h₀ L s.heap m) (X : (hd.heap_1 w.params).In h₀) (N : News h₀ L s.heap ((x, excO 51 t₀ none) :: l)) (hx : ∀ q ∈ l, q.1 ≠ x)
    (h : ∀ h' t₁, Fr h₀ L h' m → News h₀ L h' ((x, excO 51 t₁ none) :: (t₁, tupObj [v] 0) :: l) → (∀ q ∈ l, q.1 ≠ t₁) → Q .none { s with heap := h' }) :
    wpAny (model PG w) A (call (.builtin "Exception.__init__") [.ref x, v]) Q E s := by
  obtain ⟨nm, q, bs, hdct, sn, sub, ab, col, dd, k0, k1, k2, k3, k5, hC⟩ := fault_at (X.keeps F.keep)
  have z := N _ (.head _)
  refine fault_base_init hC z.1 fun h' t₁ hk h1 h2 h3 => h h' t₁ (fr_but1 F (Ne.symm z.2.1) z.2.2 hk) (fun p hp => ?_) fun p hp e => by
    have := (N p (.tail _ hp)).1
    rw [e, h3] at this; cases this
  rcases List.mem_cons.mp hp with rfl | hp
  · exact ⟨h1, z.2⟩
  rcases List.mem_cons.mp hp with rfl | hp
  · exact ⟨h2, fresh_at F h3⟩
  · exact ⟨hk _ _ (hx p hp) (N p (.tail _ hp)).1, (N p (.tail _ hp)).2⟩
theorem refuse_fault (x : Addr) : refuseLoop (.ref x) "__setattr__" [.ref 51, .ref 38, .type "Exception", .type "BaseException", .type "object"] = pure () := by
  rw [refuseLoop_ref, refuseLoop_ref]
  kernel_rfl
theorem store_K {A : Around} {E : Value → Shared → Prop} {s : Shared} {h₀ : Heap} {L x t₁ : Addr} {m : Str → Option Value} {l : Led} {v : Value} {Q : Unit → Shared → Prop} (F : Fr h₀ L s.heap m) (X : (hd.heap_1 w.params).In h₀) (N : News h₀ L s.heap ((x, excO 51 t₁ none) :: l)) (hx : ∀ q ∈ l, q.1 ≠ x)
    (h : ∀ h' d tk, Fr h₀ L h' m → News h₀ L h' ((x, excO 51 t₁ (some d)) :: l) → Q () { s with heap := h', toks := tk }) :
    wpAny (model PG w) A (setAttr (.ref x) (Str.ofString "message") v) Q E s := by
  have z := N _ (.head _)
  have hc : ∃ cd, clsIn (hd.heap_1 w.params) 51 = some cd ∧ cd.hasDict = true ∧ cd.mro = [.ref 51, .ref 38, .type "Exception", .type "BaseException", .type "object"] := by
    obtain ⟨nm, q, bs, sn, sub, ab, col, dd, k0, k1, k2, k3, k5, ho⟩ : ∃ nm q bs sn sub ab col dd k0 k1 k2 k3 k5, (hd.heap_1 w.params).lookup 51 = some (excClassObj nm q 51 50 bs (.ref 38 :: excTail) true sn sub ab col dd k0 k1 k2 k3 k5 "Exception.__new__") :=
      ⟨_, _, _, _, _, _, _, _, _, _, _, _, _, by k_is⟩
    exact ⟨_, by unfold clsIn; rw [ho], rfl, rfl⟩
  obtain ⟨cd, hc1, hc2, hc3⟩ := hc
  refine exc_store (X.keeps F.keep) z.1 hc1 hc2 (by k_is) (by k_is) (by rw [hc3]; exact refuse_fault x) (by rw [hc3]; decide) (by rw [hc3]; rfl) fun h' d tk hk h1 h2 => h h' d tk (fr_but1 F (Ne.symm z.2.1) z.2.2 hk) fun p hp => ?_
  rcases List.mem_cons.mp hp with rfl | hp
  · exact ⟨h1, z.2⟩
  · exact ⟨hk _ _ (hx p hp) (N p (.tail _ hp)).1, (N p (.tail _ hp)).2⟩
theorem meta_Exception : typeOf (.type "Exception") = pure (.type "type") := by kernel_rfl
section
local macro_rules | `(tactic| walk_at "getMethod type:Exception") => `(tactic| (k_here; refine' method_type ?F ?X ?m (by decide +kernel) ?e ?h ?_; (case F => k_asm); (case X => k_asm); (case m => exact meta_Exception); (case e => k_dflt k_is); (case h => k_handed)))
local macro_rules | `(tactic| walk_at "call builtin:Exception.__init__") => `(tactic| (k_here; refine Halt.out ?_))
local macro_rules | `(tactic| walk_at "setAttr ref") => `(tactic| (k_here; refine Halt.out ?_))
theorem fault_init (l : Led) (x t₀ : Addr) (msg : Str) (t : Tok) (hx : ∀ q ∈ l, q.1 ≠ x) :
    KC w p loose mean mg mb 35 [.ref x, .str msg t] ((x, excO 51 t₀ none) :: l) 2
      (fun r l' => r = .none ∧ ∃ t₁ d, l' = (x, excO 51 t₁ (some d)) :: (t₁, tupObj [.str msg t] 0) :: l ∧ ∀ q ∈ l, q.1 ≠ t₁) := by
  intro dp un gd cn cs ad ccd cl outer A₀ base h₀ L m s Q E B F X N T' hk hd hu hret
  refine wpAny_call ?_
  k_dflt k_enter
  k_steps
  unfold Halt
  k_dflt (refine base_init_K F' X' N' hx ?_)
  intro h1 t₁ F1 N1 nt1
  k_steps
  unfold Halt
  have hx2 : t₁ ≠ x := by
    intro e
    have z1 := (N1 _ (.head _)).1
    have z2 := (N1 (t₁, tupObj [Value.str msg t] 0) (.tail _ (.head _))).1
    rw [e] at z2
    have z3 := congrArg Obj.cls (Option.some.inj (z1.symm.trans z2))
    cases z3
  have hx3 : ∀ q ∈ (t₁, tupObj [Value.str msg t] 0) :: l, q.1 ≠ x := fun q hq => by
    rcases List.mem_cons.mp hq with rfl | hq
    · exact hx2
    · exact hx q hq
  k_dflt (refine store_K F1 X' N1 hx3 ?_)
  intro h2 d tk2 F2 N2
  k_steps
  rename News _ _ _ _ => kN
  rename Fr _ _ _ _ => kF
  exact hret _ _ _ _ kF kN ⟨rfl, _, _, rfl, nt1⟩
end
end

section Fault2
variable {prog : Program} {w : World} {A : Around} {E : Value → Shared → Prop}
variable {nm q : Str} {C N C2 : Addr} {bs : List Value} {hdct : Bool} {sn : List Str} {sub : List Value} {ab : Bool} {col : Option Bool} {dd : Option Addr} {k0 k1 k2 k3 k5 : Option Value}
/-- raise of what an expression makes -/
theorem raise_made {s : Shared} {env : Env} {x : PySem.Expr} {pos : Pos} {Q : Flow → Shared → Prop} (hh : A.handled = none)
    (h : wpAny (model prog w) A (eval x env) (fun v s₁ => ∃ e t d, v = .ref e ∧ s₁.heap.get? C = some (excClassObj nm q C N bs (.ref C2 :: excTail) hdct sn sub ab col dd k0 k1 k2 k3 k5 "Exception.__new__") ∧
      s₁.heap.get? e = some (excO C t d) ∧ E (.ref e) s₁) E s) :
    wpAny (model prog w) A (exec (.Raise (some x) none pos) env) Q E s := by
  have Fn := F.excBase_Exception
  have hcB : (Value.ref C :: .ref C2 :: excTail).contains (.type "BaseException") = true := by rw [List.contains_cons, List.contains_cons, Fn.hasBase, Bool.or_true, Bool.or_true]
  rw [arm_exec_Raise]
  refine wpAny_bind (wpAny_standAt ?_)
  show wpAny _ _ (raiseStmt env (some (do let v ← eval x env; standAt pos; pure v)) none) _ _ _
  unfold raiseStmt
  refine wpAny_bind (wpAny_bind (wpAny_mono h (fun v s₁ h₁ => ?_) fun _ _ x => x))
  obtain ⟨e, t, d, rfl, hC, he, hE⟩ := h₁
  obtain ⟨hp, g, dr, tk, os⟩ := s₁
  refine wpAny_bind (wpAny_standAt (wpAny_pure ?_))
  repeat (first | with_reducible refine wpAny_loadPart_at he ?_ | with_reducible refine wpAny_loadPart_at hC ?_ | (with_reducible refine wpAny_isSubtype_exc hC ?_; rw [hcB]) | wp_step)
  exact wpAny_raiseNew_none hh hE
theorem leave_faultS {M : Model} {s' : Shared} {base g : Heap} {outer : List Env} {L a e t : Addr} {m : Str → Option Value} {name : Str} {scope : Scope} {cd : Value} {Q : Unit → Shared → Prop} {l : Led} {vs : List Value} {d : Option Addr}
    (K : Below A base outer g) (F : Fr g L s'.heap m) (N : News g L s'.heap ((e, excO C t d) :: (t, tupObj vs 0) :: l)) (hne : ∀ q ∈ l, q.1 ≠ e ∧ q.1 ≠ t)
    (hQ : ∀ h', RaisedS base g outer e (.ref C) t vs l h' → g.UpToSlots h' → Q () { s' with heap := h' }) (hk : scope.kind = .function := by rfl) :
    wpAny M (A.deeper (envOf name scope L a cd)) (leaving (envOf name scope L a cd) (.ref e)) Q E s' := by
  have K' := K.push (name := name) (a := a) (cd := cd) F hk
  have zE := N _ (.head _)
  have zT := N _ (.tail _ (.head _))
  have hin : ∀ env ∈ (envOf name scope L a cd :: outer), ∀ b, env.frame = some b → b ∈ e :: t :: (envOf name scope L a cd :: outer).filterMap (·.frame) := fun env he b hb => .tail _ (.tail _ (List.mem_filterMap.mpr ⟨env, he, hb⟩))
  have st : base.StaysIn (hideAll s'.heap (e :: t :: (envOf name scope L a cd :: outer).filterMap (·.frame))) := fun b o q => hideAll_get _ (K'.stays b o q) fun hm => by
    rcases List.mem_cons.mp hm with z | hm
    · rw [z, fresh_of_stays K.stays zE.2.2] at q; cases q
    rcases List.mem_cons.mp hm with z | hm
    · rw [z, fresh_of_stays K.stays zT.2.2] at q; cases q
    rw [(K'.frames.mem hm).1] at q; cases q
  have sg : ∀ b o, g.get? b = some o → b ∉ outer.filterMap (·.frame) → (hideAll s'.heap (e :: t :: (envOf name scope L a cd :: outer).filterMap (·.frame))).get? b = some o := fun b o q nm => hideAll_get _ (F.keep b o q) fun hm => by
    rcases List.mem_cons.mp hm with z | hm
    · rw [z, zE.2.2] at q; cases q
    rcases List.mem_cons.mp hm with z | hm
    · rw [z, zT.2.2] at q; cases q
    rcases kts_mem hm with z | z
    · rw [z, kts_self F] at q
      cases q
    · exact nm z
  have hl : ∀ q ∈ l, (hideAll s'.heap (e :: t :: (envOf name scope L a cd :: outer).filterMap (·.frame))).get? q.1 = some q.2 ∧ g.get? q.1 = none ∧ base.get? q.1 = none := fun q hq => by
    have zq := N q (.tail _ (.tail _ hq))
    refine ⟨hideAll_get _ zq.1 fun hm => ?_, zq.2.2, fresh_of_stays K.stays zq.2.2⟩
    rcases List.mem_cons.mp hm with z | hm
    · exact (hne q hq).1 z
    rcases List.mem_cons.mp hm with z | hm
    · exact (hne q hq).2 z
    obtain ⟨env, he, hf⟩ := List.mem_filterMap.mp hm
    rcases List.mem_cons.mp he with rfl | he
    · exact zq.2.1 (Option.some.inj hf).symm
    · obtain ⟨o, ho, _⟩ := (K.frames.mem (List.mem_filterMap.mpr ⟨env, he, hf⟩)).2
      rw [zq.2.2] at ho; cases ho
  have nE : (hideAll s'.heap (e :: t :: (envOf name scope L a cd :: outer).filterMap (·.frame))).get? e = none := hideAll_none _ (.head _)
  have nT : (hideAll s'.heap (e :: t :: (envOf name scope L a cd :: outer).filterMap (·.frame))).get? t = none := hideAll_none _ (.tail _ (.head _))
  refine wpAny_leaving_firstW (a0 := .ref t) K'.stack (funFrames_hide K'.frames hin) rfl zE.1 (fun b o q => of_hideAll _ q) nE rfl rfl rfl fun h' hL => ?_
  obtain ⟨k1, ⟨_, _, k2⟩, k3, k4⟩ := hL
  exact hQ h' ⟨⟨_, st, sg, hl, ⟨k1, nE, k2, k3⟩, nT⟩, Heap.TupAt.of_slots ⟨_, _, zT.1, rfl, rfl⟩ k4⟩ ((Heap.UpToSlots.of_keeps F.keep).trans k4)
/-- the raise goes on through a frame with a closure -/
theorem leave_onX {M : Model} {s' : Shared} {base g g₂ : Heap} {outer : List Env} {L a e t : Addr} {m : Str → Option Value} {name : Str} {scope : Scope} {cd : Value} {cls : List (Str × Addr)} {Q : Unit → Shared → Prop} {l : Led} {c : Value} {vs : List Value}
    (K : Below A base outer g) (F : Fr g L g₂ m) (R : RaisedS base g₂ (envX name scope L a cd cls :: outer) e c t vs l s'.heap) (hsm : g₂.UpToSlots s'.heap)
    (hQ : ∀ h', RaisedS base g outer e c t vs l h' → g.UpToSlots h' → Q () { s' with heap := h' }) :
    wpAny M (A.deeper (envX name scope L a cd cls)) (leaving (envX name scope L a cd cls) (.ref e)) Q E s' := by
  obtain ⟨⟨B, hB, hBG, hl, hfl, hnew⟩, htup⟩ := R
  refine wpAny_leaves_onW (Around.frames_deeper K.stack) rfl hfl fun h' x1 x2 => ?_
  refine hQ h' ⟨⟨B, hB, fun b o q nm => hBG b o (F.keep b o q) (fun hm => ?_), fun q hq => ⟨(hl q hq).1, kts_none F.keep (hl q hq).2.1, (hl q hq).2.2⟩, x1, hnew⟩, htup.of_slots x2⟩ ((Heap.UpToSlots.of_keeps F.keep).trans (hsm.trans x2))
  obtain ⟨env, he, hf⟩ := List.mem_filterMap.mp hm
  rcases List.mem_cons.mp he with rfl | he
  · obtain rfl := Option.some.inj hf
    rw [kts_self F] at q
    cases q
  · exact nm (List.mem_filterMap.mpr ⟨env, he, hf⟩)
end Fault2
theorem tc_weight (C : Addr) (vals : List Value) : (Code.builtin "type.__call__" ⟨.ref C :: vals, []⟩).weight = 1 := rfl
theorem tc_units (C : Addr) (vals : List Value) : (Code.builtin "type.__call__" ⟨.ref C :: vals, []⟩).cUnits = 1 := rfl
/-- the contract of a def that raises a TreeFault -/
noncomputable abbrev KCE (w : World) (p : Program) (loose : List Str) (mean : ExcName → Option Value) (mg mb : Str → Option Value) (f : Addr) (args : List Value) (led : Led) (k : Nat) : Prop :=
  ∀ (dp un : Nat) (gd : Option (List Code)) (cn : Str) (cs : Scope) (a : Addr) (ccd : Value) (cl : List (Str × Addr)) (outer : List Env) (A₀ : Around) (base h₀ : Heap) (L : Addr) (m : Str → Option Value) (s : Shared) (Q E : Value → Shared → Prop),
    Below A₀ base outer h₀ → Fr h₀ L s.heap m → (hd.heap_1 w.params).In h₀ → News h₀ L s.heap led → Top p loose mean mg mb h₀ → cs.kind = .function → dp + k < recursionLimit → un + 8 * k < cLine →
    (∀ (e t : Addr) (vs : List Value) (g h' : Heap) (tk' : Nat), Fr h₀ L g m → RaisedS base g (envX cn cs L a ccd cl :: outer) e (.ref 51) t vs led h' → g.UpToSlots h' → E (.ref e) { s with heap := h', toks := tk' }) →
    wpAny (model PG w) (ktrTop dp un gd cn cs L a ccd cl outer) (call (.ref f) args) Q E s
section
variable {w : World} {p : Program} {loose : List Str} {mean : ExcName → Option Value} {mg mb : Str → Option Value}
theorem fault_make_K {A : Around} {E : Value → Shared → Prop} {s : Shared} {h₀ : Heap} {L : Addr} {m : Str → Option Value} {l : Led} {msg : Str} {t : Tok} {Q : Value → Shared → Prop} (F : Fr h₀ L s.heap m) (X : (hd.heap_1 w.params).In h₀) (N : News h₀ L s.heap l)
    (h : ∀ h' e t₀, Fr h₀ L h' m → News h₀ L h' ((e, excO 51 t₀ none) :: (t₀, tupObj [.str msg t] 0) :: l) → (∀ q ∈ (t₀, tupObj [.str msg t] 0) :: l, q.1 ≠ e) →
      wpAny (model PG w) (A.under (.builtin "type.__call__" ⟨.ref 51 :: [.str msg t], []⟩)) (call (.ref 35) [.ref e, .str msg t]) (fun r s' => r = .none ∧ Q (.ref e) s') E { s with heap := h' }) :
    wpAny (model PG w) A (call (.ref 51) [.str msg t]) Q E s := by
  have X₂ := X.keeps F.keep
  obtain ⟨nm, q, bs, hdct, sn, sub, ab, col, dd, k0, k1, k2, k3, k5, hC⟩ := fault_at X₂
  obtain ⟨c0, dd2, cd2, sl2, hA, hns⟩ := base_at X₂
  obtain ⟨oI, hfI, hfc⟩ := init_at X₂
  have hn50 := Heap.Ns.of_isNs (isNs_of_in X₂ ns50_ok)
  have hn37 := Heap.Ns.of_isNs (isNs_of_in X₂ ns37_ok)
  rw [← hns] at hn37
  refine fault_call hC hn50 (nsMap_none_of_in X₂ ns50_ok ns50_init) hA hn37 (ns_some_of X₂ hn37 (by rw [hns]; exact ns37_init)) hfI hfc (fun h' e hm => ?_) (by rw [sizeLine_eq]; exact Nat.le_of_ble_eq_true rfl)
  obtain ⟨t₀, F', N', ne, nt⟩ := made_news F N hm
  refine h h' e t₀ F' N' fun q hq => ?_
  rcases List.mem_cons.mp hq with rfl | hq
  · intro z
    have z1 := (N' _ (.head _)).1
    have z2 := (N' (t₀, tupObj [.str msg t] 0) (.tail _ (.head _))).1
    dsimp only at z
    rw [z] at z2
    have z3 := congrArg Obj.cls (Option.some.inj (z1.symm.trans z2))
    cases z3
  · exact ne q hq
section
local macro_rules | `(tactic| walk_at "call ref") => `(tactic| (with_reducible refine halt_call 51 ?_))
local macro_rules | `(tactic| walk_at "exec Raise some none") => `(tactic| (k_here; refine Halt.out ?_))
theorem cleaf_other (l : Led) (T dT R : Addr) (kr : Tok) (its : List Value) (c : Nat) (k : Int) (u : Tok) (x : Nd) (com : Bool)
    (hT : (T, instObj 300 dT) ∈ l) (hdT : (dT, dictOf [ent w.params "rows" kr (.ref R)] 1) ∈ l) (hR : (R, listOf its.toArray c) ∈ l) (hlen : its.length ≤ 100) (h0 : 0 ≤ k) (hx : its[k.toNat]? = some (.ref x.a))
    (hxa : (x.a, instObj 111 x.d) ∈ l) (hxd : (x.d, dictOf (rowEs w.params x) 9) ∈ l) (hb1 : (x.kd == Str.ofString "text") = false) (hb2 : (x.kd == Str.ofString "comment") = false) (hb3 : (x.kd == Str.ofString "instruction") = false) :
    KCE w p loose mean mg mb 93 [.ref T, .int k u, .bool com] l 4 := by
  intro dp un gd cn cs ad ccd cl outer A₀ base h₀ L m s Q E B F X N T' hk hd hu hret
  refine wpAny_call ?_
  k_dflt k_enter
  k_steps
  unfold Halt
  obtain ⟨nm, q, bs, hdct, sn, sub, ab, col, dd, k0, k1, k2, k3, k5, hC⟩ := fault_at X'
  k_dflt (refine raise_made (C := 51) (C2 := 38) (nm := nm) (q := q) (bs := bs) (hdct := hdct) (sn := sn) (sub := sub) (ab := ab) (col := col) (dd := dd) (k0 := k0) (k1 := k1) (k2 := k2) (k3 := k3) (k5 := k5) (N := 50) rfl ?_)
  k_steps
  unfold Halt
  k_dflt (refine fault_make_K F' X' N' ?_)
  intro h1 e t₀ F1 N1 hxe
  k_dflt (refine' KC.use (fault_init _ e t₀ _ _ hxe) ?k1 ?k2 ?k3 ?k4 ?k5 ?k6 ?k7 ?k8 ?_; (case k1 => k_asm); (case k2 => k_asm); (case k3 => k_asm); (case k4 => k_asm); (case k5 => k_asm); (case k6 => first | exact rfl | assumption))
  (case k7 => rw [tc_weight]; ktr_room)
  (case k8 => rw [tc_units]; ktr_units)
  rintro r led2 h2 tk2 F2 N2 ⟨rfl, t₁, d2, rfl, nt1⟩ htk2
  refine ⟨rfl, e, t₁, some d2, rfl, F2.keep _ _ hC, (N2 _ (.head _)).1, ?_⟩
  have N3 := news_sub (l' := (e, excO 51 t₁ (some d2)) :: (t₁, tupObj [Value.str (Str.ofString "such a node has no canonical form by itself") tk] 0) :: l) N2 (by
    intro q hq
    rcases List.mem_cons.mp hq with rfl | hq
    · exact .head _
    rcases List.mem_cons.mp hq with rfl | hq
    · exact .tail _ (.head _)
    · exact .tail _ (.tail _ (.tail _ hq)))
  k_dflt (refine leave_faultS B' F2 N3 (fun q hq => ⟨hxe q (.tail _ hq), nt1 q (.tail _ hq)⟩) ?_)
  intro h3 R3 U3
  exact hret e t₁ _ g' h3 _ FG' R3 U3
end
end

/-- how a called frame is left when its callers' frames may have been touched -/
noncomputable def LeaveR (fs : List Addr) (A₀ : Around) (base : Heap) (outer : List Env) (K : Frag) (p : Program) (loose : List Str) (mean : ExcName → Option Value) (mg mb : Str → Option Value) (h₀ : Heap) (L : Addr) (m : Str → Option Value) (g : Heap) (R : Result → Shared → Prop) (v : Value) (s' : Shared) : Prop :=
  ∃ g' L' m' news', KtsTurn fs g g' ∧ Fr g' L' s'.heap m' ∧ News g' L' s'.heap news' ∧ ∀ h₀', KtsTurn (outer.filterMap (·.frame)) h₀ h₀' → Fr h₀' L s'.heap m → News h₀' L s'.heap news' → Below A₀ base outer h₀' → K.In h₀' → Top p loose mean mg mb h₀' →
    KtsDicts (outer.filterMap (·.frame)) h₀' → R (.ok (.ret v)) s'
section
variable {prog : Program} {w : World} {A₀ A : Around} {s : Shared} {base h₀ : Heap} {outer : List Env} {L : Addr} {m : Str → Option Value} {news : Led} {K : Frag} {p : Program} {loose : List Str} {mean : ExcName → Option Value} {mg mb : Str → Option Value} {env : Env}
/-- what a frame that is left says to its caller -/
theorem leave_R {g : Heap} {R : Result → Shared → Prop} {v : Value} {s' : Shared} (B : Below A₀ base outer h₀) (F : Fr h₀ L s.heap m) (XB : K.In base) (TB : Top p loose mean mg mb base) (D : KtsDicts (outer.filterMap (·.frame)) h₀) (hf : env.frame = some L)
    (st : h₀.StaysIn g) (hL : ∃ oL es ep, g.get? L = some oL ∧ oL.data = .dict es ep ∧ ∀ (sl : Array (Option Value)) h', h'.get? L = some { oL with slots := sl } → Heap.Ns h' L m)
    (hl : LeaveR ((env :: outer).filterMap (·.frame)) A₀ base outer K p loose mean mg mb h₀ L m g R v s') : R (.ok (.ret v)) s' := by
  obtain ⟨g', L', m', news', T', F', N', k⟩ := hl
  obtain ⟨oL, es, ep, hLg, hLd, hNs⟩ := hL
  have nL₀ : h₀.get? L = none := kts_self F
  obtain ⟨sl, hs⟩ := T'.up hLg
  have split : ∀ b, b ∈ (env :: outer).filterMap (·.frame) → b = L ∨ b ∈ outer.filterMap (·.frame) := fun b hb => by
    obtain ⟨e, he, hfe⟩ := List.mem_filterMap.mp hb
    rcases List.mem_cons.mp he with rfl | he
    · rw [hf] at hfe; exact .inl (Option.some.inj hfe).symm
    · exact .inr (List.mem_filterMap.mpr ⟨e, he, hfe⟩)
  obtain ⟨T₁, S₁⟩ := kts_turn_at (h := s'.heap) (fs := outer.filterMap (·.frame)) (g := h₀)
    (fun b hb => by
      obtain ⟨_, o, ho', _⟩ := B.frames.mem hb
      exact ⟨o, ho'⟩)
    (fun b o e nmem => F'.keep b o (T'.other b o (st b o e) (fun q => by
      rcases split b q with z | z
      · rw [z, nL₀] at e
        cases e
      · exact nmem z)))
    (fun b o e hm => by
      obtain ⟨sl', hs'⟩ := T'.up (st b o e)
      exact ⟨sl', F'.keep _ _ hs'⟩)
  have B₃ : Below A₀ base outer (ktsHeap s'.heap (outer.filterMap (·.frame)) h₀) := ⟨B.stack, fun b o e => T₁.other b o (B.stays b o e) (fun hm => by
    rw [(B.frames.mem hm).1] at e
    cases e), B.frames.of_keeps fun b o e _ => by
    obtain ⟨sl', hs'⟩ := T₁.up e
    exact ⟨_, hs', rfl⟩⟩
  refine k _ T₁ ⟨hNs sl _ (F'.keep _ _ hs), S₁, by rw [T₁.size]; exact F.above⟩ (fun p hp => ⟨(N' p hp).1, fun q => ?_, ?_⟩) B₃ (XB.keeps B₃.stays) (TB.keeps B₃.stays) (D.turn T₁)
  · have := (N' p hp).2.2; rw [q, hs] at this; cases this
  · refine T₁.none_ _ ?_
    cases q : h₀.get? p.1 with
    | none => rfl
    | some o =>
      obtain ⟨sl', hs'⟩ := T'.up (st _ _ q)
      have := (N' p hp).2.2
      rw [hs'] at this
      cases this
variable {R : Result → Shared → Prop} {name qual : Str} {params : Arguments} {body : List Stmt} {scope : Scope} {dV kV doc pm cdv ct oc : Value} {an od : Option Addr} {osl : Array (Option Value)} {f : Addr} {args : Args} {binds : List (Str × Value)}
/-- a def of the text is entered from a frame with cells, its callers' frames may be touched -/
theorem enter_S (B : Below A₀ base outer h₀) (F : Fr h₀ L s.heap m) (X₀ : K.In h₀) (N : News h₀ L s.heap news) (T : Top p loose mean mg mb h₀) (XB : K.In base) (TB : Top p loose mean mg mb base) (D : KtsDicts (outer.filterMap (·.frame)) h₀)
    (hA : A.frames = some (env :: outer)) (hf : env.frame = some L) (hke : env.scope.kind = .function)
    (ho : K.lookup f = some ⟨oc, od, .func (fnOf name qual params body scope dV kV doc pm an cdv ct), osl⟩) (hcd : codeIn K cdv qual = true) (hroom : A.depth < recursionLimit)
    (hbind : BindsTo s (fnOf name qual params body scope dV kV doc pm an cdv ct) args binds) (hloc : ∀ y ∈ binds, scope.names.lookup y.1 = some .local)
    (h : ∀ g L' h₁, Fr h₀ L g m → Fr g L' h₁ (fun y => binds.reverse.lookup y) → News g L' h₁ news → Below A base (env :: outer) g → K.In g → Top p loose mean mg mb g → KtsDicts ((env :: outer).filterMap (·.frame)) g →
      wpAny (model prog w) (A.deeper (envOf qual scope L' f cdv)) (execs body (envOf qual scope L' f cdv))
        (fun fl s' => LeaveR ((env :: outer).filterMap (·.frame)) A₀ base outer K p loose mean mg mb h₀ L m g R (match fl with | .ret v => v | _ => .none) s')
        (fun e s' => wpAny (model prog w) (A.deeper (envOf qual scope L' f cdv)) (leaving (envOf qual scope L' f cdv) e) (fun _ s'' => R (.error e) s'') (fun e' s'' => R (.error e') s'') s')
        { s with heap := h₁, toks := s.toks + binds.length })
    (hco : scope.isCoroutine = false) (hgen : scope.isGenerator = false) (hk : scope.kind = .function)
    (hcell : ∀ x ∈ scope.names, x.2 ≠ .cell) : codeAny (model prog w) A (.call (.ref f) args) R s := by
  have X := X₀.keeps F.keep
  obtain ⟨FG, BG, st, _⟩ := groundX (R := R) B F N hA hf hke
  refine codeAny_call_def (fd := fnOf name qual params body scope dV kV doc pm an cdv ct) (body := body) (binds := binds) hroom (X _ _ ho) rfl (T.nolimit.keeps F.keep) (codeRec_of X hcd) rfl hbind hcell hloc (fun h₁ hns hk₁ => ?_) hco hgen hk
  obtain ⟨oL, es, ep, hL, hLd, hLk, hLf⟩ := FG.ns
  refine wpAny_mono (h _ s.heap.objs.size h₁ FG ⟨hns, fun b o e => hk₁ b o (of_hideAll _ e), Nat.le_of_eq (hideAll_size _ _)⟩
    (fun p hp => ⟨hk₁ _ _ (N p hp).1, Nat.ne_of_lt (Heap.lt_size (N p hp).1), hideAll_none _ (List.mem_map_of_mem hp)⟩) BG (X₀.keeps st) (T.keeps st) (fun b hb => ?_)) (fun fl s' hl => ?_) fun _ _ y => y
  · obtain ⟨e, he, hfe⟩ := List.mem_filterMap.mp hb
    rcases List.mem_cons.mp he with rfl | he
    · rw [hf] at hfe
      obtain rfl := Option.some.inj hfe
      exact ⟨oL, es, ep, hL, hLd⟩
    · obtain ⟨o, es', n', ho', hd'⟩ := D b (List.mem_filterMap.mpr ⟨e, he, hfe⟩)
      exact ⟨o, es', n', st b o ho', hd'⟩
  · exact leave_R B F XB TB D hf st ⟨oL, es, ep, hL, hLd, fun sl h' e => ⟨_, es, ep, e, hLd, hLk, hLf⟩⟩ hl
end
/-- the contract of a def in which a raise is caught: its callers' frames may be touched, so the ground is another one behind it -/
noncomputable abbrev KCS (w : World) (p : Program) (loose : List Str) (mean : ExcName → Option Value) (mg mb : Str → Option Value) (f : Addr) (args : List Value) (led : Led) (k : Nat) (post : Value → Led → Prop) : Prop :=
  ∀ (dp un : Nat) (gd : Option (List Code)) (cn : Str) (cs : Scope) (a : Addr) (ccd : Value) (cl : List (Str × Addr)) (outer : List Env) (A₀ : Around) (base h₀ : Heap) (L : Addr) (m : Str → Option Value) (s : Shared) (Q E : Value → Shared → Prop) (c₀ P₀ : Addr),
    Below A₀ base outer h₀ → Fr h₀ L s.heap m → (hd.heap_1 w.params).In h₀ → News h₀ L s.heap led → Top p loose mean mg mb h₀ → (hd.heap_1 w.params).In base → Top p loose mean mg mb base → KtsDicts (outer.filterMap (·.frame)) h₀ → CodeHd h₀ c₀ P₀ →
    cs.kind = .function → dp + k < recursionLimit → un + 8 * k < cLine →
    (∀ (r : Value) (led' : Led) (h' h₀' : Heap) (tk' : Nat), KtsTurn (outer.filterMap (·.frame)) h₀ h₀' → Fr h₀' L h' m → News h₀' L h' led' → Below A₀ base outer h₀' → (hd.heap_1 w.params).In h₀' → Top p loose mean mg mb h₀' → KtsDicts (outer.filterMap (·.frame)) h₀' → post r led' →
      Q r { s with heap := h', toks := tk' }) →
    wpAny (model PG w) (ktrTop dp un gd cn cs L a ccd cl outer) (call (.ref f) args) Q E s
noncomputable abbrev lamParams : Arguments := { posonlyargs := [], args := [], vararg := none, kwonlyargs := [], kw_defaults := [], kwarg := none, defaults := [] }
noncomputable abbrev lamBody : PySem.Expr := .Call (.Name (Str.ofString "canonical_leaf") ⟨217, 58, 217, 72⟩) [.Name (Str.ofString "tree") ⟨217, 73, 217, 77⟩, .Name (Str.ofString "node") ⟨217, 79, 217, 83⟩, .Constant (.bool true) 0 ⟨217, 85, 217, 89⟩] [] ⟨217, 58, 217, 90⟩
noncomputable abbrev lamScope : Scope := { kind := .function, names := [(Str.ofString "node", .free), (Str.ofString "tree", .free), (Str.ofString "canonical_leaf", .globalImplicit)], isGenerator := false, isCoroutine := false, more := [] }
section
variable {w : World} {p : Program} {loose : List Str} {mean : ExcName → Option Value} {mg mb : Str → Option Value}
section
local macro_rules | `(tactic| walk_at "call ref") => `(tactic| (with_reducible refine halt_call 93 ?_))
theorem heard_ok (l : Led) (lam c' Kn Kt : Addr) (oc okn okt : Obj) (vs : Array Value) (qual : Str) (pm ctv : Value) (t : Tok) (T dT R : Addr) (kr : Tok) (its : List Value) (c : Nat) (k : Int) (u : Tok) (x : Nd)
    (hlam : (lam, kla_obj (Str.ofString "<lambda>") qual lamParams lamBody lamScope [(Str.ofString "tree", Kt), (Str.ofString "node", Kn)] pm c' ctv) ∈ l)
    (hc' : (c', oc) ∈ l) (hoc : oc.data = .fields vs) (hvs : vs[1]? = some (.str qual t))
    (hkn : (Kn, okn) ∈ l) (hokn : okn.data = .cell (some (.int k u))) (hkt : (Kt, okt) ∈ l) (hokt : okt.data = .cell (some (.ref T)))
    (hT : (T, instObj 300 dT) ∈ l) (hdT : (dT, dictOf [ent w.params "rows" kr (.ref R)] 1) ∈ l) (hR : (R, listOf its.toArray c) ∈ l) (hlen : its.length ≤ 100) (h0 : 0 ≤ k) (hx : its[k.toNat]? = some (.ref x.a))
    (hxa : (x.a, instObj 111 x.d) ∈ l) (hxd : (x.d, dictOf (rowEs w.params x) 9) ∈ l) (hb1 : (x.kd == Str.ofString "text") = false) (hb2 : (x.kd == Str.ofString "comment") = false) (hb3 : (x.kd == Str.ofString "instruction") = false) :
    KCS w p loose mean mg mb 332 [.ref lam] l 9 (fun r l' => ∃ tt cc uu, r = .ref tt ∧ (tt, tupObj [.str (Str.ofString "refused") uu] cc) ∈ l' ∧ ∀ q ∈ l, q ∈ l') := by
  intro dp un gd cn cs ad ccd cl outer A₀ base h₀ L m s Q E c₀ P₀ B F X N T' XB TB D CH hk hd hu hret
  refine wpAny_call ?_
  k_dflt (refine' enter_S ?k1 ?k2 ?k3 ?k4 ?k5 ?XB ?TB ?D ?kA ?kF ?kK ?k6 ?k7 ?k8 ?k9 ?kB ?_ ?c2 ?c3 ?c4 ?c5; (case kA => exact rfl); (case kF => exact rfl); (case kK => first | exact rfl | assumption); (case XB => assumption); (case TB => assumption); (case D => assumption); (case k1 => k_asm); (case k2 => k_asm); (case k3 => k_asm); (case k4 => k_asm); (case k5 => k_asm); (case k6 => k_is); (case k7 => k_is); (case k8 => ktr_room); (case k9 => first | exact BindsTo.of_eq rfl | exact binds_K (by k_in) rfl (by k_is) rfl rfl rfl); (case c5 => decide); (case kB => exact locs rfl); (case c2 => exact rfl); (case c3 => exact rfl); (case c4 => exact rfl); k_whole)
  intro g' L' h' FG' F' N' B' X' T'' D'
  (try dsimp only)
  (try k_fold)
  have CH' : CodeHd g' c₀ P₀ := CH.keeps FG'.keep
  k_steps
  refine wpAny_call ?_
  k_dflt (refine' kla_code ?k1 ?k2 ?k3 ?k4 ?k5 ?kA ?kF ?kK ?k6 ?k7 ?k8 ?k9 ?kB ?_ ?c2 ?c3 ?c4 ?c5; (case kA => exact rfl); (case kF => exact rfl); (case kK => exact rfl); (case k1 => k_asm); (case k2 => k_asm); (case k3 => k_asm); (case k4 => k_asm); (case k5 => k_asm); (case k6 => exact hlam); (case k7 => exact codeRec_news (by k_asm) hc' hoc hvs); (case k8 => ktr_room); (case k9 => exact rfl); (case c5 => decide); (case kB => exact locs rfl); (case c2 => exact rfl); (case c3 => exact rfl); (case c4 => exact rfl); k_whole)
  intro g2 L2 h2 FG2 F2 N2 B2 X2 T2
  (try dsimp only)
  (try k_fold)
  have CH2 : CodeHd g2 c₀ P₀ := CH'.keeps FG2.keep
  k_steps
  unfold Halt
  k_dflt (refine' cleaf_other l T dT R kr its c k u x true hT hdT hR hlen h0 hx hxa hxd hb1 hb2 hb3 _ _ _ _ _ _ _ _ _ _ _ _ _ _ _ _ _ ?k1 ?k2 ?k3 ?k4 ?k5 ?k6 ?k7 ?k8 ?_; (case k1 => k_asm); (case k2 => k_asm); (case k3 => k_asm); (case k4 => k_asm); (case k5 => k_asm); (case k6 => first | exact rfl | assumption); (case k7 => ktr_room); (case k8 => ktr_units))
  intro e t' vs' g3 h3 tk3 F3 R3 U3
  k_dflt (refine leave_onX B2 F3 R3 U3 ?_)
  intro h4 R4 U4
  k_dflt (refine' caught_SO0 R4 FG2 B' U4 XB TB D' KtsTurn.refl ?ex ?q ?_; (case ex => k_is); (case q => kernel_rfl))
  intro h5 g5 news5 T5 F5 N5 G5 Nl5 B5 X5 P5 D5
  clear N5 G5
  k_steps
  rename News g5 _ _ _ => kN
  rename Fr g5 _ _ _ => kF
  exact ⟨g5, L', _, _, T5, kF, kN, fun h₀' Tn Fn Nn Bn Xn Pn Dn => hret _ _ _ h₀' _ Tn Fn Nn Bn Xn Pn Dn ⟨_, _, _, rfl, .head _, fun q hq => .tail _ hq⟩⟩
end
end

section Comp2
open PyProof.Rows.LCg
variable {prog : Program} {w : World} {A : Around} {E : Value → Shared → Prop} {s : Shared} {h₀ : Heap} {L : Addr} {m : Str → Option Value} {env : Env}
noncomputable abbrev cellO : Obj := { cls := .type "cell", data := .cell none }
theorem newEnv_cell {M : Model} {scope : Scope} {globals : Addr} {closure : List (Str × Addr)} {qual : Str} {func : Option Addr} {code : Value} {around : Env} {builtins : Addr} {Q : Env → Shared → Prop}
    (hQ : Q (newEnv scope s.heap.objs.size globals (cellsFrom (s.heap.objs.size + 1) scope.names closure) qual func code (some around) builtins) { s with heap := pushCells (s.heap.push { cls := .type "dict", data := .dict #[] }) scope.names }) :
    wpAny M A (newFunctionEnv scope globals closure [] qual func code (some around) builtins) Q E s := by
  simp only [newFunctionEnv, Option.isSome_some, if_true]
  refine wpAny_bind (wpAny_alloc ?_)
  refine wpAny_bind (wpAny_layCells _ (fun name kind cells => by cases hkc : kind == NameKind.cell <;> simp [hkc]) _ _ _ _ ?_)
  rw [show ({ s with heap := s.heap.push { cls := .type "dict", data := .dict #[] } } : Shared).heap.objs.size = s.heap.objs.size + 1 from Heap.size_push ..]
  simp only [List.forIn_nil]
  exact wpAny_bind (wpAny_pure (wpAny_pure hQ))
/-- the end of a turn, the ground being another one -/
noncomputable def CEndB (OK : Heap → Prop) (L : Addr) (m : Str → Option Value) (s₁ : Shared) (I : Addr) (oI : Obj) (C D : Addr) (ys : List Value) (rest : Led → Prop) (s₂ : Shared) : Prop :=
  ∃ g, OK g ∧ CEnd g L m s₁ I oI C D ys rest s₂
noncomputable abbrev CTurnB (prog : Program) (w : World) (A : Around) (OK : Heap → Prop) (L : Addr) (m : Str → Option Value) (env : Env) (elt target : PySem.Expr) (ifs : List PySem.Expr) (scope : Scope) (cl : List (Str × Addr)) (s₂ : Shared) (n : Nat) (P : Nat → Value → Prop) (J : Nat → List Value → Led → Prop) : Prop :=
  ∀ i v ys news I oI C oC D mC h tk g (E' : Value → Shared → Prop), i < n → P i v → OK g → J i ys news → NsObj oC mC → Fr g L h m → News g L h ((I, oI) :: (C, oC) :: (D, lst ys) :: news) → Off3 I C D news → ((@Ne Nat I C) ∧ (@Ne Nat I D) ∧ (@Ne Nat C D)) →
    wpAny (model prog w) A (assign target (compEnvC scope cl C env) v) (fun _ s₃ => wpAny (model prog w) A (askAll ifs (compEnvC scope cl C env)) (fun ok s₄ =>
      if ok = true then wpAny (model prog w) A (eval elt (compEnvC scope cl C env)) (fun y s₅ => CEndB OK L m { s₂ with heap := h, toks := tk } I oI C D ys (J (i + 1) (ys ++ [y])) s₅) E' s₄
      else CEndB OK L m { s₂ with heap := h, toks := tk } I oI C D ys (J (i + 1) ys) s₄) E' s₃) E' { s₂ with heap := h, toks := tk }
theorem my_blockB {elt iter target : PySem.Expr} {ifs : List PySem.Expr} {scope : Scope} {cl : List (Str × Addr)} {pos : Pos} {s₂ : Shared} {I : Addr} {fp : List Addr} {n : Nat} {P : Nat → Value → Prop} {St : Nat → Heap → Prop} {news : Led} {x : Str}
    {RR : Value → Addr → Result → Shared → Prop} (W : Walks prog w A I fp [I] n P St)
    (hgo : ∀ i v (s : Shared) (Q : Unit → Shared → Prop) (E : Value → Shared → Prop), St i s.heap → Q () s → wpAny (model prog w) A (letOwnedTupleGo target (.ref I) v) Q E s)
    (hsz : n ≤ sizeLine) (hIo : ∀ i h, St i h → ∃ o, h.get? I = some o) (OK : Heap → Prop) (hOK : ∀ g b, OK g → h₀.get? b = none → g.get? b = none) (J : Addr → Nat → List Value → Led → Prop) (hlen : ∀ K i ys nw, J K i ys nw → ys.length ≤ i)
    (hSt : ∀ K i g h h' o ys nw, OK g → St i h → h.get? I = some o → h'.get? I = some o → News g L h' nw → J K i ys nw → St i h')
    (hcf : ∀ a, cellsFrom a scope.names cl = (x, a) :: cl) (hpc : ∀ h, pushCells h scope.names = h.push cellO) (hst : St 0 s₂.heap) (hfp : ∀ b ∈ fp, b < s₂.heap.objs.size)
    (F : Fr h₀ L s₂.heap m) (N : News h₀ L s₂.heap news) (hok : OK h₀) (hIL : L ≠ I) (hI₀ : h₀.get? I = none) (off : ∀ p ∈ news, p.1 ≠ I) (h0 : ∀ K, (∀ q ∈ news, q.1 < K) → J K 0 [] ((K, cellO) :: news))
    (turn : ∀ K, CTurnB prog w A OK L m env elt target ifs scope ((x, K) :: cl) s₂ n P (J K))
    (hRR : ∀ K D C h tk g m' ys news', OK g → Fr g L h m → News g L h ((D, lst ys) :: news') → Off1 D news' → h.Ns C m' → g.get? C = none → g.get? D = none → C ≠ L → D ≠ L → C ≠ D → (∀ p ∈ news', p.1 ≠ C) → J K n ys news' → RR (.ref D) C (.ok .next) { s₂ with heap := h, toks := tk }) :
    wpAny (model prog w) A (newList []) (fun acc s₃ => wpAny (model prog w) A (newFunctionEnv scope env.globals cl [] env.qual none .none (some env)) (fun cenv s₄ =>
      codeAny (model prog w) A (.compStart (.ListComp elt [⟨target, iter, ifs, 0⟩] scope pos) 0 (.ref I) acc { cenv with scope := relabel scope env }) (RR acc cenv.locals) s₄) E s₃) E s₂ := by
  refine wpAny_newObj_type (newEnv_cell ?_)
  dsimp only
  generalize hH2 : s₂.heap.push { cls := .type "list", dict := none, data := .seq ([] : List Value).toArray } = H2
  have hC : H2.objs.size = s₂.heap.objs.size + 1 := by rw [← hH2, Heap.size_push]
  rw [hcf, hpc]
  generalize hH3 : (H2.push { cls := .type "dict", data := .dict #[] }) = H3
  have hK : H3.objs.size = H2.objs.size + 1 := by rw [← hH3, Heap.size_push]
  rw [← hK]
  generalize hH4 : H3.push cellO = h₁
  have up2 : ∀ b o, s₂.heap.get? b = some o → H2.get? b = some o := fun b o e => hH2 ▸ Heap.get?_push_of_some _ e
  have up3 : ∀ b o, H2.get? b = some o → H3.get? b = some o := fun b o e => hH3 ▸ Heap.get?_push_of_some _ e
  have up4 : ∀ b o, H3.get? b = some o → h₁.get? b = some o := fun b o e => hH4 ▸ Heap.get?_push_of_some _ e
  have old : ∀ b o, s₂.heap.get? b = some o → h₁.get? b = some o := fun b o e => up4 _ _ (up3 _ _ (up2 _ _ e))
  have hns₁ : h₁.Ns H2.objs.size fun _ => none := by
    have z := Heap.Ns.new H2 (.type "dict")
    rw [hH3] at z
    exact z.keeps up4
  have hcell : h₁.get? H3.objs.size = some cellO := by rw [← hH4]; exact Heap.get?_push_size _ rfl
  have hacc : h₁.get? s₂.heap.objs.size = some (lst []) := up4 _ _ (up3 _ _ (hH2 ▸ Heap.get?_push_size _ rfl))
  have hDC : s₂.heap.objs.size ≠ H2.objs.size := by rw [hC]; exact Nat.ne_of_lt (Nat.lt_succ_self _)
  have hDK : s₂.heap.objs.size < H3.objs.size := by rw [hK, hC]; exact Nat.lt_succ_of_lt (Nat.lt_succ_self _)
  have hCK : H2.objs.size < H3.objs.size := by rw [hK]; exact Nat.lt_succ_self _
  have below : ∀ b, b < s₂.heap.objs.size → b ≠ H2.objs.size ∧ b ≠ s₂.heap.objs.size ∧ b < H3.objs.size := fun b hb => ⟨by rw [hC]; exact Nat.ne_of_lt (Nat.lt_succ_of_lt hb), Nat.ne_of_lt hb, Nat.lt_trans hb hDK⟩
  have hDf : s₂.heap.objs.size ∉ fp := fun hm => Nat.lt_irrefl _ (hfp _ hm)
  have hIlt : I < s₂.heap.objs.size := hfp I (W.sub I (List.mem_singleton.mpr rfl))
  have hst₁ : St 0 h₁ := W.frame _ _ _ hst fun b _ o e => old b o e
  have fresh₀ : ∀ a, s₂.heap.objs.size ≤ a → h₀.get? a = none := fun a ha => by
    cases e : h₀.get? a with
    | none => rfl
    | some o' => exact absurd (Heap.lt_size (F.keep a o' e)) (Nat.not_lt.mpr ha)
  have hD₀ : h₀.get? s₂.heap.objs.size = none := fresh₀ _ (Nat.le_refl _)
  have hC₀ : h₀.get? H2.objs.size = none := fresh₀ _ (by rw [hC]; exact Nat.le_succ _)
  have hK₀ : h₀.get? H3.objs.size = none := fresh₀ _ (Nat.le_of_lt hDK)
  have hLlt : L < s₂.heap.objs.size := F.ns.lt
  have hDL : s₂.heap.objs.size ≠ L := Ne.symm (below L hLlt).2.1
  have hCL : H2.objs.size ≠ L := Ne.symm (below L hLlt).1
  have hKL : H3.objs.size ≠ L := Nat.ne_of_gt (below L hLlt).2.2
  have hCI : I ≠ H2.objs.size := (below I hIlt).1
  have hDI : I ≠ s₂.heap.objs.size := (below I hIlt).2.1
  have off₀ : Off3 I H2.objs.size s₂.heap.objs.size ((H3.objs.size, cellO) :: news) := Off3.of fun p hp => by
    rcases List.mem_cons.mp hp with rfl | hp
    · exact ⟨Nat.ne_of_gt (below I hIlt).2.2, Nat.ne_of_gt hCK, Nat.ne_of_gt hDK⟩
    · exact ⟨off p hp, (below _ (Heap.lt_size (N p hp).1)).1, (below _ (Heap.lt_size (N p hp).1)).2.1⟩
  have N₁ : News h₀ L h₁ ((s₂.heap.objs.size, lst []) :: (H3.objs.size, cellO) :: news) := fun p hp => by
    rcases List.mem_cons.mp hp with rfl | hp
    · exact ⟨hacc, hDL, hD₀⟩
    rcases List.mem_cons.mp hp with rfl | hp
    · exact ⟨hcell, hKL, hK₀⟩
    · exact ⟨old _ _ (N p hp).1, (N p hp).2⟩
  have h00 := h0 H3.objs.size fun q hq => (below _ (Heap.lt_size (N q hq).1)).2.2
  generalize hKK : H3.objs.size = K at hcell hDK hCK hK₀ hKL off₀ N₁ h00
  have loop : ∀ s₃ : Shared, s₃ = { s₂ with heap := h₁ } →
      codeAny (model prog w) A (.compLoop (.ListComp elt [⟨target, iter, ifs, 0⟩] scope pos) 0 (.ref I) (.ref s₂.heap.objs.size) (compEnvC scope ((x, K) :: cl) H2.objs.size env))
        (RR (.ref s₂.heap.objs.size) H2.objs.size) s₃ := by
    rintro s₃ rfl
    refine my_compLoop
      (fun k s' => ∃ h' tk i ys m' news' g, s' = { s₂ with heap := h', toks := tk } ∧ i ≤ n ∧ k = n + 1 - i ∧ St i h' ∧ OK g ∧ Fr g L h' m ∧ h'.Ns H2.objs.size m' ∧ News g L h' ((s₂.heap.objs.size, lst ys) :: news') ∧
        Off3 I H2.objs.size s₂.heap.objs.size news' ∧ J K i ys news') ?_ (n + 1)
      ⟨h₁, _, 0, [], _, _, h₀, rfl, Nat.zero_le _, rfl, hst₁, hok, F.keeps old, hns₁, N₁, off₀, h00⟩
    rintro k s' ⟨h', tk, i, ys, m', news', g, rfl, hi, rfl, hst', hok', F', hn', N', off', hJ⟩
    have off3 := off'.mem
    have hIg := hOK g I hok' hI₀
    by_cases hlt : i < n
    · refine W.item i _ _ _ hlt hst' fun v h₂ tk₂ hPv hst₂ hk₂ => ?_
      refine hgo (i + 1) v _ _ _ hst₂ ?_
      obtain ⟨oI, heI⟩ := hIo _ _ hst₂
      obtain ⟨oC, heC, hoC⟩ := ns_obj (hn'.at' fun o e => hk₂ _ o (by simpa using Ne.symm hCI) e)
      have F₂ : Fr g L h₂ m := fr_but F' hk₂ hIL hIg
      have N₂ : News g L h₂ ((s₂.heap.objs.size, lst ys) :: news') := news_but N' hk₂ fun p hp => by
        rcases List.mem_cons.mp hp with rfl | hp
        · exact Ne.symm hDI
        · exact (off3 p hp).1
      have N₃ : News g L h₂ ((I, oI) :: (H2.objs.size, oC) :: (s₂.heap.objs.size, lst ys) :: news') := fun p hp => by
        rcases List.mem_cons.mp hp with rfl | hp
        · exact ⟨heI, Ne.symm hIL, hIg⟩
        · rcases List.mem_cons.mp hp with rfl | hp
          · exact ⟨heC, hCL, hOK g _ hok' hC₀⟩
          · exact N₂ p hp
      refine wpAny_mono (turn K i v ys news' I oI H2.objs.size oC s₂.heap.objs.size _ h₂ tk₂ g _ hlt hPv hok' hJ hoC F₂ N₃ off' ⟨hCI, hDI, Ne.symm hDC⟩) (fun _ s₃ h₃ => wpAny_mono h₃ (fun ok s₄ h₄ => ?_) fun _ _ e => e) fun _ _ e => e
      have back : ∀ {g₄ h₄ : Heap} {oC₄ : Obj} {news₄ : Led}, OK g₄ → News g₄ L h₄ ((I, oI) :: (H2.objs.size, oC₄) :: (s₂.heap.objs.size, lst ys) :: news₄) → ∀ ys', J K (i + 1) ys' news₄ → St (i + 1) h₄ ∧ News g₄ L h₄ news₄ := by
        intro g₄ h₄ oC₄ news₄ ok₄ N₄ ys' J₄
        have N₄' : News g₄ L h₄ news₄ := fun p hp => N₄ p (List.mem_cons_of_mem _ (List.mem_cons_of_mem _ (List.mem_cons_of_mem _ hp)))
        exact ⟨hSt _ _ _ _ _ _ _ _ ok₄ hst₂ heI (N₄ (I, oI) List.mem_cons_self).1 N₄' J₄, N₄'⟩
      cases ok with
      | false =>
        have h₄' : CEndB OK L m { s₂ with heap := h₂, toks := tk₂ } I oI H2.objs.size s₂.heap.objs.size ys (J K (i + 1) ys) s₄ := h₄
        obtain ⟨g₅, ok₅, h₅, tk₅, oC₅, mC₅, news₅, rfl, hC₅, F₅, N₅, off₅, J₅⟩ := h₄'
        obtain ⟨st₅, N₅'⟩ := back ok₅ N₅ _ J₅
        exact ⟨n + 1 - (i + 1), by omega, h₅, tk₅, i + 1, ys, mC₅, news₅, g₅, rfl, hlt, rfl, st₅, ok₅, F₅, hC₅.ns (N₅ _ (List.mem_cons_of_mem _ List.mem_cons_self)).1, fun p hp => N₅ p (List.mem_cons_of_mem _ (List.mem_cons_of_mem _ hp)), off₅, J₅⟩
      | true =>
        refine wpAny_mono h₄ (fun y s₅ h₅ => ?_) fun _ _ e => e
        obtain ⟨g₅, ok₅, h₅, tk₅, oC₅, mC₅, news₅, rfl, hC₅, F₅, N₅, off₅, J₅⟩ := h₅
        obtain ⟨st₅, N₅'⟩ := back ok₅ N₅ _ J₅
        have zC := (N₅ (H2.objs.size, oC₅) (List.mem_cons_of_mem _ List.mem_cons_self)).1
        have zD := (N₅ (s₂.heap.objs.size, lst ys) (List.mem_cons_of_mem _ (List.mem_cons_of_mem _ List.mem_cons_self))).1
        refine append_at (hsz := by show ys.toArray.size ≤ sizeLine; rw [List.size_toArray]; exact Nat.le_trans (hlen _ _ _ _ hJ) (Nat.le_trans hi hsz)) zD fun h₆ hs₆ hD₆ => ?_
        have off5 := off₅.mem
        have hDg := hOK g₅ _ ok₅ hD₀
        refine ⟨n + 1 - (i + 1), by omega, h₆, tk₅, i + 1, ys ++ [y], mC₅, news₅, g₅, rfl, hlt, rfl, W.frame _ _ _ st₅ fun b hb o e => hs₆.extBut b o (fun q => hDf (q ▸ hb)) e, ok₅, F₅.change hs₆ hDL hDg,
          (hC₅.ns zC).sameBut hs₆ (Ne.symm hDC), fun p hp => ?_, off₅, J₅⟩
        rcases List.mem_cons.mp hp with rfl | hp
        · exact ⟨hD₆.trans (congrArg some (lst_snoc ys y)), hDL, hDg⟩
        · exact ⟨hs₆.extBut _ _ (off5 p hp).2.2 (N₅' p hp).1, (N₅' p hp).2⟩
    · obtain rfl : i = n := Nat.le_antisymm hi (Nat.not_lt.mp hlt)
      refine W.done _ _ _ hst' fun h₂ tk₂ hk₂ => ?_
      exact hRR K _ _ h₂ tk₂ g _ ys news' hok' (fr_but F' hk₂ hIL hIg) (news_but N' hk₂ fun p hp => by
        rcases List.mem_cons.mp hp with rfl | hp
        · exact Ne.symm hDI
        · exact (off3 p hp).1) off'.one (hn'.at' fun o e => hk₂ _ o (by simpa using Ne.symm hCI) e) (hOK g _ hok' hC₀) (hOK g _ hok' hD₀) hCL hDL (Ne.symm hDC) (fun p hp => (off3 p hp).2.1) hJ
  exact codeAny_compStart_list (loop _ rfl) (W.self 0 _ _ _ hst₁ (loop _ rfl))
end Comp2

section
variable {prog : Program} {w : World} {A₀ A : Around} {s : Shared} {base h₀ : Heap} {outer : List Env} {L : Addr} {m : Str → Option Value} {news : Led} {K : Frag} {p : Program} {loose : List Str} {mean : ExcName → Option Value} {mg mb : Str → Option Value} {env : Env}
variable {R : Result → Shared → Prop} {name qual : Str} {params : Arguments} {body : List Stmt} {scope : Scope} {dV kV doc pm cdv ct oc : Value} {an od : Option Addr} {osl : Array (Option Value)} {f : Addr} {args : Args} {binds : List (Str × Value)}
/-- the same for a def with cells -/
theorem enter_SC (B : Below A₀ base outer h₀) (F : Fr h₀ L s.heap m) (X₀ : K.In h₀) (N : News h₀ L s.heap news) (T : Top p loose mean mg mb h₀) (XB : K.In base) (TB : Top p loose mean mg mb base) (D : KtsDicts (outer.filterMap (·.frame)) h₀)
    (hA : A.frames = some (env :: outer)) (hf : env.frame = some L) (hke : env.scope.kind = .function)
    (ho : K.lookup f = some ⟨oc, od, .func (fnOf name qual params body scope dV kV doc pm an cdv ct), osl⟩) (hcd : codeIn K cdv qual = true) (hroom : A.depth < recursionLimit)
    (hbind : BindsTo s (fnOf name qual params body scope dV kV doc pm an cdv ct) args binds) (hkind : (binds.all fun y => scope.names.lookup y.1 == some .local || scope.names.lookup y.1 == some .cell) = true)
    (hnd : ((cellsFrom 0 scope.names []).map (·.1)).Nodup)
    (h : ∀ g L' h₁ tk cells, Fr h₀ L g m → Fr g L' h₁ (bindL (envOfC qual scope L' f cdv).kindOf binds fun _ => none) → News g L' h₁ (cells ++ news) →
      CellsAre (bindC (envOfC qual scope L' f cdv).kindOf binds fun _ => none) (cellsFrom (L' + 1) scope.names []) cells → Below A base (env :: outer) g → K.In g → Top p loose mean mg mb g → KtsDicts ((env :: outer).filterMap (·.frame)) g → (∀ p ∈ news, p.1 < L') →
      wpAny (model prog w) (A.deeper (envOfC qual scope L' f cdv)) (execs body (envOfC qual scope L' f cdv))
        (fun fl s' => LeaveR ((env :: outer).filterMap (·.frame)) A₀ base outer K p loose mean mg mb h₀ L m g R (match fl with | .ret v => v | _ => .none) s')
        (fun e s' => wpAny (model prog w) (A.deeper (envOfC qual scope L' f cdv)) (leaving (envOfC qual scope L' f cdv) e) (fun _ s'' => R (.error e) s'') (fun e' s'' => R (.error e') s'') s')
        { s with heap := h₁, toks := tk })
    (hco : scope.isCoroutine = false) (hgen : scope.isGenerator = false) (hk : scope.kind = .function) : codeAny (model prog w) A (.call (.ref f) args) R s := by
  have X := X₀.keeps F.keep
  obtain ⟨FG, BG, st, _⟩ := groundX (R := R) B F N hA hf hke
  obtain ⟨oL, es, ep, hL, hLd, hLk, hLf⟩ := FG.ns
  refine codeAny_call_function hroom (X _ _ ho) rfl hco hgen rfl (codeRec_of X hcd) (hbind _ _ _ _ ?_)
  refine wpAny_newFunctionEnv_cells hk (kindsX hkind _) fun env' he s' x => ?_
  subst he
  refine ⟨(T.nolimit.keeps F.keep).keeps x.toInCall.keep, codeAny_func ?_⟩
  obtain ⟨h₁, tk, rfl, _⟩ := x.done
  have hk₁ := x.toInCall.keep
  obtain ⟨cells, NC, Y⟩ := Cl.news (h₀ := s.heap) (Nat.le_refl _) fun n c hm => ⟨x.cell n c (lookup_of_mem_nodup (cellsFrom_names scope.names 0 (s.heap.objs.size + 1) [] [] rfl ▸ hnd) hm), x.above n c hm⟩
  refine wpAny_mono (h _ s.heap.objs.size h₁ tk cells FG ⟨x.toInCall.ns, fun b o e => hk₁ b o (of_hideAll _ e), Nat.le_of_eq (hideAll_size _ _)⟩ (fun p hp => ?_) Y BG (X₀.keeps st) (T.keeps st) (fun b hb => ?_) (fun p hp => Heap.lt_size (N p hp).1))
    (fun fl s' hl => leave_R B F XB TB D hf st ⟨oL, es, ep, hL, hLd, fun sl h' e => ⟨_, es, ep, e, hLd, hLk, hLf⟩⟩ hl) fun _ _ y => y
  · rcases List.mem_append.mp hp with hp | hp
    · refine ⟨(NC p hp).1, (NC p hp).2.1, ?_⟩
      cases q : (hideAll s.heap (news.map (·.1))).get? p.1 with
      | none => rfl
      | some o => have := of_hideAll _ q; rw [(NC p hp).2.2] at this; cases this
    · exact ⟨hk₁ _ _ (N p hp).1, Nat.ne_of_lt (Heap.lt_size (N p hp).1), hideAll_none _ (List.mem_map_of_mem hp)⟩
  · obtain ⟨e, he, hfe⟩ := List.mem_filterMap.mp hb
    rcases List.mem_cons.mp he with rfl | he
    · rw [hf] at hfe
      obtain rfl := Option.some.inj hfe
      exact ⟨oL, es, ep, hL, hLd⟩
    · obtain ⟨o, es', n', ho', hd'⟩ := D b (List.mem_filterMap.mpr ⟨e, he, hfe⟩)
      exact ⟨o, es', n', st b o ho', hd'⟩
end
section Comp3
open PyProof.Rows.LCg
variable {prog : Program} {w : World} {A : Around} {E : Value → Shared → Prop} {s : Shared} {h₀ : Heap} {L : Addr} {m : Str → Option Value} {env : Env}
theorem my_ListComp_B {elt iter target : PySem.Expr} {ifs : List PySem.Expr} {scope : Scope} {cl : List (Str × Addr)} {pos : Pos} {x : Str} {Q : Value → Shared → Prop} (_F₀ : Fr h₀ L s.heap m)
    (hclos : closureFor scope env = pure cl) (hcf : ∀ a, cellsFrom a scope.names cl = (x, a) :: cl) (hpc : ∀ h, pushCells h scope.names = h.push cellO) (hkind : scope.kind = .function)
    (hnames : ∀ y ∈ scope.names, y.2 = .local → scope.names.lookup y.1 = some .local)
    (h : wpAny (model prog w) A (eval iter env) (fun xv s₁ => ∃ (ax : Addr) (its : List Value) (c : Nat) (news : Led) (OK : Heap → Prop) (J : Addr → Nat → List Value → Led → Prop), xv = .ref ax ∧ A.handled = none ∧ Fr h₀ L s₁.heap m ∧ News h₀ L s₁.heap news ∧ its.length ≤ sizeLine ∧
      OK h₀ ∧ (∀ g b, OK g → h₀.get? b = none → g.get? b = none) ∧ (∀ K i ys nw, J K i ys nw → ys.length ≤ i) ∧ (ax, listOf its.toArray c) ∈ news ∧ (∀ K i ys nw, J K i ys nw → (ax, listOf its.toArray c) ∈ nw) ∧ (∀ K, (∀ q ∈ news, q.1 < K) → J K 0 [] ((K, cellO) :: news)) ∧
      (∀ K g', CTurnB prog w A OK L m env elt target ifs scope ((x, K) :: cl) { s₁ with heap := g' } its.length (fun i v => its[i]? = some v) (J K)) ∧
      ∀ g' K ys nw g D h tk, OK g → J K its.length ys nw → Fr g L h m → News g L h ((D, lst ys) :: nw) → Off1 D nw → Q (.ref D) { ({ s₁ with heap := g' } : Shared) with heap := h, toks := tk }) E s)
    (hs : ∀ x, foldedSetIterable iter env x = pure x := by intro _; rfl) :
    wpAny (model prog w) A (eval (.ListComp elt [⟨target, iter, ifs, 0⟩] scope pos) env) Q E s := by
  rw [eval_ListComp]
  refine wpAny_comprehension_free (use := none) rfl hs hclos hkind hnames (wpAny_mono h (fun xv s₁ h₁ => ?_) fun _ _ e => e)
  obtain ⟨ax, its, c, news, OK, J, rfl, hh, F, N, hsz, hok, hOK, hlen, hax, hin, h0, turn, fin⟩ := h₁
  have hl : s₁.heap.IsList ax its.toArray := ⟨_, (N _ hax).1, rfl, _, rfl⟩
  have hlt : ax < s₁.heap.objs.size := by obtain ⟨_, e, _⟩ := hl; exact Heap.lt_size e
  refine wpAny_pyIter_list hl ?_
  have up : ∀ b o, s₁.heap.get? b = some o → (s₁.heap.push { cls := .type "list_iterator", data := .fields #[.ref ax, .int 0 0] }).get? b = some o := fun b o e => Heap.get?_push_of_some _ e
  have W := Walks.list (prog := prog) (w := w) hh s₁.heap.objs.size ax (Nat.ne_of_lt hlt) its.toArray
  have hsize : its.toArray.size = its.length := by simp
  rw [hsize] at W
  refine my_blockB (x := x) W (fun i v s Q E st q => letGo_listiter st.1 q) hsz (fun i h st => by obtain ⟨o, e, _⟩ := st.1; exact ⟨o, e⟩) OK hOK J hlen
    (fun K i g h h' o ys nw ok st e e' N J => ⟨by obtain ⟨o', q, r⟩ := st.1; rw [e] at q; cases q; exact ⟨o, e', r⟩, ⟨_, (N _ (hin _ _ _ _ J)).1, rfl, _, rfl⟩⟩) hcf hpc ⟨⟨_, Heap.get?_push_size _ rfl, rfl, rfl⟩, hl.push _⟩ (fun b hb => ?_)
    (F.keeps up) (N.grown up) hok (Nat.ne_of_lt F.ns.lt) (next_is_new F) (fun p hp => Nat.ne_of_lt (Heap.lt_size (N p hp).1)) h0 (fun K i v => by have := turn K (s₁.heap.push { cls := .type "list_iterator", data := .fields #[.ref ax, .int 0 0] }) i v; simpa using this) ?_
  · show b < (s₁.heap.push _).objs.size
    rw [Heap.size_push]
    rcases List.mem_cons.mp hb with rfl | hb
    · exact Nat.lt_succ_self _
    · rw [List.mem_singleton.mp hb]; exact Nat.lt_succ_of_lt hlt
  · intro K D C h tk g m' ys news' ok F' N' o1 hn hC₀ hD₀ hCL hDL hCD offC hJ
    refine ⟨m', hn, fun h'' hs'' => fin s₁.heap K ys news' g D h'' tk ok hJ (F'.change hs'' hCL hC₀) (fun p hp => ?_) o1⟩
    refine ⟨hs''.extBut _ _ ?_ (N' p hp).1, (N' p hp).2⟩
    rcases List.mem_cons.mp hp with rfl | hp
    · exact Ne.symm hCD
    · exact offC p hp
end Comp3
section Lam
variable {M : Model} {A : Around} {E : Value → Shared → Prop} {s : Shared} {h₀ : Heap} {L c P : Addr} {m mg mb : Str → Option Value} {news : Led} {env : Env}
  {p : Program} {loose : List Str} {mean : ExcName → Option Value} {name qual : Str} {params : Arguments} {body : PySem.Expr} {scope : Scope} {ps : Array Value} {pos : Pos} {firstLine : Nat} {clos : List (Str × Addr)}
theorem tab_apart {h : Heap} (F : Fr h₀ L h m) (N : News h₀ L h news) (T : Top p loose mean mg mb h₀) (hm : (P, tabObj ps) ∈ news) :
    mainGlobals ≠ P ∧ h.BuiltinsAt mg P := by
  have z := N _ hm
  have hgs := T.g.keeps F.keep
  obtain ⟨bm, ob, b1, b2, b3, b4, b5, b6⟩ := T.bmain
  refine ⟨fun q => ?_, bm, ob, b1, b2, fun q => ?_, fun q => ?_, F.keep _ _ b3, b4, b5, b6⟩
  · obtain ⟨o, es, ep, e, hd, _⟩ := hgs
    rw [q, z.1] at e; cases e; cases hd
  · obtain ⟨o, es, ep, e, hd, _⟩ := T.g
    rw [q, e] at b3; cases b3; rw [hd] at b6; cases b6
  · have e := F.keep _ _ b3
    rw [q, z.1] at e; cases e; cases b4
/-- a lambda is made for the first time: its code is noted in the table of the frame's code -/
theorem lam_new {Q : Value → Shared → Prop} (F : Fr h₀ L s.heap m) (N : News h₀ L s.heap news) (T : Top p loose mean mg mb h₀) (C : CodeHd h₀ c P) (hge : env.globals = mainGlobals) (hcd : env.code = .ref c) (hmem : (P, tabObj ps) ∈ news) (ht : TriplesOk ps.toList) (hnf : codeAmong pos ps.toList = none)
    (hcl : closureFor scope env = pure clos)
    (h : ∀ f c' oc vs t ctv h' tk, Fr h₀ L h' m →
      News h₀ L h' ((f, kla_obj name qual params body scope clos ((mg "__name__").getD .none) c' ctv) :: (c', oc) :: (P, tabObj (ps ++ #[rawInt pos.line, rawInt pos.col, .ref c'])) :: off P news) →
      oc.data = .fields vs → vs[1]? = some (.str qual t) → (∀ q ∈ news, q.1 < c') → c' < f → Q (.ref f) { s with heap := h', toks := tk }) :
    wpAny M A (makeFunction name qual params (.expr body) scope env [] [] [] pos firstLine) Q E s := by
  have z := N _ hmem
  obtain ⟨hgP, hB⟩ := tab_apart F N T hmem
  refine kla_makeFunction (mg := mg) hcl hge (T.g.keeps F.keep) hcd (C.keeps F.keep) z.1 ht hnf hgP hB fun c' ctv h' tk hx hge' hlt hrec htb => ?_
  obtain ⟨c₂, oc, vs, t, e2, hoc, hd, hv⟩ := hrec
  cases e2
  have hLc : L < c' := Nat.lt_of_lt_of_le F.ns.lt hge'
  have fresh : ∀ b, L < b → h₀.get? b = none := fun b hb => Heap.get?_none_of_le (Nat.le_trans F.above (Nat.le_of_lt hb))
  refine h h'.objs.size c' oc vs t ctv _ tk ⟨(F.ns.extBut hx z.2.1.symm).push _, fun b o e => Heap.get?_push_of_some _ (hx b o (fun q => by rw [q, z.2.2] at e; cases e) (F.keep b o e)), F.above⟩ (fun q hq => ?_) hd hv
    (fun q hq => Nat.lt_of_lt_of_le (Heap.lt_size (N q hq).1) hge') hlt
  rcases List.mem_cons.mp hq with rfl | hq
  · exact ⟨Heap.get?_push_size _ rfl, Nat.ne_of_gt (Nat.lt_trans hLc hlt), fresh _ (Nat.lt_trans hLc hlt)⟩
  rcases List.mem_cons.mp hq with rfl | hq
  · exact ⟨Heap.get?_push_of_some _ hoc, Nat.ne_of_gt hLc, fresh _ hLc⟩
  rcases List.mem_cons.mp hq with rfl | hq
  · exact ⟨Heap.get?_push_of_some _ htb, z.2⟩
  · have n := N q (off_sub q hq)
    exact ⟨Heap.get?_push_of_some _ (hx _ _ (off_ne q hq) n.1), n.2⟩
/-- a lambda is made again -/
theorem lam_hit {Q : Value → Shared → Prop} {c' : Addr} (F : Fr h₀ L s.heap m) (N : News h₀ L s.heap news) (T : Top p loose mean mg mb h₀) (C : CodeHd h₀ c P) (hge : env.globals = mainGlobals) (hcd : env.code = .ref c) (hmem : (P, tabObj ps) ∈ news) (ht : TriplesOk ps.toList) (hf : codeAmong pos ps.toList = some (.ref c'))
    (hcl : closureFor scope env = pure clos)
    (h : ∀ f ctv h' tk, Fr h₀ L h' m → News h₀ L h' ((f, kla_obj name qual params body scope clos ((mg "__name__").getD .none) c' ctv) :: news) → (∀ q ∈ news, q.1 < f) → Q (.ref f) { s with heap := h', toks := tk }) :
    wpAny M A (makeFunction name qual params (.expr body) scope env [] [] [] pos firstLine) Q E s := by
  have z := N _ hmem
  obtain ⟨_, hB⟩ := tab_apart F N T hmem
  refine kla_makeFunctionHit (mg := mg) hcl hge (T.g.keeps F.keep) hcd (C.keeps F.keep) z.1 ht hf hB fun ctv h' tk hk hsz => ?_
  have hLs : L < h'.objs.size := Nat.lt_of_lt_of_le F.ns.lt hsz
  have fresh : ∀ b, L < b → h₀.get? b = none := fun b hb => Heap.get?_none_of_le (Nat.le_trans F.above (Nat.le_of_lt hb))
  refine h h'.objs.size ctv _ tk ⟨(F.ns.keeps hk).push _, fun b o e => Heap.get?_push_of_some _ (hk b o (F.keep b o e)), F.above⟩ (fun q hq => ?_) (fun q hq => Nat.lt_of_lt_of_le (Heap.lt_size (N q hq).1) hsz)
  rcases List.mem_cons.mp hq with rfl | hq
  · exact ⟨Heap.get?_push_size _ rfl, Nat.ne_of_gt hLs, fresh _ hLs⟩
  · exact ⟨Heap.get?_push_of_some _ (hk _ _ (N q hq).1), (N q hq).2⟩
end Lam

local macro_rules | `(tactic| walk_at "call ref") => `(tactic| ((with_reducible refine at_call 136 ?_); k_dflt (open_k with (newrow_ok _ _ _ _ _ _ _ _ _ _ _ _ _ _ _ _ _ _ ?a1 ?a2 ?a3 ?a4 ?a5 ?a6); walk_at "m3"; (case a4 => first | omega | decide); walk_at "o6"; walk_at "kB"); walk_at "kJ"; walk_at "kX"))
section
variable {w : World} {p : Program} {loose : List Str} {mean : ExcName → Option Value} {mg mb : Str → Option Value}
local macro_rules | `(tactic| walk_at "none") => `(tactic| skip)
theorem newroot_ok (l : Led) (T dT R : Addr) (kr : Tok) (its : List Value) (c : Nat)
    (hT : (T, instObj 300 dT) ∈ l) (hdT : (dT, dictOf [ent w.params "rows" kr (.ref R)] 1) ∈ l) (hR : (R, listOf its.toArray c) ∈ l) (hlen : its.length ≤ 100) (hTR : T ≠ R) (hdR : dT ≠ R) :
    KC w p loose mean mg mb 150 [.ref T] l 4
      (fun r l' => ∃ (x : Nd) (u : Tok), r = Value.int ((its.length : Nat) : Int) u ∧ x.kd = Str.ofString "root" ∧ (∀ q ∈ l, q.1 < x.d) ∧ @LT.lt Nat _ x.d x.a ∧ @LT.lt Nat _ x.a x.ch ∧ @LT.lt Nat _ x.ch x.at_ ∧ @LT.lt Nat _ x.at_ x.ns ∧
        l' = (R, listOf (its ++ [Value.ref x.a]).toArray (c + 1)) :: (x.ns, listOf #[] 0) :: (x.at_, listOf #[] 0) :: (x.ch, listOf #[] 0) :: (x.a, instObj 111 x.d) :: (x.d, dictOf (rowEs w.params x) 9) :: off R l) := by
  intro dp un gd cn cs ad ccd cl outer A₀ base h₀ L m s Q E B F X N T' hk hd hu hret
  refine wpAny_call ?_
  k_dflt k_enter
  k_steps
  rename News _ _ _ _ => kN
  rename Fr _ _ _ _ => kF
  exact hret _ _ _ _ kF kN ⟨x9, _, rfl, e1, lo9, lo1, lo2, lo3, lo4, rfl⟩
theorem notin_parents {A : Around} {E : Value → Shared → Prop} {s : Shared} {kd : Str} {t : Tok} {Q : Value → Shared → Prop} (X : (hd.heap_1 w.params).In s.heap) (hkd : kd = Str.ofString "root") (h : Q (.bool false) s) :
    wpAny (model PG w) A (compareOp .NotIn (.str kd t) (.ref 94)) Q E s := by
  subst hkd
  obtain ⟨u, v, d, n, sl, ho⟩ : ∃ u v d n sl, (hd.heap_1 w.params).lookup 94 = some ⟨.type "tuple", d, .seq #[.str (Str.ofString "root") u, .str (Str.ofString "element") v] n, sl⟩ := ⟨_, _, _, _, _, by k_is⟩
  have hl : s.heap.IsTuple 94 #[.str (Str.ofString "root") u, .str (Str.ofString "element") v] := ⟨_, X _ _ ho, rfl, _, rfl⟩
  refine SeqAt.notIn_tupleAt (fun y => match y with | .str a _ => a == Str.ofString "root" | _ => false) hl (fun y hy => ?_) ?_
  · have hy2 : y = .str (Str.ofString "root") u ∨ y = .str (Str.ofString "element") v := by simpa using hy
    rcases hy2 with rfl | rfl
    · exact SeqAt.EqAt.str_str _ _ _ _
    · exact SeqAt.EqAt.str_str _ _ _ _
  · have e : (#[Value.str (Str.ofString "root") u, .str (Str.ofString "element") v].any fun y => match y with | .str a _ => a == Str.ofString "root" | _ => false) = true := by simp
    rw [e]
    exact h
section
local macro_rules | `(tactic| walk_at "call ref") => `(tactic| (with_reducible refine halt_call 157 ?_))
local macro_rules | `(tactic| walk_at "compareOp NotIn str ref") => `(tactic| (k_here; (with_reducible show wpAny _ _ (compareOp CmpOp.NotIn (Value.str (Nd.kd _) _) _) _ _ _); refine Halt.out ?_))
/-- a child of a root -/
theorem addchild_in (l : Led) (T dT R : Addr) (kr : Tok) (its : List Value) (c : Nat) (k : Int) (u : Tok) (x : Nd) (chs : List Value) (n : Nat) (kd nm uri loc val : Str) (t1 t2 t3 t4 t5 : Tok)
    (hT : (T, instObj 300 dT) ∈ l) (hdT : (dT, dictOf [ent w.params "rows" kr (.ref R)] 1) ∈ l) (hR : (R, listOf its.toArray c) ∈ l) (hlen : its.length ≤ 100) (hTR : T ≠ R) (hdR : dT ≠ R) (h0 : 0 ≤ k) (hx : its[k.toNat]? = some (.ref x.a))
    (hxa : (x.a, instObj 111 x.d) ∈ l) (hxd : (x.d, dictOf (rowEs w.params x) 9) ∈ l) (hkd : x.kd = Str.ofString "root") (hch : (x.ch, listOf chs.toArray n) ∈ l) (hcl : chs.length ≤ 100) (hxaR : x.a ≠ R) (hxdR : x.d ≠ R) (hchR : x.ch ≠ R) :
    KC w p loose mean mg mb 157 [.ref T, .int k u, .str kd t1, .str nm t2, .str uri t3, .str loc t4, .str val t5] l 4
      (fun r l' => ∃ (y : Nd) (u' : Tok), r = Value.int ((its.length : Nat) : Int) u' ∧ y.kd = kd ∧ (∀ q ∈ l, q.1 < y.d) ∧ @LT.lt Nat _ y.d y.a ∧ @LT.lt Nat _ y.a y.ch ∧ @LT.lt Nat _ y.ch y.at_ ∧ @LT.lt Nat _ y.at_ y.ns ∧
        l' = (x.ch, listOf (chs ++ [Value.int ((its.length : Nat) : Int) u']).toArray (n + 1)) :: off x.ch ((R, listOf (its ++ [Value.ref y.a]).toArray (c + 1)) :: (y.ns, listOf #[] 0) :: (y.at_, listOf #[] 0) :: (y.ch, listOf #[] 0) :: (y.a, instObj 111 y.d) :: (y.d, dictOf (rowEs w.params y) 9) :: off R l)) := by
  intro dp un gd cn cs ad ccd cl outer A₀ base h₀ L m s Q E B F X N T' hk hd hu hret
  refine wpAny_call ?_
  k_dflt k_enter
  k_steps
  unfold Halt
  k_dflt (refine notin_parents (by k_in) hkd ?_)
  k_steps
  have hT2 : (T, instObj 300 dT) ∈ off R l := off_mem hT hTR
  have hdT2 : (dT, dictOf [ent w.params "rows" kr (.ref R)] 1) ∈ off R l := off_mem hdT hdR
  have hxa2 : (x.a, instObj 111 x.d) ∈ off R l := off_mem hxa hxaR
  have hxd2 : (x.d, dictOf (rowEs w.params x) 9) ∈ off R l := off_mem hxd hxdR
  have hch2 : (x.ch, listOf chs.toArray n) ∈ off R l := off_mem hch hchR
  have hlt : k < (its.length : Int) := by
    have := (List.getElem?_eq_some_iff.mp hx).1
    omega
  have hx2 : (its ++ [Value.ref x9.a])[k.toNat]? = some (.ref x.a) := by
    rw [List.getElem?_append_left (List.getElem?_eq_some_iff.mp hx).1]; exact hx
  k_steps
  rename News _ _ _ _ => kN
  rename Fr _ _ _ _ => kF
  exact hret _ _ _ _ kF kN ⟨x9, _, rfl, e1, lo9, lo1, lo2, lo3, lo4, rfl⟩
theorem addel_in (l : Led) (T dT R : Addr) (kr : Tok) (its : List Value) (c : Nat) (k : Int) (u : Tok) (x : Nd) (chs : List Value) (n : Nat) (nm uri loc : Str) (t1 t2 t3 : Tok)
    (hT : (T, instObj 300 dT) ∈ l) (hdT : (dT, dictOf [ent w.params "rows" kr (.ref R)] 1) ∈ l) (hR : (R, listOf its.toArray c) ∈ l) (hlen : its.length ≤ 100) (hTR : T ≠ R) (hdR : dT ≠ R) (h0 : 0 ≤ k) (hx : its[k.toNat]? = some (.ref x.a))
    (hxa : (x.a, instObj 111 x.d) ∈ l) (hxd : (x.d, dictOf (rowEs w.params x) 9) ∈ l) (hkd : x.kd = Str.ofString "root") (hch : (x.ch, listOf chs.toArray n) ∈ l) (hcl : chs.length ≤ 100) (hxaR : x.a ≠ R) (hxdR : x.d ≠ R) (hchR : x.ch ≠ R) :
    KC w p loose mean mg mb 164 [.ref T, .int k u, .str nm t1, .str uri t2, .str loc t3] l 5
      (fun r l' => ∃ (y : Nd) (u' : Tok), r = Value.int ((its.length : Nat) : Int) u' ∧ y.kd = Str.ofString "element" ∧ (∀ q ∈ l, q.1 < y.d) ∧ @LT.lt Nat _ y.d y.a ∧ @LT.lt Nat _ y.a y.ch ∧ @LT.lt Nat _ y.ch y.at_ ∧ @LT.lt Nat _ y.at_ y.ns ∧
        l' = (x.ch, listOf (chs ++ [Value.int ((its.length : Nat) : Int) u']).toArray (n + 1)) :: off x.ch ((R, listOf (its ++ [Value.ref y.a]).toArray (c + 1)) :: (y.ns, listOf #[] 0) :: (y.at_, listOf #[] 0) :: (y.ch, listOf #[] 0) :: (y.a, instObj 111 y.d) :: (y.d, dictOf (rowEs w.params y) 9) :: off R l)) := by
  intro dp un gd cn cs ad ccd cl outer A₀ base h₀ L m s Q E B F X N T' hk hd hu hret
  refine wpAny_call ?_
  k_dflt k_enter
  k_steps
  unfold Halt
  k_dflt (refine' KC.use (addchild_in _ T dT R kr its c k u x chs n _ _ _ _ _ _ _ _ _ _ hT hdT hR hlen hTR hdR h0 hx hxa hxd hkd hch hcl hxaR hxdR hchR) ?k1 ?k2 ?k3 ?k4 ?k5 ?k6 ?k7 ?k8 ?_; (case k1 => k_asm); (case k2 => k_asm); (case k3 => k_asm); (case k4 => k_asm); (case k5 => k_asm); (case k6 => first | exact rfl | assumption); (case k7 => ktr_room); (case k8 => ktr_units))
  rintro r9 led9 h9 tk9 F9 N9 P9 htk9
  obtain ⟨y, u', rfl, e1, lo9, lo1, lo2, lo3, lo4, rfl⟩ := P9
  k_steps
  rename News _ _ _ _ => kN
  rename Fr _ _ _ _ => kF
  exact hret _ _ _ _ kF kN ⟨y, _, rfl, e1, lo9, lo1, lo2, lo3, lo4, rfl⟩
end
end

section
variable {w : World} {p : Program} {loose : List Str} {mean : ExcName → Option Value} {mg mb : Str → Option Value}
section
local macro_rules | `(tactic| walk_at "exec For Name Attribute cons nil") => `(tactic| (k_here; refine Halt.out ?_))
theorem setattr_in (l : Led) (T dT R : Addr) (kr : Tok) (its : List Value) (c : Nat) (k : Int) (u : Tok) (x : Nd) (n : Nat) ( nm uri loc val : Str) (t1 t2 t3 t4 : Tok)
    (hT : (T, instObj 300 dT) ∈ l) (hdT : (dT, dictOf [ent w.params "rows" kr (.ref R)] 1) ∈ l) (hR : (R, listOf its.toArray c) ∈ l) (hlen : its.length ≤ 100) (hTR : T ≠ R) (hdR : dT ≠ R) (h0 : 0 ≤ k) (hx : its[k.toNat]? = some (.ref x.a))
    (hxa : (x.a, instObj 111 x.d) ∈ l) (hxd : (x.d, dictOf (rowEs w.params x) 9) ∈ l) (hkd : x.kd = Str.ofString "element") (hch : (x.at_, listOf ([] : List Value).toArray n) ∈ l) (hxaR : x.a ≠ R) (hxdR : x.d ≠ R) (hchR : x.at_ ≠ R) :
    KC w p loose mean mg mb 199 [.ref T, .int k u, .str nm t1, .str uri t2, .str loc t3, .str val t4] l 5
      (fun r l' => ∃ (y : Nd) (u' : Tok), r = Value.int ((its.length : Nat) : Int) u' ∧ y.kd = Str.ofString "attribute" ∧ (∀ q ∈ l, q.1 < y.d) ∧ @LT.lt Nat _ y.d y.a ∧ @LT.lt Nat _ y.a y.ch ∧ @LT.lt Nat _ y.ch y.at_ ∧ @LT.lt Nat _ y.at_ y.ns ∧
        l' = (x.at_, listOf (([] : List Value) ++ [Value.int ((its.length : Nat) : Int) u']).toArray (n + 1)) :: off x.at_ ((R, listOf (its ++ [Value.ref y.a]).toArray (c + 1)) :: (y.ns, listOf #[] 0) :: (y.at_, listOf #[] 0) :: (y.ch, listOf #[] 0) :: (y.a, instObj 111 y.d) :: (y.d, dictOf (rowEs w.params y) 9) :: off R l)) := by
  intro dp un gd cn cs ad ccd cl outer A₀ base h₀ L m s Q E B F X N T' hk hd hu hret
  have hlt : k < (its.length : Int) := by
    have := (List.getElem?_eq_some_iff.mp hx).1
    omega
  have hcl : ([] : List Value).length ≤ 100 := Nat.zero_le _
  refine wpAny_call ?_
  k_dflt k_enter
  k_steps
  unfold Halt
  k_dflt (refine For_turns F' ?_)
  walk1
  walk1
  walk1
  refine iter_listTurns (vs := []) (lo := listOf ([] : List Value).toArray n) rfl (by k_asm) (by k_asm) hch rfl rfl (fun I hI => ItemsRest.zero (fun h1 tk1 F1 N1 => ?_))
  replace F1 : Fr g' L' h1 _ := F1
  replace N1 : News g' L' h1 l := N1
  dsimp only
  k_steps
  have hxa2 : (x.a, instObj 111 x.d) ∈ off R l := off_mem hxa hxaR
  have hxd2 : (x.d, dictOf (rowEs w.params x) 9) ∈ off R l := off_mem hxd hxdR
  have hch2 : (x.at_, listOf ([] : List Value).toArray n) ∈ off R l := off_mem hch hchR
  k_steps
  rename News _ _ _ _ => kN
  rename Fr _ _ _ _ => kF
  exact hret _ _ _ _ kF kN ⟨x9, _, rfl, e1, lo9, lo1, lo2, lo3, lo4, rfl⟩
theorem addns_in (l : Led) (T dT R : Addr) (kr : Tok) (its : List Value) (c : Nat) (k : Int) (u : Tok) (x : Nd) (n : Nat) ( pre uri : Str) (t1 t2 : Tok)
    (hT : (T, instObj 300 dT) ∈ l) (hdT : (dT, dictOf [ent w.params "rows" kr (.ref R)] 1) ∈ l) (hR : (R, listOf its.toArray c) ∈ l) (hlen : its.length ≤ 100) (hTR : T ≠ R) (hdR : dT ≠ R) (h0 : 0 ≤ k) (hx : its[k.toNat]? = some (.ref x.a))
    (hxa : (x.a, instObj 111 x.d) ∈ l) (hxd : (x.d, dictOf (rowEs w.params x) 9) ∈ l) (hkd : x.kd = Str.ofString "element") (hch : (x.ns, listOf ([] : List Value).toArray n) ∈ l) (hxaR : x.a ≠ R) (hxdR : x.d ≠ R) (hchR : x.ns ≠ R) :
    KC w p loose mean mg mb 206 [.ref T, .int k u, .str pre t1, .str uri t2] l 5
      (fun r l' => ∃ (y : Nd) (u' : Tok), r = Value.int ((its.length : Nat) : Int) u' ∧ y.kd = Str.ofString "namespace" ∧ (∀ q ∈ l, q.1 < y.d) ∧ @LT.lt Nat _ y.d y.a ∧ @LT.lt Nat _ y.a y.ch ∧ @LT.lt Nat _ y.ch y.at_ ∧ @LT.lt Nat _ y.at_ y.ns ∧
        l' = (x.ns, listOf (([] : List Value) ++ [Value.int ((its.length : Nat) : Int) u']).toArray (n + 1)) :: off x.ns ((R, listOf (its ++ [Value.ref y.a]).toArray (c + 1)) :: (y.ns, listOf #[] 0) :: (y.at_, listOf #[] 0) :: (y.ch, listOf #[] 0) :: (y.a, instObj 111 y.d) :: (y.d, dictOf (rowEs w.params y) 9) :: off R l)) := by
  intro dp un gd cn cs ad ccd cl outer A₀ base h₀ L m s Q E B F X N T' hk hd hu hret
  have hlt : k < (its.length : Int) := by
    have := (List.getElem?_eq_some_iff.mp hx).1
    omega
  have hcl : ([] : List Value).length ≤ 100 := Nat.zero_le _
  refine wpAny_call ?_
  k_dflt k_enter
  k_steps
  unfold Halt
  k_dflt (refine For_turns F' ?_)
  walk1
  walk1
  walk1
  refine iter_listTurns (vs := []) (lo := listOf ([] : List Value).toArray n) rfl (by k_asm) (by k_asm) hch rfl rfl (fun I hI => ItemsRest.zero (fun h1 tk1 F1 N1 => ?_))
  replace F1 : Fr g' L' h1 _ := F1
  replace N1 : News g' L' h1 l := N1
  dsimp only
  k_steps
  have hxa2 : (x.a, instObj 111 x.d) ∈ off R l := off_mem hxa hxaR
  have hxd2 : (x.d, dictOf (rowEs w.params x) 9) ∈ off R l := off_mem hxd hxdR
  have hch2 : (x.ns, listOf ([] : List Value).toArray n) ∈ off R l := off_mem hch hchR
  k_steps
  rename News _ _ _ _ => kN
  rename Fr _ _ _ _ => kF
  exact hret _ _ _ _ kF kN ⟨x9, _, rfl, e1, lo9, lo1, lo2, lo3, lo4, rfl⟩
end
end

theorem RowsIn.nil {led : Led} : RowsIn led [] [] := ⟨rfl, fun i q h => by simp at h⟩
theorem RowsIn.cons {led : Led} {a : Addr} {u1 u2 : Tok} {c : Nat} {q : PV} {vs : List Value} {ps : List PV} (hm : (a, tupObj [Value.int (q.1 : Int) u1, Value.str q.2 u2] c) ∈ led) (h : RowsIn led vs ps) : RowsIn led (.ref a :: vs) (q :: ps) := by
  refine ⟨by rw [List.length_cons, List.length_cons, h.1], fun i q' e => ?_⟩
  cases i with
  | zero =>
    obtain rfl := Option.some.inj e
    exact ⟨a, u1, u2, c, rfl, hm⟩
  | succ i => exact h.2 i q' e
noncomputable abbrev fixRows : List PV := [(5, Str.ofString "x"), (2, Str.ofString "\"\t&"), (0, Str.ofString "<\r\n>"), (5, Str.ofString "y"), (4, Str.ofString "")]
theorem fix7 : ∀ x ∈ fixRows, x.1 < 7 := by decide +kernel
theorem fix18 : ∀ x ∈ fixRows, x.2.length ≤ 18 := by decide +kernel
theorem gen_rows {h₀ h : Heap} {L l : Addr} {its : Array Value} {k : Nat} {r : Led} (N : News h₀ L h ((l, listOf its k) :: r)) (Pq : Led → List Value → Prop) (hP : Pq r its.toList) : ∃ (ths : List Value) (r' : Led), Pq r' ths ∧ News h₀ L h ((l, listOf ths.toArray k) :: r') :=
  ⟨its.toList, r, hP, by simpa using N⟩
/-- a row of the law's own, and the law of its leaf -/
noncomputable def LeafRow (w : World) (p : Program) (loose : List Str) (mean : ExcName → Option Value) (mg mb : Str → Option Value) (led : Led) (v : Value) : Prop :=
  ∃ a kd g x c u1 u2 u3 cc, v = .ref a ∧ (a, tupObj [.str kd u1, .str g u2, .str x u3, .bool c] cc) ∈ led ∧ ∀ (l : Led) (t1 t2 t3 : Tok), KC w p loose mean mg mb 375 [.str kd t1, .str g t2, .str x t3, .bool c] l 9 (fun r l' => r = .bool true ∧ l' = l)
/-- what stands in the ledger behind a new node that was noted in a list -/
theorem grown {P : Params} {l l' : Led} {R X : Addr} {o o' : Obj} {its : List Value} {c : Nat} {y : Nd} (el : l' = (X, o') :: off X ((R, listOf (its ++ [Value.ref y.a]).toArray (c + 1)) :: (y.ns, listOf #[] 0) :: (y.at_, listOf #[] 0) :: (y.ch, listOf #[] 0) :: (y.a, instObj 111 y.d) :: (y.d, dictOf (rowEs P y) 9) :: off R l))
    (lo : ∀ q ∈ l, q.1 < y.d) (h1 : @LT.lt Nat _ y.d y.a) (h2 : @LT.lt Nat _ y.a y.ch) (h3 : @LT.lt Nat _ y.ch y.at_) (h4 : @LT.lt Nat _ y.at_ y.ns) (hX : (X, o) ∈ l) (hXR : R ≠ X) :
    (R, listOf (its ++ [Value.ref y.a]).toArray (c + 1)) ∈ l' ∧ (y.a, instObj 111 y.d) ∈ l' ∧ (y.d, dictOf (rowEs P y) 9) ∈ l' ∧ (y.at_, listOf #[] 0) ∈ l' ∧ (y.ns, listOf #[] 0) ∈ l' ∧ ∀ q ∈ l, q.1 ≠ R → q.1 ≠ X → q ∈ l' := by
  subst el
  have lX : @LT.lt Nat _ X y.d := lo _ hX
  refine ⟨.tail _ (off_mem (.head _) hXR), .tail _ (off_mem (.tail _ (.tail _ (.tail _ (.tail _ (.head _))))) ?_), .tail _ (off_mem (.tail _ (.tail _ (.tail _ (.tail _ (.tail _ (.head _)))))) ?_), .tail _ (off_mem (.tail _ (.tail _ (.head _))) ?_), .tail _ (off_mem (.tail _ (.head _)) ?_), fun q hq n1 n2 => .tail _ (off_mem (.tail _ (.tail _ (.tail _ (.tail _ (.tail _ (.tail _ (off_mem hq n1))))))) n2)⟩
  all_goals (refine neN ?_; dsimp only; omega)
theorem grown0 {P : Params} {l l' : Led} {R : Addr} {its : List Value} {c : Nat} {y : Nd} (el : l' = (R, listOf (its ++ [Value.ref y.a]).toArray (c + 1)) :: (y.ns, listOf #[] 0) :: (y.at_, listOf #[] 0) :: (y.ch, listOf #[] 0) :: (y.a, instObj 111 y.d) :: (y.d, dictOf (rowEs P y) 9) :: off R l) :
    (R, listOf (its ++ [Value.ref y.a]).toArray (c + 1)) ∈ l' ∧ (y.a, instObj 111 y.d) ∈ l' ∧ (y.d, dictOf (rowEs P y) 9) ∈ l' ∧ (y.ch, listOf #[] 0) ∈ l' ∧ ∀ q ∈ l, q.1 ≠ R → q ∈ l' := by
  subst el
  exact ⟨.head _, .tail _ (.tail _ (.tail _ (.tail _ (.head _)))), .tail _ (.tail _ (.tail _ (.tail _ (.tail _ (.head _))))), .tail _ (.tail _ (.tail _ (.head _))), fun q hq n1 => .tail _ (.tail _ (.tail _ (.tail _ (.tail _ (.tail _ (off_mem hq n1))))))⟩
theorem ne_tab_list {ps : Array Value} {its : Array Value} {n : Nat} : tabObj ps ≠ listOf its n := ne_cls (by intro h; cases h)
theorem ne_tab_dict {ps : Array Value} {es : List DictEntry} {n : Nat} : tabObj ps ≠ dictOf es n := ne_cls (by intro h; cases h)
theorem ne_tab_inst {ps : Array Value} {C dx : Addr} : tabObj ps ≠ instObj C dx := ne_cls (by intro h; cases h)
/-- a node of the tree that has no canonical form by itself -/
noncomputable def OtherNode (P : Params) (led : Led) (its : List Value) (v : Value) : Prop :=
  ∃ k u x, v = .int k u ∧ 0 ≤ k ∧ its[k.toNat]? = some (.ref x.a) ∧ (x.a, instObj 111 x.d) ∈ led ∧ (x.d, dictOf (rowEs P x) 9) ∈ led ∧ (x.kd == Str.ofString "text") = false ∧ (x.kd == Str.ofString "comment") = false ∧ (x.kd == Str.ofString "instruction") = false
theorem other_of {P : Params} {led : Led} {its : List Value} {k : Int} {u : Tok} {x : Nd} {kd : Str} (h0 : 0 ≤ k) (hx : its[k.toNat]? = some (.ref x.a)) (h1 : (x.a, instObj 111 x.d) ∈ led) (h2 : (x.d, dictOf (rowEs P x) 9) ∈ led) (hk : x.kd = kd)
    (hb : (kd == Str.ofString "text") = false ∧ (kd == Str.ofString "comment") = false ∧ (kd == Str.ofString "instruction") = false) : OtherNode P led its (.int k u) :=
  ⟨k, u, x, rfl, h0, hx, h1, h2, by rw [hk]; exact hb.1, by rw [hk]; exact hb.2.1, by rw [hk]; exact hb.2.2⟩
/-- the ground behind a raise that was caught -/
structure OKg (A₀ : Around) (base : Heap) (env : Env) (K : Frag) (p : Program) (loose : List Str) (mean : ExcName → Option Value) (mg mb : Str → Option Value) (P : Addr) (g₀ g : Heap) : Prop where
  turn : KtsTurn ([env].filterMap (·.frame)) g₀ g
  below : Below A₀ base [env] g
  inK : K.In g
  top : Top p loose mean mg mb g
  dicts : KtsDicts ([env].filterMap (·.frame)) g
  code : Halt (CodeHd g 379 P)
noncomputable def TabOr (P : Addr) (qual : Str) (G : Addr → Prop) (nw : Led) : Prop :=
  (P, tabObj #[]) ∈ nw ∨ ∃ c' oc vs t, (P, tabObj #[rawInt 217, rawInt 50, .ref c']) ∈ nw ∧ (c', oc) ∈ nw ∧ oc.data = .fields vs ∧ vs[1]? = some (.str qual t) ∧ G c'
theorem lam_any {M : Model} {A : Around} {E : Value → Shared → Prop} {s : Shared} {h₀ : Heap} {L P : Addr} {m mg mb : Str → Option Value} {news : Led} {env : Env}
    {p : Program} {loose : List Str} {mean : ExcName → Option Value} {name qual : Str} {params : Arguments} {body : PySem.Expr} {scope : Scope} {firstLine : Nat} {el ec : Nat} {clos : List (Str × Addr)} {G : Addr → Prop} {Q : Value → Shared → Prop}
    (F : Fr h₀ L s.heap m) (N : News h₀ L s.heap news) (T : Top p loose mean mg mb h₀) (C : CodeHd h₀ 379 P) (hge : env.globals = mainGlobals) (hcd : env.code = .ref 379) (htab : TabOr P qual G news)
    (hcl : closureFor scope env = pure clos)
    (h : ∀ f c' oc vs t ctv h' tk led1, Fr h₀ L h' m → News h₀ L h' led1 → (f, kla_obj name qual params body scope clos ((mg "__name__").getD .none) c' ctv) ∈ led1 → (c', oc) ∈ led1 → oc.data = .fields vs → vs[1]? = some (.str qual t) →
      (P, tabObj #[rawInt 217, rawInt 50, .ref c']) ∈ led1 → (∀ q ∈ news, q.1 ≠ P → q ∈ led1) → ((∀ q ∈ news, q.1 < c') ∨ G c') → Q (.ref f) { s with heap := h', toks := tk }) :
    wpAny M A (makeFunction name qual params (.expr body) scope env [] [] [] ⟨217, 50, el, ec⟩ firstLine) Q E s := by
  rcases htab with hm | ⟨c', oc, vs, t, hm, hc', hoc, hvs, hG⟩
  · refine lam_new (ps := #[]) F N T C hge hcd hm trivial rfl hcl fun f c' oc vs t ctv h' tk F' N' h1 h2 h3 h4 => ?_
    exact h f c' oc vs t ctv h' tk _ F' N' (.head _) (.tail _ (.head _)) h1 h2 (.tail _ (.tail _ (.head _))) (fun q hq hn => .tail _ (.tail _ (.tail _ (off_mem hq hn)))) (.inl h3)
  · refine lam_hit (c' := c') F N T C hge hcd hm (by simp [TriplesOk, rawInt]) (by simp [codeAmong, rawInt]) hcl fun f ctv h' tk F' N' h3 => ?_
    exact h f c' oc vs t ctv h' tk _ F' N' (.head _) (.tail _ hc') hoc hvs (.tail _ hm) (fun q hq _ => .tail _ hq) (.inr hG)
theorem my_eq_nil {prog : Program} {w : World} {A : Around} {E : Value → Shared → Prop} {s : Shared} {a b : Addr} {Q : Value → Shared → Prop} (ha : s.heap.IsList a ([] : List Value).toArray) (hb : s.heap.IsList b ([] : List Value).toArray) (hu : A.units < cLine) (h : Q (.bool true) s) :
    wpAny (model prog w) A (compareOp .Eq (.ref a) (.ref b)) Q E s :=
  SeqAt.eq_listAt (e := fun _ => true) ha hb rfl hu (fun j h1 h2 => absurd h1 (Nat.not_lt_zero _)) h
theorem CEndB.mk' {OK : Heap → Prop} {L : Addr} {m : Str → Option Value} {s₁ : Shared} {I : Addr} {oI : Obj} {C D : Addr} {ys : List Value} {rest : Led → Prop} {s₂ : Shared} (g : Heap) (ok : OK g) (h : CEnd g L m s₁ I oI C D ys rest s₂) : CEndB OK L m s₁ I oI C D ys rest s₂ := ⟨g, ok, h⟩
theorem ltN {a b : Addr} (h : a < b) : @LT.lt Nat _ a b := h
theorem tree_zero {P : Params} {h₀ h : Heap} {L : Addr} {R T dT : Addr} {kr : Tok} {rest : Led} (N : News h₀ L h ((R, listOf #[] 0) :: (T, instObj 300 dT) :: (dT, dictOf [ent P "rows" kr (.ref R)] 1) :: rest)) (hTR : @LT.lt Nat _ T R) (hdR : @LT.lt Nat _ dT R) :
    ∃ led, News h₀ L h led ∧ (T, instObj 300 dT) ∈ led ∧ (dT, dictOf [ent P "rows" kr (.ref R)] 1) ∈ led ∧ (R, listOf ([] : List Value).toArray 0) ∈ led ∧ T ≠ R ∧ dT ≠ R ∧ ∀ q ∈ rest, q ∈ led :=
  ⟨_, N, .tail _ (.head _), .tail _ (.tail _ (.head _)), .head _, Nat.ne_of_lt hTR, Nat.ne_of_lt hdR, fun q hq => .tail _ (.tail _ (.tail _ hq))⟩
section
variable {w : World} {p : Program} {loose : List Str} {mean : ExcName → Option Value} {mg mb : Str → Option Value}
theorem LeafRow.text {led : Led} {a : Addr} {g x : Str} {c : Bool} {u1 u2 u3 : Tok} {cc : Nat} (hm : (a, tupObj [.str (Str.ofString "text") u1, .str g u2, .str x u3, .bool c] cc) ∈ led) (hx : x.length ≤ 18) : LeafRow w p loose mean mg mb led (.ref a) :=
  ⟨a, _, g, x, c, u1, u2, u3, cc, rfl, hm, fun l t1 t2 t3 => lr_text l g x t1 t2 t3 c hx⟩
theorem LeafRow.com {led : Led} {a : Addr} {g x : Str} {c : Bool} {u1 u2 u3 : Tok} {cc : Nat} (hm : (a, tupObj [.str (Str.ofString "comment") u1, .str g u2, .str x u3, .bool c] cc) ∈ led) (hx : x.length ≤ 18) : LeafRow w p loose mean mg mb led (.ref a) :=
  ⟨a, _, g, x, c, u1, u2, u3, cc, rfl, hm, fun l t1 t2 t3 => lr_com l g x t1 t2 t3 c hx⟩
theorem LeafRow.pi {led : Led} {a : Addr} {g x : Str} {c : Bool} {u1 u2 u3 : Tok} {cc : Nat} (hm : (a, tupObj [.str (Str.ofString "instruction") u1, .str g u2, .str x u3, .bool c] cc) ∈ led) (hg : g.length ≤ 3) (hx : x.length ≤ 18) : LeafRow w p loose mean mg mb led (.ref a) :=
  ⟨a, _, g, x, c, u1, u2, u3, cc, rfl, hm, fun l t1 t2 t3 => lr_pi l g x t1 t2 t3 c hg hx⟩
section
local macro_rules | `(tactic| walk_at "call ref") => `(tactic| (with_reducible refine halt_call 361 ?_))
local macro_rules | `(tactic| walk_at "call ref") => `(tactic| (with_reducible refine halt_call 375 ?_))
local macro_rules | `(tactic| walk_at "call ref") => `(tactic| (with_reducible refine halt_call 150 ?_))
local macro_rules | `(tactic| walk_at "call ref") => `(tactic| (with_reducible refine halt_call 164 ?_))
local macro_rules | `(tactic| walk_at "call ref") => `(tactic| (with_reducible refine halt_call 199 ?_))
local macro_rules | `(tactic| walk_at "call ref") => `(tactic| (with_reducible refine halt_call 206 ?_))
local macro_rules | `(tactic| walk_at "call ref") => `(tactic| (with_reducible refine halt_call 332 ?_))
local macro_rules | `(tactic| walk_at "compareOp Eq ref ref") => `(tactic| (k_here; refine Halt.out ?_))
local macro_rules | `(tactic| walk_at "eval Lambda") => `(tactic| (k_here; refine Halt.out ?_))
local macro_rules | `(tactic| walk_at "compareOp NotEq ref ref") => `(tactic| (k_here; refine Halt.out ?_))
local macro_rules | `(tactic| walk_at "eval ListComp") => `(tactic| (k_here; refine Halt.out ?_))
theorem toldright_ok (dp un : Nat) (gd : Option (List Code)) (cn : Str) (cs : Scope) (ad : Addr) (ccd : Value) (cl : List (Str × Addr)) (A₀ : Around) (base h₀ : Heap) (L P : Addr) (m : Str → Option Value) (s : Shared) (Q E : Value → Shared → Prop)
    (B : Below A₀ base [] h₀) (F : Fr h₀ L s.heap m) (X : (hd.heap_1 w.params).In h₀) (N : News h₀ L s.heap [(P, tabObj #[])]) (T : Top p loose mean mg mb h₀) (XB : (hd.heap_1 w.params).In base) (TB : Top p loose mean mg mb base) (CH : Halt (CodeHd base 379 P))
    (hk : cs.kind = .function) (hd : dp + 20 < recursionLimit) (hu : un + 8 * 20 < cLine)
    (hret : ∀ (h' : Heap) (tk' : Nat) (ps : Array Value), Fr h₀ L h' m → News h₀ L h' [(P, tabObj ps)] → Q (.bool true) { s with heap := h', toks := tk' }) :
    wpAny (model PG w) (ktrTop dp un gd cn cs L ad ccd cl []) (call (.ref 380) []) Q E s := by
  refine wpAny_call ?_
  k_dflt (refine' enter_SC ?k1 ?k2 ?k3 ?k4 ?k5 ?XB ?TB ?D ?kA ?kF ?kK ?k6 ?k7 ?k8 ?k9 ?kB ?kD ?_ ?c2 ?c3 ?c4; (case kA => exact rfl); (case kF => exact rfl); (case kK => first | exact rfl | assumption); (case k1 => exact B); (case k2 => exact F); (case k3 => exact X); (case k4 => exact N); (case k5 => exact T); (case XB => exact XB); (case TB => exact TB); (case D => exact ktsDicts_nil); (case k6 => k_is); (case k7 => k_is); (case k8 => ktr_room); (case k9 => first | exact BindsTo.of_eq rfl | exact binds_K (by k_in) rfl (by k_is) rfl rfl rfl); (case kB => exact rfl); (case kD => decide +kernel); (case c2 => exact rfl); (case c3 => exact rfl); (case c4 => exact rfl); k_whole)
  intro g1 L1 h' tk' cells' FG1 F' N' Y' B1 X1 T1 D1 l1
  (try k_lt l1)
  (have hY := CellsAre.one Y'; obtain ⟨oc1, hE', dc1⟩ := hY; subst hE'; clear Y')
  (try simp only [List.cons_append, List.nil_append] at N')
  (try dsimp only)
  (try k_fold)
  have CH' : Halt (CodeHd g1 379 P) := CodeHd.keeps CH.out B1.stays
  k_steps
  unfold Halt
  k_dflt (refine' KC.use (right_ok _ l' _ _ fixRows (.head _) ?P fix7 fix18 (by decide)) ?k1 ?k2 ?k3 ?k4 ?k5 ?k6 ?k7 ?k8 ?_; (case k1 => k_asm); (case k2 => k_asm); (case k3 => k_asm); (case k4 => k_asm); (case k5 => k_asm); (case k6 => first | exact rfl | assumption); (case k7 => ktr_room); (case k8 => ktr_units))
  (case P =>
    refine' RowsIn.cons ?mm ?_; (case mm => k_mem)
    refine' RowsIn.cons ?mm ?_; (case mm => k_mem)
    refine' RowsIn.cons ?mm ?_; (case mm => k_mem)
    refine' RowsIn.cons ?mm ?_; (case mm => k_mem)
    refine' RowsIn.cons ?mm ?_; (case mm => k_mem)
    exact RowsIn.nil)
  rintro r9 led9 h9 tk9 F9 N9 ⟨rfl, hs9⟩ htk9
  have hc9 := hs9 (L1 + 1, oc1) (by k_mem)
  have hP9 := hs9 (P, tabObj #[]) (by k_mem)
  replace N9 := news_sub (l' := [(L1 + 1, oc1), (P, tabObj #[])]) N9 (by
    intro q hq
    rcases List.mem_cons.mp hq with rfl | hq
    · exact hc9
    · rw [List.mem_singleton.mp hq]; exact hP9)
  clear hs9 hc9 hP9
  walk1
  rw [if_neg (by decide)]
  k_steps
  unfold Halt
  obtain ⟨ths, r1, ⟨hths, hlen, hcr, hPr⟩, N2⟩ := gen_rows N' (fun r ths => (∀ v ∈ ths, LeafRow w p loose mean mg mb r v) ∧ ths.length = 5 ∧ (L1 + 1, oc1) ∈ r ∧ (P, tabObj #[]) ∈ r) (by
    refine ⟨?_, rfl, by k_mem, by k_mem⟩
    intro v hv
    rcases List.mem_cons.mp hv with rfl | hv
    · refine' LeafRow.text ?mm ?_; (case mm => k_mem); decide +kernel
    rcases List.mem_cons.mp hv with rfl | hv
    · refine' LeafRow.com ?mm ?_; (case mm => k_mem); decide +kernel
    rcases List.mem_cons.mp hv with rfl | hv
    · refine' LeafRow.com ?mm ?_; (case mm => k_mem); decide +kernel
    rcases List.mem_cons.mp hv with rfl | hv
    · refine' LeafRow.pi ?mm ?_ ?_; (case mm => k_mem); decide +kernel; decide +kernel
    rcases List.mem_cons.mp hv with rfl | hv
    · refine' LeafRow.pi ?mm ?_ ?_; (case mm => k_mem); decide +kernel; decide +kernel
    cases hv)
  clear N'
  k_dflt (refine my_ListComp_L (by k_asm) (by rfl) (by decide) (by rfl) (by decide) ?_)
  k_steps
  refine ⟨l', ths, 0, _, fun i ys nw => ys = [] ∧ (l', listOf ths.toArray 0) :: r1 = nw, rfl, rfl, by k_asm, by k_asm, ?_, ?_, ?_, ⟨rfl, rfl⟩, ?_, ?_⟩
  · have := sizeLine_eq; omega
  · rintro i ys nw ⟨rfl, _⟩; exact Nat.zero_le _
  · rintro i ys nw ⟨_, rfl⟩; exact .head _
  · intro g i v ys nw I oI C oC D mC h tk E' hi hv ⟨hys, hnw⟩ hC F1 N1 off1 ne1
    subst hys hnw
    obtain ⟨a3, kd, gg, xx, c4, u1, u2, u3, c3, rfl, hma, hKC⟩ := hths v (List.mem_of_getElem? hv)
    refine cassign1 hC F1 N1 off1 ne1 rfl rfl ?_
    intro h2' tk2' oC2 mC2 hm2 hC2 F3 N3
    refine wpAny_tests_one ?_
    clear F1 N1
    k_steps
    unfold Halt
    k_dflt (refine' KC.use (hKC _ _ _ _) ?k1 ?k2 ?k3 ?k4 ?k5 ?k6 ?k7 ?k8 ?_; (case k1 => k_asm); (case k2 => k_asm); (case k3 => k_asm); (case k4 => k_asm); (case k5 => k_asm); (case k6 => first | exact rfl | assumption); (case k7 => ktr_room); (case k8 => ktr_units))
    rintro r10 led10 h10 tk10 F10 N10 ⟨rfl, rfl⟩ htk10
    walk1
    k_dflt (refine CEnd.intro _ hC2 F10 N10 off1 ⟨rfl, rfl⟩)
  · rintro g ys nw ⟨hys, hnw⟩
    subst hys hnw
    intro D h tk F1 N1 o1
    k_steps
    unfold Halt
    have hlD : Heap.IsList h' D ([] : List Value).toArray := ⟨_, (N' _ (.tail _ (.head _))).1, rfl, _, rfl⟩
    have hlE : Heap.IsList h' l' ([] : List Value).toArray := ⟨_, (N' _ (.head _)).1, rfl, _, rfl⟩
    k_dflt (refine my_ne_nil hlD hlE (by first | units_room | ktr_units) ?_)
    dsimp only [List.isEmpty, Bool.not_true]
    walk1
    rw [if_neg (by decide)]
    replace N' := news_sub (l' := [(L1 + 1, oc1), (P, tabObj #[])]) N' (by
      intro q hq
      rcases List.mem_cons.mp hq with rfl | hq
      · exact .tail _ (.tail _ (.tail _ hcr))
      · rw [List.mem_singleton.mp hq]; exact .tail _ (.tail _ (.tail _ hPr)))
    k_steps
    unfold Halt
    obtain ⟨l0, N0, hT0, hdT0, hR0, hTR, hdR, hs0⟩ := tree_zero N' (by assumption) (by assumption)
    have hc0 := hs0 (L1 + 1, oc') (.head _)
    have hP0 := hs0 (P, tabObj #[]) (.tail _ (.head _))
    k_dflt (refine' KC.use (newroot_ok l0 _ _ _ _ [] 0 hT0 hdT0 hR0 (Nat.zero_le _) hTR hdR) ?k1 ?k2 ?k3 ?k4 ?k5 ?k6 ?k7 ?k8 ?_; (case k1 => k_asm); (case k2 => k_asm); (case k3 => k_asm); (case k4 => k_asm); (case k5 => k_asm); (case k6 => first | exact rfl | assumption); (case k7 => ktr_room); (case k8 => ktr_units))
    rintro r9 l1 h9 tk9 F9 N9 ⟨x0, u0, rfl, k0, lo0, q1, q2, q3, q4, el1⟩ htk9
    obtain ⟨a1, a2, a3, a4, a5⟩ := grown0 el1
    have Fn0 := func_of N0
    have hodd := Odd.cell dc'
    have hc1 := a5 _ hc0 (Fn0.ne hc0 hR0 (hodd.list _ _))
    have hP1 := a5 _ hP0 (Fn0.ne hP0 hR0 (ne_tab_list))
    have hT1 := a5 _ hT0 hTR
    have hdT1 := a5 _ hdT0 hdR
    have hRx0 := ltN (lo0 _ hR0)
    dsimp only at hRx0
    have hTx0 := ltN (lo0 _ hT0)
    dsimp only at hTx0
    have hdx0 := ltN (lo0 _ hdT0)
    dsimp only at hdx0
    clear hc0 hP0 hT0 hdT0 hR0 hs0 N0 el1
    have Fn1 := func_of N9
    k_steps
    unfold Halt
    k_dflt (refine' KC.use (addel_in l1 _ _ _ _ ([] ++ [Value.ref x0.a]) 1 _ _ x0 [] 0 _ _ _ _ _ _ hT1 hdT1 a1 (Nat.le_of_ble_eq_true rfl) hTR hdR (Int.ofNat_nonneg _) rfl a2 a3 k0 a4 (Nat.zero_le _) ?n1 ?n2 ?n3) ?k1 ?k2 ?k3 ?k4 ?k5 ?k6 ?k7 ?k8 ?_; (case k1 => k_asm); (case k2 => k_asm); (case k3 => k_asm); (case k4 => k_asm); (case k5 => k_asm); (case k6 => first | exact rfl | assumption); (case k7 => ktr_room); (case k8 => ktr_units))
    (case n1 => refine Ne.symm ?_; refine neN ?_; omega)
    (case n2 => refine Ne.symm ?_; refine neN ?_; omega)
    (case n3 => refine Ne.symm ?_; refine neN ?_; omega)
    rintro r9 l2 h9 tk9 F9 N9 ⟨x1, u1, rfl, k1, lo1, p1, p2, p3, p4, el2⟩ htk9
    have hRx1 := ltN (lo1 _ a1)
    dsimp only at hRx1
    have hCx1 := ltN (lo1 _ a4)
    dsimp only at hCx1
    obtain ⟨b1, b2, b3, b4, b5, b6⟩ := grown el2 lo1 p1 p2 p3 p4 a4 (by refine neN ?_; omega)
    have hc2 := b6 _ hc1 (Fn1.ne hc1 a1 (hodd.list _ _)) (Fn1.ne hc1 a4 (hodd.list _ _))
    have hP2 := b6 _ hP1 (Fn1.ne hP1 a1 ne_tab_list) (Fn1.ne hP1 a4 ne_tab_list)
    have hT2 := b6 _ hT1 hTR (Fn1.ne hT1 a4 ne_inst_list)
    have hdT2 := b6 _ hdT1 hdR (Fn1.ne hdT1 a4 ne_dict_list)
    have a22 := b6 _ a2 (Fn1.ne a2 a1 ne_inst_list) (Fn1.ne a2 a4 ne_inst_list)
    have a32 := b6 _ a3 (Fn1.ne a3 a1 ne_dict_list) (Fn1.ne a3 a4 ne_dict_list)
    clear hc1 hP1 hT1 hdT1 a1 a2 a3 a4 el2 b6 Fn1
    have Fn2 := func_of N9
    k_steps
    unfold Halt
    k_dflt (refine' KC.use (setattr_in l2 _ _ _ _ [Value.ref x0.a, Value.ref x1.a] 2 _ _ x1 0 _ _ _ _ _ _ _ _ hT2 hdT2 b1 (Nat.le_of_ble_eq_true rfl) hTR hdR (Int.ofNat_nonneg _) rfl b2 b3 k1 b4 (Fn2.ne b2 b1 ne_inst_list) (Fn2.ne b3 b1 ne_dict_list) ?n3) ?k1 ?k2 ?k3 ?k4 ?k5 ?k6 ?k7 ?k8 ?_; (case k1 => k_asm); (case k2 => k_asm); (case k3 => k_asm); (case k4 => k_asm); (case k5 => k_asm); (case k6 => first | exact rfl | assumption); (case k7 => ktr_room); (case k8 => ktr_units))
    (case n3 => refine Ne.symm ?_; refine neN ?_; omega)
    rintro r9 l3 h9 tk9 F9 N9 ⟨x2, u2, rfl, k2, lo2, s1, s2, s3, s4, el3⟩ htk9
    obtain ⟨c1, c2, c3, _, _, c6⟩ := grown el3 lo2 s1 s2 s3 s4 b4 (by refine neN ?_; omega)
    have hc3 := c6 _ hc2 (Fn2.ne hc2 b1 (hodd.list _ _)) (Fn2.ne hc2 b4 (hodd.list _ _))
    have hP3 := c6 _ hP2 (Fn2.ne hP2 b1 ne_tab_list) (Fn2.ne hP2 b4 ne_tab_list)
    have hT3 := c6 _ hT2 hTR (Fn2.ne hT2 b4 ne_inst_list)
    have hdT3 := c6 _ hdT2 hdR (Fn2.ne hdT2 b4 ne_dict_list)
    have a23 := c6 _ a22 (Fn2.ne a22 b1 ne_inst_list) (Fn2.ne a22 b4 ne_inst_list)
    have a33 := c6 _ a32 (Fn2.ne a32 b1 ne_dict_list) (Fn2.ne a32 b4 ne_dict_list)
    have b23 := c6 _ b2 (Fn2.ne b2 b1 ne_inst_list) (Fn2.ne b2 b4 ne_inst_list)
    have b33 := c6 _ b3 (Fn2.ne b3 b1 ne_dict_list) (Fn2.ne b3 b4 ne_dict_list)
    have b53 := c6 _ b5 (by refine Ne.symm ?_; refine neN ?_; omega) (by refine Ne.symm ?_; refine neN ?_; omega)
    clear hc2 hP2 hT2 hdT2 a22 a32 b1 b2 b3 b4 b5 el3 c6 Fn2
    have Fn3 := func_of N9
    k_steps
    unfold Halt
    k_dflt (refine' KC.use (addns_in l3 _ _ _ _ [Value.ref x0.a, Value.ref x1.a, Value.ref x2.a] 3 _ _ x1 0 _ _ _ _ hT3 hdT3 c1 (Nat.le_of_ble_eq_true rfl) hTR hdR (Int.ofNat_nonneg _) rfl b23 b33 k1 b53 (Fn3.ne b23 c1 ne_inst_list) (Fn3.ne b33 c1 ne_dict_list) ?n3) ?k1 ?k2 ?k3 ?k4 ?k5 ?k6 ?k7 ?k8 ?_; (case k1 => k_asm); (case k2 => k_asm); (case k3 => k_asm); (case k4 => k_asm); (case k5 => k_asm); (case k6 => first | exact rfl | assumption); (case k7 => ktr_room); (case k8 => ktr_units))
    (case n3 => refine Ne.symm ?_; refine neN ?_; omega)
    rintro r9 l4 h9 tk9 F9 N9 ⟨x3, u3, rfl, k3, lo3, t1, t2, t3, t4, el4⟩ htk9
    obtain ⟨d1, d2, d3, _, _, d6⟩ := grown el4 lo3 t1 t2 t3 t4 b53 (by refine neN ?_; omega)
    have hc4 := d6 _ hc3 (Fn3.ne hc3 c1 (hodd.list _ _)) (Fn3.ne hc3 b53 (hodd.list _ _))
    have hP4 := d6 _ hP3 (Fn3.ne hP3 c1 ne_tab_list) (Fn3.ne hP3 b53 ne_tab_list)
    have hT4 := d6 _ hT3 hTR (Fn3.ne hT3 b53 ne_inst_list)
    have hdT4 := d6 _ hdT3 hdR (Fn3.ne hdT3 b53 ne_dict_list)
    have a24 := d6 _ a23 (Fn3.ne a23 c1 ne_inst_list) (Fn3.ne a23 b53 ne_inst_list)
    have a34 := d6 _ a33 (Fn3.ne a33 c1 ne_dict_list) (Fn3.ne a33 b53 ne_dict_list)
    have b24 := d6 _ b23 (Fn3.ne b23 c1 ne_inst_list) (Fn3.ne b23 b53 ne_inst_list)
    have b34 := d6 _ b33 (Fn3.ne b33 c1 ne_dict_list) (Fn3.ne b33 b53 ne_dict_list)
    have c24 := d6 _ c2 (Fn3.ne c2 c1 ne_inst_list) (Fn3.ne c2 b53 ne_inst_list)
    have c34 := d6 _ c3 (Fn3.ne c3 c1 ne_dict_list) (Fn3.ne c3 b53 ne_dict_list)
    clear hc3 hP3 hT3 hdT3 a23 a33 b23 b33 b53 c1 c2 c3 el4 d6 Fn3
    k_steps
    unfold Halt
    obtain ⟨ths, r4, ⟨hoth, hr4, hlen4⟩, N2⟩ := gen_rows N' (fun r ths => (∀ v ∈ ths, OtherNode w.params l4 [Value.ref x0.a, Value.ref x1.a, Value.ref x2.a, Value.ref x3.a] v) ∧ r = l4 ∧ ths.length = 4) (by
      refine ⟨?_, rfl, rfl⟩
      intro v hv
      rcases List.mem_cons.mp hv with rfl | hv
      · exact other_of (x := x0) (Int.ofNat_nonneg _) rfl a24 a34 k0 (by decide +kernel)
      rcases List.mem_cons.mp hv with rfl | hv
      · exact other_of (x := x1) (Int.ofNat_nonneg _) rfl b24 b34 k1 (by decide +kernel)
      rcases List.mem_cons.mp hv with rfl | hv
      · exact other_of (x := x2) (Int.ofNat_nonneg _) rfl c24 c34 k2 (by decide +kernel)
      rcases List.mem_cons.mp hv with rfl | hv
      · exact other_of (x := x3) (Int.ofNat_nonneg _) rfl d2 d3 k3 (by decide +kernel)
      cases hv)
    subst hr4
    clear N'
    k_dflt (refine my_ListComp_B (x := Str.ofString "node") (by k_asm) (by rfl) (by intro a; rfl) (by intro h; rfl) (by rfl) (by decide) ?_)
    walk1
    have hT5 : KtsTurn ([envX cn cs L ad ccd cl].filterMap (·.frame)) g1 g1 := KtsTurn.refl
    refine ⟨l', ths, 0, (l', listOf ths.toArray 0) :: r4, OKg (ktrTop dp un gd cn cs L ad ccd cl []) base (envX cn cs L ad ccd cl) (Mine.hd.heap_1 w.params) p loose mean mg mb P g1,
      fun K i ys nw => ys = [] ∧ (∃ ok vk, (K, ok) ∈ nw ∧ ok.data = .cell vk) ∧ (∀ q ∈ (l', listOf ths.toArray 0) :: r4, q.1 ≠ K ∧ (q.1 ≠ P → q ∈ nw)) ∧ P ≠ K ∧ TabOr P (Str.ofString "_law_told_right" ++ ".<locals>." ++ "<lambda>") (fun c => c ≠ K) nw,
      rfl, rfl, by k_asm, N2, ?_, ⟨hT5, B1, X1, T1, D1, CH'⟩, ?_, ?_, .head _, ?_, ?_, ?_, ?_⟩
    · have := sizeLine_eq; omega
    · exact fun g b ok hb => ok.turn.none_ b hb
    · rintro K i ys nw ⟨rfl, _⟩; exact Nat.zero_le _
    · rintro K i ys nw ⟨_, _, h3, _⟩
      exact (h3 _ (.head _)).2 ((func_of N2).ne (.head _) (.tail _ hP4) (Ne.symm ne_tab_list))
    · intro K hK
      refine ⟨rfl, ⟨cellO, none, .head _, rfl⟩, fun q hq => ⟨Nat.ne_of_lt (hK q hq), fun _ => .tail _ hq⟩, Nat.ne_of_lt (hK _ (.tail _ hP4)), .inl (.tail _ (.tail _ hP4))⟩
    · intro K g' i v ys nw I oI C oC D mC h tk5 gg E' hi hv hok hJ hC F1 N1 off1 ne1
      obtain ⟨rfl, ⟨okn, vk, hK, hkd⟩, hkeep, hPK, htab⟩ := hJ
      obtain ⟨kk, uu, x, rfl, hk0, hxx, hxa, hxd, hb1, hb2, hb3⟩ := hoth v (List.mem_of_getElem? hv)
      obtain ⟨o1, o2, o3, o4, o5, o6⟩ := hok
      have zK := N1 (K, okn) (.tail _ (.tail _ (.tail _ hK)))
      have off3 := off1.mem
      have hKn := off3 _ hK
      refine wpAny_assign_Name (wpAny_storeName_cell rfl rfl rfl ⟨okn, zK.1, hkd⟩ fun h2 hv2 hs2 => ?_)
      obtain ⟨ok2, hk2, hkd2⟩ := hv2
      have F2 : Fr gg L1 h2 _ := F1.change hs2 zK.2.1 zK.2.2
      have N3 : News gg L1 h2 ((K, ok2) :: off K ((I, oI) :: (C, oC) :: (D, LCg.lst []) :: nw)) := fun q hq => by
        rcases List.mem_cons.mp hq with rfl | hq
        · exact ⟨hk2, zK.2⟩
        · exact ⟨hs2.extBut _ _ (off_ne q hq) (N1 q (off_sub q hq)).1, (N1 q (off_sub q hq)).2⟩
      obtain ⟨LL, N4, m1, m2, m3, m4, m5, m6⟩ : ∃ LL, News gg L1 h2 LL ∧ (K, ok2) ∈ LL ∧ (I, oI) ∈ LL ∧ (C, oC) ∈ LL ∧ (D, LCg.lst []) ∈ LL ∧ (∀ q ∈ (l', listOf ths.toArray 0) :: r4, q.1 ≠ P → q ∈ LL) ∧
          TabOr P (Str.ofString "_law_told_right" ++ ".<locals>." ++ "<lambda>") (fun c => c ≠ K ∧ c ≠ I ∧ c ≠ C ∧ c ≠ D) LL := by
        refine ⟨_, N3, .head _, .tail _ (off_mem (.head _) (Ne.symm hKn.1)), .tail _ (off_mem (.tail _ (.head _)) (Ne.symm hKn.2.1)), .tail _ (off_mem (.tail _ (.tail _ (.head _))) (Ne.symm hKn.2.2)), fun q hq hn => ?_, ?_⟩
        · obtain ⟨n1, n2⟩ := hkeep q hq
          exact .tail _ (off_mem (.tail _ (.tail _ (.tail _ (n2 hn)))) n1)
        · rcases htab with z | ⟨c', oc, vs, t, z1, z2, z3, z4, z5⟩
          · exact .inl (.tail _ (off_mem (.tail _ (.tail _ (.tail _ z))) hPK))
          · exact .inr ⟨c', oc, vs, t, .tail _ (off_mem (.tail _ (.tail _ (.tail _ z1))) hPK), .tail _ (off_mem (.tail _ (.tail _ (.tail _ z2))) z5), z3, z4, z5, off3 _ z2⟩
      refine wpAny_tests_one ?_
      clear F1 N1 N3
      k_steps
      unfold Halt
      k_dflt (refine kla_eval rfl ?_)
      k_dflt (refine lam_any F2 N4 o4 (Halt.out o6) rfl rfl m6 (by rfl) ?_)
      intro f c' oc vs t ctv h3 tk3 led1 F3 N5 hf hc' hoc hvs hP5 hkeep5 hfr5
      have Fn2 := func_of N2
      have kept : ∀ q ∈ (l', listOf ths.toArray 0) :: r4, q.1 ≠ P → q ∈ led1 := fun q hq hn => hkeep5 q (m5 q hq hn) hn
      have hKP : K ≠ P := Ne.symm hPK
      clear F2 N4
      k_steps
      unfold Halt
      have nP : ∀ {a : Addr} {o : Obj}, (a, o) ∈ r4 → tabObj #[] ≠ o → a ≠ P := fun ha ho => Fn2.ne (.tail _ ha) (.tail _ hP4) (Ne.symm ho)
      k_dflt (refine' heard_ok led1 f c' K (L1 + 1) oc ok2 oc' vs _ _ ctv t _ _ _ _ [Value.ref x0.a, Value.ref x1.a, Value.ref x2.a, Value.ref x3.a] 4 kk uu x hf hc' hoc hvs (hkeep5 _ m1 hKP) hkd2 (kept _ (.tail _ hc4) (nP hc4 ?q1)) dc' (kept _ (.tail _ hT4) (nP hT4 ne_tab_inst)) (kept _ (.tail _ hdT4) (nP hdT4 ne_tab_dict)) (kept _ (.tail _ d1) (nP d1 ne_tab_list)) (Nat.le_of_ble_eq_true rfl) hk0 hxx (kept _ (.tail _ hxa) (nP hxa ne_tab_inst)) (kept _ (.tail _ hxd) (nP hxd ne_tab_dict)) hb1 hb2 hb3 _ _ _ _ _ _ _ _ _ _ _ _ _ _ _ _ _ 379 P ?k1 ?k2 ?k3 ?k4 ?k5 ?k6 ?k7 ?k8 ?k9 ?ka ?kb ?kc ?_)
      (case k1 => exact o2)
      (case k2 => k_asm)
      (case k3 => exact o3)
      (case k4 => k_asm)
      (case k5 => exact o4)
      (case k6 => exact XB)
      (case k7 => exact TB)
      (case k8 => exact o5)
      (case k9 => exact Halt.out o6)
      (case ka => exact rfl)
      (case kb => ktr_room)
      (case kc => ktr_units)
      (case q1 => intro e; rw [← e] at dc'; cases dc')
      rintro r led5 h5 g5 tk6 T5 F5 N6 B5 X5 P5 D5 ⟨tt, cc, u5, rfl, htt, hs5⟩
      k_steps
      unfold Halt
      k_dflt (refine ne_dataH (by ke_read) (by ke_read) (by ke_shaped) (by ke_shaped) (by ke_room) ?_)
      ke_norm
      walk1
      have hPo : P ≠ I ∧ P ≠ C ∧ P ≠ D := by
        rcases htab with z | ⟨_, _, _, _, z, _⟩
        · exact off3 _ z
        · exact off3 _ z
      have hco : c' ≠ K ∧ c' ≠ I ∧ c' ≠ C ∧ c' ≠ D := by
        rcases hfr5 with z | z
        · exact ⟨Nat.ne_of_gt (z _ m1), Nat.ne_of_gt (z _ m2), Nat.ne_of_gt (z _ m3), Nat.ne_of_gt (z _ m4)⟩
        · exact z
      have i2 := hs5 _ (hkeep5 _ m2 (Ne.symm hPo.1))
      have i3 := hs5 _ (hkeep5 _ m3 (Ne.symm hPo.2.1))
      have i4 := hs5 _ (hkeep5 _ m4 (Ne.symm hPo.2.2))
      have o3 : ∀ {q : Addr × Obj}, q ∈ led5 → q.1 ≠ I → q.1 ≠ C → q.1 ≠ D → q ∈ off D (off C (off I led5)) := fun hq n1 n2 n3 => off_mem (off_mem (off_mem hq n1) n2) n3
      rename News g5 _ _ _ => kN
      rename Fr g5 _ _ _ => kF
      k_dflt (refine CEndB.mk' g5 ⟨o1.trans T5, B5, X5, P5, D5, CodeHd.keeps CH.out B5.stays⟩ (CEnd.intro (off D (off C (off I led5))) hC kF (news_sub kN fun q hq => ?_) (LCg.Off3.of fun q hq => ?_) ⟨rfl, ⟨ok2, _, o3 (hs5 _ (hkeep5 _ m1 hKP)) hKn.1 hKn.2.1 hKn.2.2, hkd2⟩, fun q hq => ⟨(hkeep q hq).1, fun hn => ?_⟩, hPK, .inr ⟨c', oc, vs, t, o3 (hs5 _ hP5) hPo.1 hPo.2.1 hPo.2.2, o3 (hs5 _ hc') hco.2.1 hco.2.2.1 hco.2.2.2, hoc, hvs, hco.1⟩⟩))
      · rcases List.mem_cons.mp hq with rfl | hq
        · exact .tail _ i2
        rcases List.mem_cons.mp hq with rfl | hq
        · exact .tail _ i3
        rcases List.mem_cons.mp hq with rfl | hq
        · exact .tail _ i4
        · exact .tail _ (off_sub q (off_sub q (off_sub q hq)))
      · exact ⟨off_ne q (off_sub q (off_sub q hq)), off_ne q (off_sub q hq), off_ne q hq⟩
      · have z := off3 q ((hkeep q hq).2 hn)
        exact o3 (hs5 _ (kept q hq hn)) z.1 z.2.1 z.2.2
    · intro g' K ys nw g D h tk7 ok hJ F7 N7 off7
      obtain ⟨rfl, _, _, _, htab⟩ := hJ
      obtain ⟨ps, hps⟩ : ∃ ps, (P, tabObj ps) ∈ nw := by
        rcases htab with z | ⟨_, _, _, _, z, _⟩
        · exact ⟨_, z⟩
        · exact ⟨_, z⟩
      clear htab
      obtain ⟨o1, o2, o3, o4, o5, o6⟩ := ok
      k_steps
      unfold Halt
      rename News g _ _ _ => kN
      have hlD : Heap.IsList _ D ([] : List Value).toArray := ⟨_, (kN _ (.tail _ (.head _))).1, rfl, _, rfl⟩
      have hlE : Heap.IsList _ _ ([] : List Value).toArray := ⟨_, (kN _ (.head _)).1, rfl, _, rfl⟩
      k_dflt (refine my_eq_nil hlD hlE (by first | units_room | ktr_units) ?_)
      k_steps
      rename Fr g _ _ _ => kF
      refine ⟨g, L1, _, _, o1, kF, kN, fun h₀' Tn Fn Nn _ _ _ _ => ?_⟩
      exact hret _ _ ps ⟨Fn.ns, fun b o e => Fn.keep b o (Tn.other b o e (by simp)), by rw [← Tn.size]; exact Fn.above⟩ (fun q hq => by rw [List.mem_singleton.mp hq]; exact ⟨(kN _ (.tail _ (.tail _ hps))).1, (N _ (.head _)).2⟩)
end
end

theorem RowsIn.mono {l l' : Led} {vs : List Value} {ds : List PV} (H : RowsIn l vs ds) (hs : ∀ q ∈ l, q ∈ l') : RowsIn l' vs ds :=
  ⟨H.1, fun i q e => by obtain ⟨a, u1, u2, c, h1, h2⟩ := H.2 i q e; exact ⟨a, u1, u2, c, h1, hs _ h2⟩⟩
theorem RowsIn.off {l : Led} {vs : List Value} {ds : List PV} (H : RowsIn l vs ds) (Fn : Func l) {c : Addr} {o : Obj} (hc : (c, o) ∈ l) (ho : ∀ its n, o ≠ tupObj its n) : RowsIn (Mine.off c l) vs ds :=
  ⟨H.1, fun i q e => by obtain ⟨a, u1, u2, c, h1, h2⟩ := H.2 i q e; exact ⟨a, u1, u2, c, h1, off_mem h2 (Fn.ne h2 hc (Ne.symm (ho _ _)))⟩⟩
theorem RowsIn.snoc {l : Led} {vs : List Value} {ds : List PV} {a : Addr} {k : Nat} {x : Str} {u1 u2 : Tok} {c : Nat} (H : RowsIn l vs ds) (hm : (a, tupObj [Value.int (k : Int) u1, Value.str x u2] c) ∈ l) : RowsIn l (vs ++ [.ref a]) (ds ++ [(k, x)]) := by
  refine ⟨by simp [H.1], fun i q e => ?_⟩
  by_cases hi : i < ds.length
  · rw [List.getElem?_append_left hi] at e
    obtain ⟨a, u1, u2, c, h1, h2⟩ := H.2 i q e
    exact ⟨a, u1, u2, c, by rw [List.getElem?_append_left (by rw [H.1]; exact hi)]; exact h1, h2⟩
  · rw [List.getElem?_append_right (by omega)] at e
    have hi2 : i - ds.length = 0 := by
      have := (List.getElem?_eq_some_iff.mp e).1
      simp at this
      omega
    rw [hi2] at e
    obtain rfl : (k, x) = q := by simpa using e
    exact ⟨a, u1, u2, c, by rw [List.getElem?_append_right (by rw [H.1]; omega), H.1, hi2]; rfl, hm⟩
theorem ne_list_tup {its : Array Value} {n : Nat} : ∀ (vs : List Value) (k : Nat), listOf its n ≠ tupObj vs k := fun vs k => ne_cls (by intro h; injection h with h; revert h; decide)
theorem turn_end {h₀ h : Heap} {L D I src lr : Addr} {it S : Obj} {rvs : List Value} {pvs : List PV} {c n k : Nat} {u1 u2 : Tok} {y : Str} {base : Led}
    (N : News h₀ L h ((lr, listOf (rvs ++ [Value.ref D]).toArray (c + 1)) :: off lr ((D, tupObj [Value.int (k : Int) u1, Value.str y u2] n) :: (src, S) :: base)))
    (Fn : Func base) (hI : (I, it) ∈ base) (hl : (lr, listOf rvs.toArray c) ∈ base) (hlI : lr ≠ I) (hoff : ∀ q ∈ base, q.1 ≠ src) (hD : AllLt D base) (hr : RowsIn base rvs pvs) (hit : ∀ vs k, it ≠ tupObj vs k) {P : Addr} {o : Obj} (hP : (P, o) ∈ base) (hPI : o ≠ it) (hPl : ∀ c, o ≠ listOf rvs.toArray c) :
    ∃ nw, (∀ p ∈ (I, it) :: nw, p ∈ (lr, listOf (rvs ++ [Value.ref D]).toArray (c + 1)) :: off lr ((D, tupObj [Value.int (k : Int) u1, Value.str y u2] n) :: (src, S) :: base)) ∧ (∀ p ∈ nw, p.1 ≠ I) ∧
      (lr, listOf (rvs ++ [Value.ref D]).toArray (c + 1)) ∈ nw ∧ (src, S) ∈ nw ∧ (P, o) ∈ nw ∧ RowsIn nw (rvs ++ [Value.ref D]) (pvs ++ [(k, y)]) := by
  have FA := func_of N
  have hDl : D ≠ lr := Ne.symm (Nat.ne_of_lt (allLt_lt hD _ hl))
  have hDI : D ≠ I := Ne.symm (Nat.ne_of_lt (allLt_lt hD _ hI))
  have hsl : src ≠ lr := Ne.symm (hoff _ hl)
  have hsI : src ≠ I := Ne.symm (hoff _ hI)
  have mI : (I, it) ∈ (lr, listOf (rvs ++ [Value.ref D]).toArray (c + 1)) :: off lr ((D, tupObj [Value.int (k : Int) u1, Value.str y u2] n) :: (src, S) :: base) := .tail _ (off_mem (.tail _ (.tail _ hI)) (Ne.symm hlI))
  have r1 : RowsIn ((lr, listOf (rvs ++ [Value.ref D]).toArray (c + 1)) :: off lr ((D, tupObj [Value.int (k : Int) u1, Value.str y u2] n) :: (src, S) :: base)) rvs pvs :=
    ⟨hr.1, fun i q e => by
      obtain ⟨a, w1, w2, c3, h1, h2⟩ := hr.2 i q e
      exact ⟨a, w1, w2, c3, h1, .tail _ (off_mem (.tail _ (.tail _ h2)) (Fn.ne h2 hl (Ne.symm (ne_list_tup _ _))))⟩⟩
  have r2 := (RowsIn.snoc r1 (a := D) (k := k) (x := y) (u1 := u1) (u2 := u2) (c := n) (.tail _ (off_mem (.head _) hDl))).off FA mI hit
  refine ⟨off I ((lr, listOf (rvs ++ [Value.ref D]).toArray (c + 1)) :: off lr ((D, tupObj [Value.int (k : Int) u1, Value.str y u2] n) :: (src, S) :: base)), fun p hp => ?_, off_ne, off_mem (.head _) hlI, off_mem (.tail _ (off_mem (.tail _ (.head _)) hsl)) hsI, off_mem (.tail _ (off_mem (.tail _ (.tail _ hP)) (Fn.ne hP hl (hPl _)))) (Fn.ne hP hI hPI), r2⟩
  rcases List.mem_cons.mp hp with rfl | hp
  · exact mI
  · exact off_sub _ hp
theorem lr_any {w : World} {p : Program} {loose : List Str} {mean : ExcName → Option Value} {mg mb : Str → Option Value} (l : Led) (g x : Str) (t1 t2 t3 : Tok) (c : Bool) {kd : Str} (hg : g.length ≤ 3) (hx : x.length ≤ 18)
    (hk : kd = Str.ofString "text" ∨ kd = Str.ofString "comment" ∨ kd = Str.ofString "instruction") :
    KC w p loose mean mg mb 375 [.str kd t1, .str g t2, .str x t3, .bool c] l 9 (fun r l' => r = .bool true ∧ l' = l) := by
  rcases hk with rfl | rfl | rfl
  · exact lr_text l g x t1 t2 t3 c hx
  · exact lr_com l g x t1 t2 t3 c hx
  · exact lr_pi l g x t1 t2 t3 c hg hx
section
local macro_rules | `(tactic| walk_at "eval Name") => `(tactic| (k_here; k_dflt (refine' nameX_L ?nF ?nv ?_ ?na ?nb; (case nF => k_asm); (case na => rfl); (case nb => rfl); (case nv => assumption); k_whole)))
local macro_rules | `(tactic| walk_at "call ref") => `(tactic| ((with_reducible refine at_call 349 ?_); k_dflt (open_k with (text_upd _ _ _ _ _ _ ?a1 ?a2 ?a3); walk_at "s3"; walk_at "kB"); walk_at "kI"; obtain ⟨xt9, tt9, vs9, ns9, n9, rfl, hxt9, rfl, hi9, hs9⟩ := P9; walk_at "kS"))
local macro_rules | `(tactic| walk_at "exec For Name List cons nil") => `(tactic| (k_here; refine Halt.out ?_))
local macro_rules | `(tactic| walk_at "call type:range") => `(tactic| (k_here; ((rename Fr _ _ _ _ => F'); (rename News _ _ _ _ => N'); (with_unfolding_all refine range1_rows F' N' ?_); intro _ _ _ _ _ _ _ _ _)))
local macro_rules | `(tactic| walk_at "pyIter ref") => `(tactic| (k_here; refine Halt.out ?_))
local macro_rules | `(tactic| walk_at "pyIter") => `(tactic| (k_here; refine Halt.out ?_))
local macro_rules | `(tactic| walk_at "call ref") => `(tactic| (with_reducible refine halt_call 361 ?_))
local macro_rules | `(tactic| walk_at "call ref") => `(tactic| (with_reducible refine halt_call 375 ?_))
local macro_rules | `(tactic| walk_at "call ref") => `(tactic| (with_reducible refine halt_call 311 ?_))
local macro_rules | `(tactic| walk_at "call ref") => `(tactic| (with_reducible refine halt_call 380 ?_))
local macro_rules | `(tactic| walk_at "call ref") => `(tactic| (with_reducible refine halt_call 325 ?_))
local macro_rules | `(tactic| walk_at "none") => `(tactic| skip)
theorem law_holds : PySem.Challenge.rw_xw0209_01.Holds := hd (by
  k_go0
  change Halt (CodeHd _ 379 377) at codeHd
  (all_goals try k_fold)
  k_steps
  unfold Halt
  k_dflt (refine' toldright_ok _ _ _ _ _ _ _ _ _ _ _ _ _ _ _ _ _ ?k1 ?k2 ?k3 ?k4 ?k5 ?k3b ?k5b ?CH ?k6 ?k7 ?k8 ?_; (case k1 => k_asm); (case k2 => k_asm); (case k3 => k_asm); (case k4 => k_asm); (case k5 => k_asm); (case k3b => k_asm); (case k5b => k_asm); (case CH => assumption); (case k6 => first | exact rfl | assumption); (case k7 => ktr_room); (case k8 => ktr_units))
  intro h9 tk9 psT F9 NT
  walk1
  rw [if_neg (by decide)]
  k_steps
  unfold Halt
  k_dflt (refine' pool_ok [(377, tabObj psT)] _ _ _ (by assumption) (by omega) _ _ _ _ _ _ _ _ _ _ _ _ _ _ _ _ _ ?k1 ?k2 ?k3 ?k4 ?k5 ?k6 ?k7 ?k8 ?hl ?_; (case k1 => k_asm); (case k2 => k_asm); (case k3 => k_asm); (case k4 => exact NT); (case k5 => k_asm); (case k6 => first | exact rfl | assumption); (case k7 => ktr_room); (case k8 => ktr_units); (case hl => k_asm))
  intro src vsP nsP nP h10 tk10 F10 N10 lP hiP hsP
  have hPs : @LT.lt Nat _ 377 src := lP _ (.head _)
  clear NT
  k_steps
  unfold Halt
  have hx09 := (range7 hx0 hx1).1
  have hx19 := (range7 hx0 hx1).2
  rename IsRange _ _ _ _ _ _ _ _ => hR
  rename Fr _ _ _ _ => FQ
  rename News _ _ _ _ => NQ
  with_unfolding_all refine iter_rangeUnr (n := x9.toNat) (by rfl) hR hx09 hx19 FQ NQ ?_
  intro I hI
  refine range_inv (fun i m₁ nw => ∃ rvs pvs vs ns n c, ((377 : Addr), tabObj psT) ∈ nw ∧ (l', listOf rvs.toArray c) ∈ nw ∧ (src, listOf vs.toArray n) ∈ nw ∧ RowsIn nw rvs pvs ∧ IntsAre vs ns ∧ SrcOk ns ∧ (∀ x ∈ pvs, x.1 < 7) ∧ (∀ x ∈ pvs, x.2.length ≤ 18) ∧ pvs.length ≤ i ∧
    m₁ (Str.ofString "source") = some (.ref src) ∧ m₁ (Str.ofString "rows") = some (.ref l')) ?_ ?_ ?_
  · exact ⟨[], [], vs9, ns9, n9, 0, by k_mem, by k_mem, by k_mem, ⟨rfl, fun i q e => nomatch e⟩, hi9, hs9, fun x hx => (nomatch hx), fun x hx => (nomatch hx), Nat.le_refl _, rfl, rfl⟩
  · rintro i m₁ nw u h tk hi ⟨rvs, pvs, vs, ns, n, c, hp1, hl1, hs1, hrw1, hi1, hsr1, h71, h181, hlen1, hm1, hm2⟩ F1 N1
    clear FQ NQ F' N'
    dsimp only [envOf] at F1 N1
    have Fn1 := func_of N1
    have hs2 := List.mem_cons_of_mem (I, itR (0 + ((i + 1 : Nat) : Int)) (((x9.toNat : Nat) : Int) - ((i + 1 : Nat) : Int))) hs1
    have hl2 := List.mem_cons_of_mem (I, itR (0 + ((i + 1 : Nat) : Int)) (((x9.toNat : Nat) : Int) - ((i + 1 : Nat) : Int))) hl1
    have hr2 := (hrw1.mono (fun q hq => List.mem_cons_of_mem (I, itR (0 + ((i + 1 : Nat) : Int)) (((x9.toNat : Nat) : Int) - ((i + 1 : Nat) : Int))) hq)).off Fn1 hs2 ne_list_tup
    have hp3 := off_mem (d := src) (List.mem_cons_of_mem (I, itR (0 + ((i + 1 : Nat) : Int)) (((x9.toNat : Nat) : Int) - ((i + 1 : Nat) : Int))) hp1) (Nat.ne_of_lt hPs)
    have hl3 := off_mem hl2 (show l' ≠ src from Nat.ne_of_gt (by assumption))
    have hI3 := off_mem (d := src) (List.mem_cons_self (a := (I, itR (0 + ((i + 1 : Nat) : Int)) (((x9.toNat : Nat) : Int) - ((i + 1 : Nat) : Int)))) (l := nw)) (Fn1.ne (.head _) hs2 (ne_cls (by intro h; injection h with h; revert h; decide)))
    have hlI : l' ≠ I := Fn1.ne hl2 (.head _) (ne_cls (by intro h; injection h with h; revert h; decide))
    have hoff3 : ∀ q ∈ off src ((I, itR (0 + ((i + 1 : Nat) : Int)) (((x9.toNat : Nat) : Int) - ((i + 1 : Nat) : Int))) :: nw), q.1 ≠ src := off_ne
    have N3 := off_news N1 hs2
    have Fn3 := func_of (news_sub N3 fun q hq => .tail _ hq)
    clear N1 Fn1
    generalize off src ((I, itR (0 + ((i + 1 : Nat) : Int)) (((x9.toNat : Nat) : Int) - ((i + 1 : Nat) : Int))) :: nw) = base3 at *
    have hlen3 : rvs.length ≤ 7 := by have := hrw1.1; omega
    obtain ⟨m2, F2, hm3, hm4⟩ : ∃ m2, Fr _ _ h m2 ∧ m2 (Str.ofString "source") = some (.ref src) ∧ m2 (Str.ofString "rows") = some (.ref l') := ⟨_, F1, hm1, hm2⟩
    clear F1 hm1 hm2
    k_steps
    obtain ⟨kp, rfl⟩ := Int.eq_ofNat_of_zero_le hx0
    obtain ⟨nwE, e1, e2, e3, e4, e6, e5⟩ := turn_end (pvs := pvs) N' Fn3 hI3 hl3 hlI hoff3 (by assumption) hr2 (fun vs k => ne_cls (by intro h; injection h with h; revert h; decide)) hp3 (ne_cls (by nofun)) (fun c => ne_cls (by nofun))
    refine UnrEnd.intro F' N' nwE e1 e2 ⟨_, _, vs9, ns9, n9, c + 1, e6, e3, e4, e5, hi9, hs9, ?_, ?_, ?_, hm3, hm4⟩
    · intro x hx
      rcases List.mem_append.mp hx with hx | hx
      · exact h71 x hx
      · rw [List.mem_singleton.mp hx]; show kp < 7; omega
    · intro x hx
      rcases List.mem_append.mp hx with hx | hx
      · exact h181 x hx
      · rw [List.mem_singleton.mp hx]; exact hxt9
    · rw [List.length_append]; show pvs.length + 1 ≤ i + 1; omega
  · rintro m₁ nw h tk ⟨rvs, pvs, vs, ns, n, c, hp1, hl1, hs1, hrw1, hi1, hsr1, h71, h181, hlen1, hm1, hm2⟩ F1 N1
    clear FQ NQ F' N'
    dsimp only [envOf] at F1 N1
    have hlen6 : pvs.length ≤ 6 := by omega
    obtain ⟨m2, F2, hm3, hm4⟩ : ∃ m2, Fr _ _ h m2 ∧ m2 (Str.ofString "source") = some (.ref src) ∧ m2 (Str.ofString "rows") = some (.ref l') := ⟨_, F1, hm1, hm2⟩
    clear F1 hm1 hm2
    k_steps
    unfold Halt
    k_dflt (refine' KC.use (right_ok nw l' rvs c pvs hl1 hrw1 h71 h181 hlen6) ?k1 ?k2 ?k3 ?k4 ?k5 ?k6 ?k7 ?k8 ?_; (case k1 => k_asm); (case k2 => k_asm); (case k3 => k_asm); (case k4 => k_asm); (case k5 => k_asm); (case k6 => first | exact rfl | assumption); (case k7 => ktr_room); (case k8 => ktr_units))
    rintro r9 led9 h9 tk9 F9 N9 ⟨rfl, hk9⟩ htk9
    have hs2 := hk9 _ hs1
    have hp9 := off_mem (hk9 _ hp1) (Nat.ne_of_lt hPs)
    replace N9 := off_news N9 hs2
    have hoff9 : ∀ q ∈ off src led9, q.1 ≠ src := off_ne
    clear hs2 hk9
    generalize off src led9 = base9 at *
    walk1
    rw [if_neg (by decide)]
    k_steps
    unfold Halt
    k_dflt (refine For_turns F9 ?_)
    k_steps
    unfold Halt
    obtain ⟨lk, hlk⟩ : ∃ a, a = l' := ⟨_, rfl⟩
    subst hlk
    generalize hlo : listOf _ 0 = lo at N'
    replace N' := news_sub N' (l' := [(src, listOf vs.toArray n), (lk, lo), (377, tabObj psT)]) (by intro q hq; rcases List.mem_cons.mp hq with rfl | hq; exact .tail _ (.head _); rcases List.mem_cons.mp hq with rfl | hq; exact .head _; rw [List.mem_singleton.mp hq]; exact .tail _ (.tail _ hp9))
    refine iter_listTurns (vs := [Value.str (Str.ofString "text") _, Value.str (Str.ofString "comment") _, Value.str (Str.ofString "instruction") _]) (lo := lo) rfl F' N' (.tail _ (.head _)) (by rw [← hlo]) (by rw [← hlo]) (fun I hI => items_inv (fun i m₁ nw => ∃ vs ns n, nw = [(src, listOf vs.toArray n), (lk, lo), (377, tabObj psT)] ∧ IntsAre vs ns ∧ SrcOk ns ∧ m₁ (Str.ofString "source") = some (.ref src)) ⟨vs, ns, n, rfl, hi1, hsr1, hm3⟩ ?_ ?_)
    · rintro i v m₁ nw h tk' hv ⟨vs, ns, n, rfl, hi1, hsr1, hm1⟩ F1
      refine AllObj.cons fun o1 hc1 => AllObj.nil fun N1 => ?_
      simp only [List.cons_append, List.nil_append] at N1
      dsimp only [envOf] at F1 N1
      clear hlo N' F'
      have hls : lk ≠ src := Nat.ne_of_gt (by assumption)
      have hIs : I ≠ src := Ne.symm (Nat.ne_of_lt (hI _ (.head _)))
      have hIl : I ≠ lk := Ne.symm (Nat.ne_of_lt (hI _ (.tail _ (.head _))))
      have hlI : lk < I := hI _ (.tail _ (.head _))
      have hsI : src < I := hI _ (.head _)
      have hPI : @LT.lt Nat _ 377 I := hI _ (.tail _ (.tail _ (.head _)))
      have hPs' : @Ne Nat 377 src := Nat.ne_of_lt hPs
      obtain ⟨kd, tkd, rfl, hkd⟩ : ∃ kd tkd, v = Value.str kd tkd ∧ (kd = Str.ofString "text" ∨ kd = Str.ofString "comment" ∨ kd = Str.ofString "instruction") := by
        rcases i with _ | _ | _ | i
        · exact ⟨_, _, (Option.some.inj hv).symm, .inl rfl⟩
        · exact ⟨_, _, (Option.some.inj hv).symm, .inr (.inl rfl)⟩
        · exact ⟨_, _, (Option.some.inj hv).symm, .inr (.inr rfl)⟩
        · exact nomatch hv
      k_steps
      unfold Halt
      k_dflt (refine' KC.use (one_upd _ _ _ _ _ _ _ _ _ ?a1 hi1 hsr1 ?a6 (Nat.ne_of_gt (by assumption)) ?b4 ?b5) ?k1 ?k2 ?k3 ?k4 ?k5 ?k6 ?k7 ?k8 ?_; (case k1 => k_asm); (case k2 => k_asm); (case k3 => k_asm); (case k4 => k_asm); (case k5 => k_asm); (case k6 => first | exact rfl | assumption); (case a1 => intro o9; k_upd); (case a6 => k_mem); (case b4 => exact Nat.le_of_ble_eq_true rfl); (case b5 => exact Nat.le_of_ble_eq_true rfl); (case k7 => ktr_room); (case k8 => ktr_units))
      rintro r9 led9 h9 tk9 F9 N9 ⟨hr9, vs9, ns9, n9, rfl, hi9, hs9⟩ htk9
      obtain ⟨gg, tg, rfl, hgg⟩ : ∃ gg tg, r9 = Value.str gg tg ∧ gg.length ≤ 3 := by
        rcases List.mem_cons.mp hr9 with e | e
        · exact ⟨_, _, e, by decide +kernel⟩
        · exact ⟨_, _, List.mem_singleton.mp e, by decide +kernel⟩
      (try dsimp only at N9)
      clear hr9 N' F'
      replace N9 := news_sub N9 (l' := [(I, o1), (src, listOf vs9.toArray n9), (lk, lo), (377, tabObj psT)]) (fun q hq => .tail _ hq)
      k_steps
      unfold Halt
      k_dflt (refine' KC.use (lr_any _ _ _ _ _ _ _ hgg hxt9 hkd) ?k1 ?k2 ?k3 ?k4 ?k5 ?k6 ?k7 ?k8 ?_; (case k1 => k_asm); (case k2 => k_asm); (case k3 => k_asm); (case k4 => k_asm); (case k5 => k_asm); (case k6 => first | exact rfl | assumption); (case k7 => ktr_room); (case k8 => ktr_units))
      rintro r10 led10 h10 tk10 F10 N10 ⟨rfl, rfl⟩ htk10
      walk1
      rw [if_neg (by decide)]
      walk1
      walk1
      refine endW F10 (news_sub N10 (l' := [(I, o1), (src, listOf vs9.toArray n9), (lk, lo), (377, tabObj psT)]) (fun q hq => .tail _ hq)) (fun q hq => Nat.ne_of_lt ?_) ⟨⟨.tail _ (.head _), trivial⟩, vs9, ns9, n9, rfl, hi9, hs9, hm1⟩
      rcases List.mem_cons.mp hq with rfl | hq
      · exact hsI
      rcases List.mem_cons.mp hq with rfl | hq
      · exact hlI
      · rw [List.mem_singleton.mp hq]; exact hPI
    · rintro m₁ nw h tk' ⟨vs, ns, n, rfl, hi1, hsr1, hm1⟩ F1 N1
      dsimp only [envOf] at F1 N1
      clear hlo N' F'
      iterate 3 walk1
      dsimp only
      refine ⟨?_, ⟨⟨psT, (N1 _ (.tail _ (.tail _ (.head _)))).1⟩, trivial⟩⟩
      refine goodW_bool F1 (by assumption) (raisesW_false ?_) ?_
      · wrow_none_raised
      · wrow_post)
end

end Mine
theorem PySem.Challenge.cw_xw0209_01_holds : PySem.Challenge.rw_xw0209_01.Holds :=
  Mine.law_holds
