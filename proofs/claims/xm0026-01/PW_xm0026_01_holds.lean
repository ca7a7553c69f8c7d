import PyProof.Rows.All
import Wide.All
import OpenK.AllK
import Wide.FinOn
import PySem.Challenge.RW_xm0026_01
open PySem PySem.W PyProof.Rows
set_option Elab.async false
set_option maxRecDepth 100000
set_option maxHeartbeats 0
namespace Mine
noncomputable def view : Program := { (OpenRow.toRowW (OpenLaw.row PySem.Challenge.rw_xm0026_01)).prog with main := { (OpenRow.toRowW (OpenLaw.row PySem.Challenge.rw_xm0026_01)).prog.main with body := ((OpenRow.toRowW (OpenLaw.row PySem.Challenge.rw_xm0026_01)).prog.main.body.drop 1).take 1 ++ ((OpenRow.toRowW (OpenLaw.row PySem.Challenge.rw_xm0026_01)).prog.main.body.drop 3).take 13 ++ (OpenRow.toRowW (OpenLaw.row PySem.Challenge.rw_xm0026_01)).prog.main.body.drop 17 } }
/-- the look at the law's text -/
theorem law_said : OpenLaw.wellSaid PySem.Challenge.rw_xm0026_01 = true := by
  rw [PySem.W.Fast.te9446332074065402090]
  kernel_rfl
local macro_rules | `(tactic| k_head) => `(tactic| x_head)
local macro_rules | `(tactic| o_law) => `(tactic| (refine holds_law law_said fun said => ?_))
local macro_rules | `(tactic| o_head $H) => `(tactic| (refine holds_open (q := Mine.view) (loose := [Str.ofString "BasicError"]) (Xt := fun s => xlAt Mine.view [] s && recOk (RowW.records (OpenRow.toRowW (OpenLaw.row PySem.Challenge.rw_xm0026_01))) s) (XP := XL Mine.view []) (Yf := Hook.obs $H) (Ya := Hook.val $H) (YP := Hook.says $H) (N := 1660) ?hl (Hook.of $H) (Hook.keeps $H) (fun s e => xl_of s (Bool.and_eq_true_iff.mp e).1) XL.keeps (by rfl) (by rfl) (by rfl) (fun s e => recFacts_of (Bool.and_eq_true_iff.mp e).2) (by rfl) (by first | assumption | decide +kernel) (by decide +kernel) ⟨rfl, rfl, rfl, rfl, rfl, by decide +kernel⟩ ?hw ?hc; (case hl => intro w; unfold openEnds fencedOpening topFrom; rw [PySem.W.Fast.te10274390034422433532, PySem.W.Fast.te14082659384304107361, PySem.W.Fast.te14364793385576792824, PySem.W.Fast.te1435165496053646825, PySem.W.Fast.te14289696077712309145, PySem.W.Fast.te8920871248978507458, PySem.W.Fast.te4187177175401517315]; kernel_rfl)))
open_top hd for PySem.Challenge.rw_xm0026_01
end Mine

namespace Mine

section
open PySem PySem.W PyProof.Rows PySem.Calls
set_option Elab.async false
set_option maxRecDepth 100000
set_option maxHeartbeats 0
abbrev up (m : Str → Option Value) (x : Str) (v : Value) : Str → Option Value := fun y => if y = x then some v else m y
theorem upd_self {m₀ : Str → Option Value} {x : Str} {v : Value} (h : m₀ x = some v) : m₀ = fun y => if y = x then some v else m₀ y := by
  funext y; by_cases e : y = x
  · rw [if_pos e, e, h]
  · rw [if_neg e]
theorem upd_upd {m₀ : Str → Option Value} {x : Str} {a b : Option Value} : (fun y => if y = x then a else (fun y => if y = x then b else m₀ y) y) = fun y => if y = x then a else m₀ y := by
  funext y; by_cases e : y = x
  · rw [if_pos e, if_pos e]
  · rw [if_neg e, if_neg e]; exact if_neg e
section
variable {prog : Program} {w : World} {A : Around} {env : Env} {E : Value → Shared → Prop} {s : Shared} {h₀ : Heap} {L : Addr} {news : List (Addr × Obj)}
/-- what a turn leaves behind -/
def Turned {σ : Type} (mk : σ → Value) (μ : σ → Nat) (P : σ → Prop) (m₀ : Str → Option Value) (x : Str) (h₀ : Heap) (L : Addr) (news : List (Addr × Obj)) (s : Shared) (Q : Flow → Shared → Prop) (n : Nat) (f : Flow) (s₃ : Shared) : Prop := match f with
  | .next | .cont => ∃ c' h' tk' m', s₃ = { s with heap := h', toks := tk' } ∧ μ c' < n ∧ P c' ∧ m' = (fun y => if y = x then some (mk c') else m₀ y) ∧ Fr h₀ L h' m' ∧ News h₀ L h' news
  | .brk => Q .next s₃
  | .ret v => Q (.ret v) s₃
theorem while_one {σ : Type} {test : Expr} {body : List Stmt} {pos : Pos} {Q : Flow → Shared → Prop} (x : Str) (mk : σ → Value) (μ : σ → Nat) (P : σ → Prop) (c₀ : σ) {m₀ : Str → Option Value}
    (F : Fr h₀ L s.heap m₀) (N : News h₀ L s.heap news) (e0 : m₀ x = some (mk c₀)) (p0 : P c₀)
    (turn : ∀ c h tk, P c → Fr h₀ L h (fun y => if y = x then some (mk c) else m₀ y) → News h₀ L h news →
      wpAny (model prog w) A (isTrue test env (eval test env)) (fun b s₂ => if b = true then wpAny (model prog w) A (execs body env) (Turned mk μ P m₀ x h₀ L news s Q (μ c)) (fun _ _ => False) s₂ else Q .next s₂) (fun _ _ => False) { s with heap := h, toks := tk }) :
    wpAny (model prog w) A (exec (.While test body [] pos) env) Q E s := by
  refine wpAny_mono (E := fun _ _ => False) ?_ (fun _ _ h => h) (fun _ _ h => h.elim)
  refine While_inv2 (n₀ := μ c₀) (fun n m₁ news₁ => ∃ c, m₁ = (fun y => if y = x then some (mk c) else m₀ y) ∧ P c ∧ n = μ c ∧ news₁ = news) F N ⟨c₀, upd_self e0, p0, rfl, rfl⟩ ?_ PassesOwn.never
  rintro n m₁ news₁ h₁ tk₁ F₁ N₁ ⟨c, rfl, pc, rfl, rfl⟩
  refine wpAny_mono (turn c h₁ tk₁ pc F₁ N₁) (fun b s₂ q => ?_) fun _ _ h => h
  cases b with
  | false => simpa using q
  | true =>
    simp only [if_true] at q ⊢
    refine wpAny_mono q (fun f s₃ r => ?_) fun _ _ h => h
    cases f with
    | next => obtain ⟨c', h', tk', m', e, lt, pc', em, F', N'⟩ := r; exact ⟨h', tk', m', _, μ c', e, F', N', lt, c', em, pc', rfl, rfl⟩
    | cont => obtain ⟨c', h', tk', m', e, lt, pc', em, F', N'⟩ := r; exact ⟨h', tk', m', _, μ c', e, F', N', lt, c', em, pc', rfl, rfl⟩
    | brk => exact r
    | ret v => exact r
end
theorem up_self {m₀ : Str → Option Value} {x : Str} {v : Value} (h : m₀ x = some v) : m₀ = up m₀ x v := upd_self h
theorem up_up {m₀ : Str → Option Value} {x : Str} {a b : Value} : up (up m₀ x b) x a = up m₀ x a := upd_upd
def Hold (P : Prop) : Prop := P
theorem hold {P : Prop} (h : Hold P) : P := h
end

section
open PySem PySem.W PyProof.Rows PySem.Calls
set_option Elab.async false
set_option maxRecDepth 100000
set_option maxHeartbeats 0
set_option linter.unusedVariables false
theorem fresh_F1 : True := by w_top off; trivial
def fig (c : Nat) : Bool := decide (48 ≤ c) && decide (c ≤ 57)
def blk (c : Nat) : Bool := c == 32
/-- where the run of p's that begins at i ends -/
def ends (p : Nat → Bool) (l : List Nat) (i : Nat) : Nat := i + ((l.drop i).takeWhile p).length
theorem ends_step {p : Nat → Bool} {l : List Nat} {i : Nat} (h : i < l.length) (hp : p (l.getD i 0) = true) : ends p l (i + 1) = ends p l i := by
  unfold ends
  rw [List.drop_eq_getElem_cons h, List.takeWhile_cons, if_pos (by simpa [List.getD, h] using hp), List.length_cons]; omega
theorem ends_stop {p : Nat → Bool} {l : List Nat} {i : Nat} (h : i < l.length) (hp : p (l.getD i 0) = false) : ends p l i = i := by
  unfold ends
  rw [List.drop_eq_getElem_cons h, List.takeWhile_cons, if_neg (by simpa [List.getD, h] using hp)]; rfl
theorem ends_over {p : Nat → Bool} {l : List Nat} {i : Nat} (h : l.length ≤ i) : ends p l i = i := by
  unfold ends
  rw [List.drop_eq_nil_of_le h]; rfl
theorem figures_cps : (Str.ofString "0123456789").cps.toList = [48, 49, 50, 51, 52, 53, 54, 55, 56, 57] := by decide +kernel
theorem mem_figures (c : Nat) : decide (c ∈ (Str.ofString "0123456789").cps.toList) = fig c := by
  rw [figures_cps, Bool.eq_iff_iff]
  unfold fig
  simp only [List.mem_cons, List.not_mem_nil, or_false, decide_eq_true_eq, Bool.and_eq_true]
  omega
theorem item_cps (x : Str) {i : Int} (h0 : 0 ≤ i) (h1 : i < x.length) : Txt.item x i = ⟨#[x.cps.toList.getD i.toNat 0]⟩ := by
  have e : seqIndex? i x.length = some i.toNat := by unfold seqIndex?; simp [h0, h1, show ¬ i < 0 by omega]
  unfold Txt.item Txt.charAt
  rw [e]
  simp [List.getD]
theorem isfig {x : Str} {i : Int} {b : Bool} (h0 : 0 ≤ i) (h1 : i < x.length) (h : (Builtin.Str.occurrences (Str.ofString "0123456789") (Txt.item x i) 0 (Str.ofString "0123456789").length 1).isEmpty = b) : fig (x.cps.toList.getD i.toNat 0) = !b := by
  rw [item_cps x h0 h1] at h
  rw [← h, StrLaws.found_one, mem_figures]

theorem figures_end_spec (w : World) {mean : ExcName → Option Value} {mg mb : Str → Option Value} {dp un : Nat} {gd : Option (List Code)} {cn : Str} {cs : Scope} {a : Addr} {ccd : Value} {cl : List (Str × Addr)} {outer : List Env} {A₀ : Around} {base h₀ : Heap} {L : Addr} {m : Str → Option Value} {s : Shared} {Q E : Value → Shared → Prop} {news : List (Addr × Obj)} {x : Str} {t : Tok} {k : Int} {t2 : Tok} (B : Below A₀ base outer h₀) (F : Fr h₀ L s.heap m) (X : (Mine.hd.heap_1 w.params).In h₀) (N : News h₀ L s.heap news) (T : Top Mine.view (looseW Mine.view [Str.ofString "BasicError"]) mean mg mb h₀) (hk : cs.kind = .function)
  (hp : 0 ≤ k ∧ k ≤ x.length) (hx : x.length ≤ 1000) (hd : dp + 1 < recursionLimit) (hu : un + 8 < cLine)
  (hret : ∀ (t : Tok) (h' : Heap) (tk' : Nat), Fr h₀ L h' m → News h₀ L h' news → Q (.int (ends fig x.cps.toList k.toNat) t) { s with heap := h', toks := tk' }) :
  wpAny (model PySem.Challenge.rw_xm0026_01.row.prog w) (ktrTop dp un gd cn cs L a ccd cl outer) (call (.ref 44) [.str x t, .int k t2]) Q E s := by
  revert X; k_fill; intro X
  refine wpAny_call ?_
  k_dflt cell_enter
  rename_i g' L' h' FG' F' N' B' X' T'
  have hlen : x.cps.toList.length = x.length := rfl
  refine wpAny_execs_cons ?_
  refine while_one (σ := Int × Tok) "at" (fun c => .int c.1 c.2) (fun c => (x.length - c.1).toNat) (fun c => 0 ≤ c.1 ∧ c.1 ≤ x.length ∧ ends fig x.cps.toList c.1.toNat = ends fig x.cps.toList k.toNat) (k, t2) F' N' (by rfl) ⟨hp.1, hp.2, rfl⟩ ?_
  rintro ⟨i, u⟩ h₁ tk₁ ⟨i0, i1, ie⟩ F₁ N₁
  dsimp only at i0 i1 ie F₁ N₁ ⊢
  k_steps
  · rename List.isEmpty _ = true => h2
    rename i < _ => h1
    rename Fr h₀ L _ m => kF
    rename News h₀ L _ news => kN
    have q := isfig i0 h1 h2
    have e := ends_stop (by omega) q
    rw [show i = ((ends fig x.cps.toList k.toNat : Nat) : Int) by omega]
    exact hret u _ _ kF kN
  · rename List.isEmpty _ = false => h2
    rename i < _ => h1
    rename Fr g' L' _ _ => F₂
    rename News g' L' _ _ => N₂
    have q := isfig i0 h1 h2
    have e := ends_step (by omega) q
    have e2 : (i + 1).toNat = i.toNat + 1 := by omega
    refine ⟨(i + 1, _), _, _, _, rfl, ?_, ⟨?_, ?_, ?_⟩, upd_upd, F₂, N₂⟩ <;> dsimp only
    · omega
    · omega
    · omega
    · rw [e2, e, ie]
  · rename ¬ i < _ => h1
    rename Fr h₀ L _ m => kF
    rename News h₀ L _ news => kN
    have e := ends_over (p := fig) (l := x.cps.toList) (i := i.toNat) (by omega)
    rw [show i = ((ends fig x.cps.toList k.toNat : Nat) : Int) by omega]
    exact hret u _ _ kF kN
end

section
open PySem PySem.W PyProof.Rows PySem.Calls
set_option Elab.async false
set_option maxRecDepth 100000
set_option maxHeartbeats 0
set_option linter.unusedVariables false
theorem fresh_F2 : True := by w_top off; trivial
local macro_rules | `(tactic| walk_at "idle0") => `(tactic| skip)
theorem isblk {x : Str} {i : Int} {b : Bool} (h0 : 0 ≤ i) (h1 : i < x.length) (h : (Txt.item x i == Str.ofString " ") = b) : blk (x.cps.toList.getD i.toNat 0) = b := by
  rw [item_cps x h0 h1] at h
  rw [← h]
  have e : Str.ofString " " = ⟨#[32]⟩ := by decide +kernel
  rw [e, Bool.eq_iff_iff]
  simp [blk]
theorem blanks_end_spec (w : World) {mean : ExcName → Option Value} {mg mb : Str → Option Value} {dp un : Nat} {gd : Option (List Code)} {cn : Str} {cs : Scope} {a : Addr} {ccd : Value} {cl : List (Str × Addr)} {outer : List Env} {A₀ : Around} {base h₀ : Heap} {L : Addr} {m : Str → Option Value} {s : Shared} {Q E : Value → Shared → Prop} {news : List (Addr × Obj)} {x : Str} {t : Tok} {k : Int} {t2 : Tok} (B : Below A₀ base outer h₀) (F : Fr h₀ L s.heap m) (X : (Mine.hd.heap_1 w.params).In h₀) (N : News h₀ L s.heap news) (T : Top Mine.view (looseW Mine.view [Str.ofString "BasicError"]) mean mg mb h₀) (hk : cs.kind = .function)
  (hp : 0 ≤ k ∧ k ≤ x.length) (hx : x.length ≤ 1000) (hd : dp + 1 < recursionLimit) (hu : un + 8 < cLine)
  (hret : ∀ (t : Tok) (h' : Heap) (tk' : Nat), Fr h₀ L h' m → News h₀ L h' news → Q (.int (ends blk x.cps.toList k.toNat) t) { s with heap := h', toks := tk' }) :
  wpAny (model PySem.Challenge.rw_xm0026_01.row.prog w) (ktrTop dp un gd cn cs L a ccd cl outer) (call (.ref 51) [.str x t, .int k t2]) Q E s := by
  revert X; k_fill; intro X
  refine wpAny_call ?_
  k_dflt cell_enter
  rename_i g' L' h' FG' F' N' B' X' T'
  have hlen : x.cps.toList.length = x.length := rfl
  refine wpAny_execs_cons ?_
  refine while_one (σ := Int × Tok) "at" (fun c => .int c.1 c.2) (fun c => (x.length - c.1).toNat) (fun c => 0 ≤ c.1 ∧ c.1 ≤ x.length ∧ ends blk x.cps.toList c.1.toNat = ends blk x.cps.toList k.toNat) (k, t2) F' N' (by rfl) ⟨hp.1, hp.2, rfl⟩ ?_
  rintro ⟨i, u⟩ h₁ tk₁ ⟨i0, i1, ie⟩ F₁ N₁
  dsimp only at i0 i1 ie F₁ N₁ ⊢
  k_steps
  · rename (_ == _) = true => h2
    rename i < _ => h1
    rename Fr g' L' _ _ => F₂
    rename News g' L' _ _ => N₂
    have q := isblk i0 h1 h2
    have e := ends_step (by omega) q
    have e2 : (i + 1).toNat = i.toNat + 1 := by omega
    refine ⟨(i + 1, _), _, _, _, rfl, ?_, ⟨?_, ?_, ?_⟩, upd_upd, F₂, N₂⟩ <;> dsimp only
    · omega
    · omega
    · omega
    · rw [e2, e, ie]
  · rename (_ == _) = false => h2
    rename i < _ => h1
    rename Fr h₀ L _ m => kF
    rename News h₀ L _ news => kN
    have q := isblk i0 h1 h2
    have e := ends_stop (by omega) q
    rw [show i = ((ends blk x.cps.toList k.toNat : Nat) : Int) by omega]
    exact hret u _ _ kF kN
  · rename ¬ i < _ => h1
    rename Fr h₀ L _ m => kF
    rename News h₀ L _ news => kN
    have e := ends_over (p := blk) (l := x.cps.toList) (i := i.toNat) (by omega)
    rw [show i = ((ends blk x.cps.toList k.toNat : Nat) : Int) by omega]
    exact hret u _ _ kF kN
end

section
open PySem PySem.W PyProof.Rows PySem.Calls
set_option Elab.async false
set_option maxRecDepth 100000
set_option maxHeartbeats 0
set_option linter.unusedVariables false
section
variable {prog : Program} {w : World} {A : Around} {env : Env} {E : Value → Shared → Prop} {s : Shared} {h₀ : Heap} {L : Addr}
abbrev Led := List (Addr × Obj)
/-- what a turn of a for leaves behind -/
def ForPost (h₀ : Heap) (L : Addr) (s : Shared) (J : (Str → Option Value) → Led → Prop) (I : Addr) (io : Obj) (Q : Flow → Shared → Prop) (f : Flow) (s₃ : Shared) : Prop := match f with
  | .next | .cont => ∃ h' tk' m' led', s₃ = { s with heap := h', toks := tk' } ∧ Fr h₀ L h' m' ∧ News h₀ L h' ((I, io) :: led') ∧ (∀ p ∈ led', p.1 ≠ I) ∧ J m' led'
  | .brk => Q .next s₃
  | .ret v => Q (.ret v) s₃
theorem ForPost.mk {s : Shared} {J : (Str → Option Value) → Led → Prop} {I : Addr} {io : Obj} {Q : Flow → Shared → Prop} {h' : Heap} {tk' : Tok} {m' : Str → Option Value} {led' : Led} (F : Fr h₀ L h' m') (N : News h₀ L h' ((I, io) :: led')) (ne : ∀ p ∈ led', p.1 ≠ I) (j : J m' led') :
    ForPost h₀ L s J I io Q .next { s with heap := h', toks := tk' } := ⟨_, _, _, _, rfl, F, N, ne, j⟩
theorem owned_none {target : Expr} {I : Addr} {v : Value} {io : Obj} {l : Addr} {i : Int} {M : Model} {Q : Unit → Shared → Prop} (ho : s.heap.get? I = some io) (hc : io.cls = .type "list_iterator") (hd : io.data = .fields #[.ref l, .int i 0]) (h : Q () s) :
    wpAny M A (letOwnedTupleGo target (.ref I) v) Q E s := by
  unfold letOwnedTupleGo
  split
  · cases v with
    | ref a =>
      refine wpAny_bind (wpAny_load ho ?_)
      rw [hc, hd]
      have e : ["enumerate", "zip", "dict_itemiterator", "dict_reverseitemiterator", "odict_iterator", "itertools.zip_longest", "itertools.pairwise"].contains "list_iterator" = false := by decide +kernel
      dsimp only
      rw [e]
      exact wpAny_pure h
    | _ => exact wpAny_pure h
  · cases v with
    | ref a =>
      refine wpAny_bind (wpAny_load ho ?_)
      rw [hc, hd]
      have e : ["enumerate", "zip", "dict_itemiterator", "dict_reverseitemiterator", "odict_iterator", "itertools.zip_longest", "itertools.pairwise"].contains "list_iterator" = false := by decide +kernel
      dsimp only
      rw [e]
      exact wpAny_pure h
    | _ => exact wpAny_pure h
  · exact wpAny_pure h
theorem for_led {target iter : Expr} {body : List Stmt} {pos : Pos} {Q : Flow → Shared → Prop} {l : Addr} {vs : List Value} {lo : Obj} {n : Nat} (hlc : lo.cls = .type "list") (hld : lo.data = .seq vs.toArray n)
    (J : Nat → (Str → Option Value) → Led → Prop)
    (hev : wpAny (model prog w) A (eval iter env) (fun v s₁ => v = .ref l ∧ ∃ h tk m led, s₁ = { s with heap := h, toks := tk } ∧ Fr h₀ L h m ∧ News h₀ L h led ∧ J 0 m led) (fun _ _ => False) s)
    (hmem : ∀ i m led, J i m led → (l, lo) ∈ led)
    (turn : ∀ i v m₁ led₁ I io h tk, vs[i]? = some v → J i m₁ led₁ → (∀ p ∈ led₁, p.1 ≠ I) → Fr h₀ L h m₁ → News h₀ L h ((I, io) :: led₁) → ∀ PP : Flow → Shared → Prop, (∀ f s₃, ForPost h₀ L s (J (i + 1)) I io Q f s₃ → PP f s₃) →
      wpAny (model prog w) A (assign target env v) (fun _ s₂ => wpAny (model prog w) A (execs body env) PP (fun _ _ => False) s₂) (fun _ _ => False) { s with heap := h, toks := tk })
    (done : ∀ h tk m led, J vs.length m led → Fr h₀ L h m → News h₀ L h led → Q .next { s with heap := h, toks := tk })
    (hh : A.handled = none := by rfl) (hs : ∀ x, foldedSetIterable iter env x = pure x := by intro _; rfl) :
    wpAny (model prog w) A (exec (.For target iter body [] pos) env) Q E s := by
  refine wpAny_For (wpAny_mono hev (fun v s₁ q => ?_) fun _ _ h => h.elim) hs
  obtain ⟨rfl, h1, tk1, m1, led1, rfl, F1, N1, j1⟩ := q
  have hl1 := (N1 _ (hmem _ _ _ j1)).1
  refine wpAny_pyIter_list ⟨lo, hl1, hlc, n, hld⟩ ?_
  refine codeAny_forLoop_any (fun k s' => ∃ i h tk m led io, s' = { s with heap := h, toks := tk } ∧ k = vs.length + 1 - i ∧ i ≤ vs.length ∧ Fr h₀ L h m ∧ News h₀ L h ((h1.objs.size, io) :: led) ∧ (∀ p ∈ led, p.1 ≠ h1.objs.size) ∧ J i m led ∧ io.cls = .type "list_iterator" ∧ io.data = .fields #[.ref l, .int (i : Nat) 0]) ?_ (vs.length + 1) ⟨0, _, tk1, m1, led1, _, rfl, rfl, Nat.zero_le _, F1.push _, N1.push F1 _, fun p hp => Nat.ne_of_lt (Heap.lt_size (N1 p hp).1), j1, rfl, rfl⟩
  rintro k s' ⟨i, h, tk, m, led, io, rfl, rfl, hi, F, N, ne, j, ic, id⟩
  have hI := N _ (.head _)
  have hl := (N _ (.tail _ (hmem _ _ _ j))).1
  by_cases hlt : i < vs.length
  · refine wpAny_pyNext_list_item (it := h1.objs.size) (l := l) (i := i) (items := vs.toArray) (x := vs[i]) ⟨io, hI.1, ic, id⟩ ⟨lo, hl, hlc, n, hld⟩ (by simp [hlt]) fun h' hit hsb => ?_
    obtain ⟨io', ho', ic', id'⟩ := hit
    have F' : Fr h₀ L h' m := F.change hsb hI.2.1 hI.2.2
    have N' : News h₀ L h' ((h1.objs.size, io') :: led) := News.setIn (own := []) N (fun _ h => nomatch h) ne hsb ho'
    refine owned_none ho' ic' id' ?_
    refine wpAny_mono (turn i vs[i] m led h1.objs.size io' h' tk (by simp [hlt]) j ne F' N' _ (fun _ _ q => q)) (fun _ s₂ q => ?_) fun _ _ h => h.elim
    refine wpAny_mono q (fun f s₃ r => ?_) fun _ _ h => h.elim
    cases f with
    | next =>
      obtain ⟨h'', tk', m', led', e, F2, N2, ne2, j2⟩ := r
      exact ⟨_, by omega, i + 1, h'', tk', m', led', io', e, rfl, hlt, F2, N2, ne2, j2, ic', id'⟩
    | cont =>
      obtain ⟨h'', tk', m', led', e, F2, N2, ne2, j2⟩ := r
      exact ⟨_, by omega, i + 1, h'', tk', m', led', io', e, rfl, hlt, F2, N2, ne2, j2, ic', id'⟩
    | brk => exact r
    | ret v => exact r
  · obtain rfl : i = vs.length := by omega
    refine wpAny_pyNext_list_end (it := h1.objs.size) (l := l) (i := vs.length) (items := vs.toArray) hh ⟨io, hI.1, ic, id⟩ ⟨lo, hl, hlc, n, hld⟩ (by simp) fun h' hsb => ?_
    have keep : ∀ b o, b ≠ h1.objs.size → h.get? b = some o → h'.get? b = some o := fun b o hb e => hsb b o hb e
    have F' : Fr h₀ L h' m := by
      obtain ⟨oL, es, ep, hL, r⟩ := F.ns
      exact ⟨⟨oL, es, ep, keep _ _ (Ne.symm hI.2.1) hL, r⟩, fun b o e => keep _ _ (by rintro rfl; rw [hI.2.2] at e; cases e) (F.keep b o e), F.above⟩
    have N' : News h₀ L h' led := fun p hp => ⟨keep _ _ (ne p hp) (N p (.tail _ hp)).1, (N p (.tail _ hp)).2⟩
    exact wpAny_execs_nil (done h' tk m led j F' N')
/-- the same over a source that is a name -/
theorem for_name {target iter : Expr} {body : List Stmt} {pos : Pos} {Q : Flow → Shared → Prop} {l : Addr} {vs : List Value} {lo : Obj} {n : Nat} (hlc : lo.cls = .type "list") (hld : lo.data = .seq vs.toArray n)
    (J : Nat → (Str → Option Value) → Led → Prop) {m0 : Str → Option Value} {led0 : Led}
    (F0 : Fr h₀ L s.heap m0) (N0 : News h₀ L s.heap led0) (j0 : J 0 m0 led0)
    (hmem : ∀ i m led, J i m led → (l, lo) ∈ led)
    (hev : wpAny (model prog w) A (eval iter env) (fun v s₁ => v = .ref l ∧ s₁ = s) (fun _ _ => False) s)
    (turn : ∀ i v m₁ led₁ I io h tk, vs[i]? = some v → J i m₁ led₁ → (∀ p ∈ led₁, p.1 ≠ I) → Fr h₀ L h m₁ → News h₀ L h ((I, io) :: led₁) → ∀ PP : Flow → Shared → Prop, (∀ f s₃, ForPost h₀ L s (J (i + 1)) I io Q f s₃ → PP f s₃) →
      wpAny (model prog w) A (assign target env v) (fun _ s₂ => wpAny (model prog w) A (execs body env) PP (fun _ _ => False) s₂) (fun _ _ => False) { s with heap := h, toks := tk })
    (done : ∀ h tk m led, J vs.length m led → Fr h₀ L h m → News h₀ L h led → Q .next { s with heap := h, toks := tk })
    (hh : A.handled = none := by rfl) (hs : ∀ x, foldedSetIterable iter env x = pure x := by intro _; rfl) :
    wpAny (model prog w) A (exec (.For target iter body [] pos) env) Q E s :=
  for_led hlc hld J (wpAny_mono hev (fun v s₁ q => ⟨q.1, s.heap, s.toks, m0, led0, q.2, F0, N0, j0⟩) fun _ _ h => h) hmem turn done hh hs
end
end

section
open PySem PySem.W PyProof.Rows PySem.Calls
set_option Elab.async false
set_option maxRecDepth 100000
set_option maxHeartbeats 0
set_option linter.unusedVariables false
abbrev upo (m : Str → Option Value) (x : Str) (v : Option Value) : Str → Option Value := fun y => if y = x then v else m y
theorem upo_self {m₀ : Str → Option Value} {x : Str} : m₀ = upo m₀ x (m₀ x) := by
  funext y; by_cases e : y = x
  · rw [e]; exact (if_pos rfl).symm
  · exact (if_neg e).symm
theorem upo_upo {m : Str → Option Value} {x : Str} {u v : Option Value} : (fun y => if y = x then v else upo m x u y) = upo m x v := by
  funext y; by_cases e : y = x
  · simp [upo, e]
  · simp [upo, e]
inductive StrsAre : List Value → List Str → Prop
  | nil : StrsAre [] []
  | cons (x : Str) (t : Tok) {vs xs} : StrsAre vs xs → StrsAre (.str x t :: vs) (x :: xs)
theorem StrsAre.length {vs xs} (h : StrsAre vs xs) : vs.length = xs.length := by
  induction h with
  | nil => rfl
  | cons _ _ _ ih => simp [ih]
end

section
open PySem PySem.W PyProof.Rows PySem.Calls
set_option Elab.async false
set_option maxRecDepth 100000
set_option maxHeartbeats 0
set_option linter.unusedVariables false
section
variable {prog : Program} {w : World} {A : Around} {env : Env} {E : Value → Shared → Prop} {s : Shared} {h₀ : Heap} {L : Addr}
theorem for_str {tx : Str} {px : Pos} {iter : Expr} {body : List Stmt} {pos : Pos} {Q : Flow → Shared → Prop} {x : Str} {t : Tok} (ha : x.cps.all (· < 128) = true)
    (J : Nat → (Str → Option Value) → Led → Prop)
    (hev : wpAny (model prog w) A (eval iter env) (fun v s₁ => v = .str x t ∧ ∃ h tk m led, s₁ = { s with heap := h, toks := tk } ∧ Fr h₀ L h m ∧ News h₀ L h led ∧ J 0 m led) (fun _ _ => False) s)
    (turn : ∀ i c u m₁ led₁ I io h tk, x.cps[i]? = some c → J i m₁ led₁ → (∀ p ∈ led₁, p.1 ≠ I) → Fr h₀ L h m₁ → News h₀ L h ((I, io) :: led₁) → ∀ PP : Flow → Shared → Prop, (∀ f s₃, ForPost h₀ L s (J (i + 1)) I io Q f s₃ → PP f s₃) →
      wpAny (model prog w) A (assign (.Name tx px) env (.str ⟨#[c]⟩ u)) (fun _ s₂ => wpAny (model prog w) A (execs body env) PP (fun _ _ => False) s₂) (fun _ _ => False) { s with heap := h, toks := tk })
    (done : ∀ h tk m led, J x.cps.size m led → Fr h₀ L h m → News h₀ L h led → Q .next { s with heap := h, toks := tk })
    (hh : A.handled = none := by rfl) (hs : ∀ x, foldedSetIterable iter env x = pure x := by intro _; rfl) :
    wpAny (model prog w) A (exec (.For (.Name tx px) iter body [] pos) env) Q E s := by
  refine wpAny_For (wpAny_mono hev (fun v s₁ q => ?_) fun _ _ h => h.elim) hs
  obtain ⟨rfl, h1, tk1, m1, led1, rfl, F1, N1, j1⟩ := q
  refine wpAny_pyIter_ascii ha ?_
  refine codeAny_forLoop (fun k s' => ∃ i h tk m led io, s' = { s with heap := h, toks := tk } ∧ k = x.cps.size + 1 - i ∧ i ≤ x.cps.size ∧ Fr h₀ L h m ∧ News h₀ L h ((h1.objs.size, io) :: led) ∧ (∀ p ∈ led, p.1 ≠ h1.objs.size) ∧ J i m led ∧ io.cls = .type "str_ascii_iterator" ∧ io.data = .fields #[.str x t, .int (i : Nat) 0]) ?_ (x.cps.size + 1) ⟨0, _, tk1, m1, led1, _, rfl, rfl, Nat.zero_le _, F1.push _, N1.push F1 _, fun p hp => Nat.ne_of_lt (Heap.lt_size (N1 p hp).1), j1, rfl, rfl⟩
  rintro k s' ⟨i, h, tk, m, led, io, rfl, rfl, hi, F, N, ne, j, ic, id⟩
  have hI := N _ (.head _)
  by_cases hlt : i < x.cps.size
  · refine wpAny_pyNext_ascii_item (it := h1.objs.size) (x := x) (t := t) (i := i) (c := x.cps[i]) ⟨io, hI.1, ic, id⟩ (by simp [hlt]) fun h' hit hsb => ?_
    obtain ⟨io', ho', ic', id'⟩ := hit
    have F' : Fr h₀ L h' m := F.change hsb hI.2.1 hI.2.2
    have N' : News h₀ L h' ((h1.objs.size, io') :: led) := News.setIn (own := []) N (fun _ h => nomatch h) ne hsb ho'
    refine wpAny_mono (turn i x.cps[i] _ m led h1.objs.size io' h' _ (by simp [hlt]) j ne F' N' _ (fun _ _ q => q)) (fun _ s₂ q => ?_) fun _ _ h => h.elim
    refine wpAny_mono q (fun f s₃ r => ?_) fun _ _ h => h.elim
    cases f with
    | next =>
      obtain ⟨h'', tk', m', led', e, F2, N2, ne2, j2⟩ := r
      exact ⟨_, by omega, i + 1, h'', tk', m', led', io', e, rfl, hlt, F2, N2, ne2, j2, ic', id'⟩
    | cont =>
      obtain ⟨h'', tk', m', led', e, F2, N2, ne2, j2⟩ := r
      exact ⟨_, by omega, i + 1, h'', tk', m', led', io', e, rfl, hlt, F2, N2, ne2, j2, ic', id'⟩
    | brk => exact r
    | ret v => exact r
  · obtain rfl : i = x.cps.size := by omega
    refine wpAny_pyNext_ascii_end (it := h1.objs.size) (x := x) (t := t) (i := x.cps.size) hh ⟨io, hI.1, ic, id⟩ (by simp) fun h' hsb => ?_
    have keep : ∀ b o, b ≠ h1.objs.size → h.get? b = some o → h'.get? b = some o := fun b o hb e => hsb b o hb e
    have F' : Fr h₀ L h' m := by
      obtain ⟨oL, es, ep, hL, r⟩ := F.ns
      exact ⟨⟨oL, es, ep, keep _ _ (Ne.symm hI.2.1) hL, r⟩, fun b o e => keep _ _ (by rintro rfl; rw [hI.2.2] at e; cases e) (F.keep b o e), F.above⟩
    have N' : News h₀ L h' led := fun p hp => ⟨keep _ _ (ne p hp) (N p (.tail _ hp)).1, (N p (.tail _ hp)).2⟩
    exact wpAny_execs_nil (done h' tk m led j F' N')
end
end

section
open PySem PySem.W PyProof.Rows PySem.Calls
set_option Elab.async false
set_option maxRecDepth 100000
set_option maxHeartbeats 0
set_option linter.unusedVariables false
theorem fresh_F3 : True := by w_top off; trivial
def told (l : List Nat) : Int := l.foldl (fun (f : Int) (c : Nat) => min (10 * f + ((c : Int) - 48)) 65530) 0
theorem told_snoc (l : List Nat) (c : Nat) : told (l ++ [c]) = min (10 * told l + ((c : Int) - 48)) 65530 := by simp [told]
theorem find_fig {c : Nat} (h : fig c = true) : Txt.find (Str.ofString "0123456789") ⟨#[c]⟩ = (c : Int) - 48 := by
  have k : ∀ j : Fin 10, Txt.find (Str.ofString "0123456789") ⟨#[48 + j.val]⟩ = (j.val : Int) := by decide +kernel
  simp only [fig, Bool.and_eq_true, decide_eq_true_eq] at h
  have := k ⟨c - 48, by omega⟩
  rw [show 48 + (c - 48) = c by omega] at this
  rw [this]; dsimp only; omega
theorem number_told_spec (w : World) {mean : ExcName → Option Value} {mg mb : Str → Option Value} {dp un : Nat} {gd : Option (List Code)} {cn : Str} {cs : Scope} {a : Addr} {ccd : Value} {cl : List (Str × Addr)} {outer : List Env} {A₀ : Around} {base h₀ : Heap} {L : Addr} {m : Str → Option Value} {s : Shared} {Q E : Value → Shared → Prop} {news : List (Addr × Obj)} {x : Str} {t : Tok} (B : Below A₀ base outer h₀) (F : Fr h₀ L s.heap m) (X : (Mine.hd.heap_1 w.params).In h₀) (N : News h₀ L s.heap news) (T : Top Mine.view (looseW Mine.view [Str.ofString "BasicError"]) mean mg mb h₀) (hk : cs.kind = .function)
  (ha : x.cps.all (· < 128) = true) (hf : ∀ c ∈ x.cps.toList, fig c = true) (hx : x.length ≤ 1000) (hd : dp + 1 < recursionLimit) (hu : un + 8 < cLine)
  (hret : ∀ (t : Tok) (h' : Heap) (tk' : Nat), Fr h₀ L h' m → News h₀ L h' news → Q (.int (told x.cps.toList) t) { s with heap := h', toks := tk' }) :
  wpAny (model PySem.Challenge.rw_xm0026_01.row.prog w) (ktrTop dp un gd cn cs L a ccd cl outer) (call (.ref 58) [.str x t]) Q E s := by
  revert X; k_fill; intro X
  refine wpAny_call ?_
  k_dflt cell_enter
  rename_i g' L' h' FG' F' N' B' X' T'
  refine wpAny_execs_cons ?_
  walk1
  walk1
  walk1
  rename Fr g' L' _ _ => F2
  rename News g' L' _ _ => N2
  refine wpAny_execs_cons ?_
  refine for_str (h₀ := g') (L := L') (x := x) (t := t) ha (fun i m led => led = news ∧ 0 ≤ told (x.cps.toList.take i) ∧ told (x.cps.toList.take i) ≤ 65530 ∧ ∃ (u : Tok) (m₂ : Str → Option Value), m = up m₂ "found" (.int (told (x.cps.toList.take i)) u)) ?_ ?_ ?_
  · walk1
    exact ⟨rfl, _, _, _, _, rfl, F2, N2, rfl, by simp [told], by simp [told], _, _, upd_self rfl⟩
  · intro i c u m₁ led₁ I io h tk hc hj ne F3 N3 PP hPP
    obtain ⟨rfl, b0, b1, u2, m₂, rfl⟩ := hj
    have hcf : fig c = true := hf c (List.mem_of_getElem? (by simpa using hc))
    have hs : x.cps.toList.take (i + 1) = x.cps.toList.take i ++ [c] := by
      rw [List.take_add_one, show x.cps.toList[i]? = some c by simpa using hc]; rfl
    rw [hs, told_snoc] at hPP
    generalize told (x.cps.toList.take i) = v at b0 b1 F3 hPP ⊢
    have hfd := find_fig hcf
    have hcb : 48 ≤ c ∧ c ≤ 57 := by simpa only [fig, Bool.and_eq_true, decide_eq_true_eq] using hcf
    k_steps
    · rename Fr g' L' _ _ => F4
      rename News g' L' _ _ => N4
      rw [hfd] at F4
      refine hPP _ _ ⟨_, _, _, _, rfl, F4, N4, ne, rfl, by omega, by omega, ?_⟩
      rw [show min (10 * v + ((c : Int) - 48)) 65530 = if 65529 + 1 < 10 * v + ((c : Int) - 48) then 65529 + 1 else 10 * v + ((c : Int) - 48) by split <;> omega]
      exact ⟨_, _, rfl⟩
  · rintro h tk m led ⟨rfl, b0, b1, u2, m₂, rfl⟩ F3 N3
    dsimp only
    k_steps
    rename Fr h₀ L _ m => kF
    rename News h₀ L _ _ => kN
    have e : x.cps.toList.take x.cps.size = x.cps.toList := by rw [List.take_of_length_le]; simp
    rw [e]
    exact hret _ _ _ kF kN
end

section
open PySem PySem.W PyProof.Rows PySem.Calls
set_option Elab.async false
set_option maxRecDepth 100000
set_option maxHeartbeats 0
set_option linter.unusedVariables false
theorem fresh_F4 : True := by w_top off; trivial
local macro_rules | `(tactic| walk_at "idle0") => `(tactic| skip)
theorem line_number_spec (w : World) {mean : ExcName → Option Value} {mg mb : Str → Option Value} {dp un : Nat} {gd : Option (List Code)} {cn : Str} {cs : Scope} {a : Addr} {ccd : Value} {cl : List (Str × Addr)} {outer : List Env} {A₀ : Around} {base h₀ : Heap} {L : Addr} {m : Str → Option Value} {s : Shared} {Q E : Value → Shared → Prop} {news : List (Addr × Obj)} {k : Int} {t : Tok} (B : Below A₀ base outer h₀) (F : Fr h₀ L s.heap m) (X : (Mine.hd.heap_1 w.params).In h₀) (N : News h₀ L s.heap news) (T : Top Mine.view (looseW Mine.view [Str.ofString "BasicError"]) mean mg mb h₀) (hk : cs.kind = .function)
  (hp : 0 ≤ k ∧ k ≤ 65529) (hd : dp + 1 < recursionLimit) (hu : un + 8 < cLine)
  (hret : ∀ (t : Tok) (h' : Heap) (tk' : Nat), Fr h₀ L h' m → News h₀ L h' news → Q (.int k t) { s with heap := h', toks := tk' }) :
  wpAny (model PySem.Challenge.rw_xm0026_01.row.prog w) (ktrTop dp un gd cn cs L a ccd cl outer) (call (.ref 65) [.int k t]) Q E s := by
  revert X; k_fill; intro X
  refine wpAny_call ?_
  k_dflt cell_enter
  k_steps
  rename Fr h₀ L _ m => kF
  rename News h₀ L _ _ => kN
  exact hret _ _ _ kF kN
theorem low_figs {x : Str} (h : ∀ c ∈ x.cps.toList, fig c = true) : x.cps.all (· < 128) = true := by
  rw [← Array.all_toList, List.all_eq_true]
  intro c hc
  have := h c hc
  simp only [fig, Bool.and_eq_true, decide_eq_true_eq] at this ⊢
  omega
theorem blanks_end_at (w : World) {mean : ExcName → Option Value} {mg mb : Str → Option Value} {dp un : Nat} {gd : Option (List Code)} {cn : Str} {cs : Scope} {a : Addr} {ccd : Value} {cl : List (Str × Addr)} {outer : List Env} {A₀ : Around} {base h₀ : Heap} {L : Addr} {m : Str → Option Value} {s : Shared} {Q E : Value → Shared → Prop} {news : List (Addr × Obj)} {x : Str} {t : Tok} {k j : Int} {t2 : Tok} (B : Below A₀ base outer h₀) (F : Fr h₀ L s.heap m) (X : (Mine.hd.heap_1 w.params).In h₀) (N : News h₀ L s.heap news) (T : Top Mine.view (looseW Mine.view [Str.ofString "BasicError"]) mean mg mb h₀) (hk : cs.kind = .function)
  (hp : 0 ≤ k ∧ k ≤ x.length) (hx : x.length ≤ 1000) (hd : dp + 1 < recursionLimit) (hu : un + 8 < cLine) (hj : ((ends blk x.cps.toList k.toNat : Nat) : Int) = j)
  (hret : ∀ (t : Tok) (h' : Heap) (tk' : Nat), Fr h₀ L h' m → News h₀ L h' news → Q (.int j t) { s with heap := h', toks := tk' }) :
  wpAny (model PySem.Challenge.rw_xm0026_01.row.prog w) (ktrTop dp un gd cn cs L a ccd cl outer) (call (.ref 51) [.str x t, .int k t2]) Q E s := blanks_end_spec w B F X N T hk hp hx hd hu (by rw [hj]; exact hret)
theorem figures_end_at (w : World) {mean : ExcName → Option Value} {mg mb : Str → Option Value} {dp un : Nat} {gd : Option (List Code)} {cn : Str} {cs : Scope} {a : Addr} {ccd : Value} {cl : List (Str × Addr)} {outer : List Env} {A₀ : Around} {base h₀ : Heap} {L : Addr} {m : Str → Option Value} {s : Shared} {Q E : Value → Shared → Prop} {news : List (Addr × Obj)} {x : Str} {t : Tok} {k j : Int} {t2 : Tok} (B : Below A₀ base outer h₀) (F : Fr h₀ L s.heap m) (X : (Mine.hd.heap_1 w.params).In h₀) (N : News h₀ L s.heap news) (T : Top Mine.view (looseW Mine.view [Str.ofString "BasicError"]) mean mg mb h₀) (hk : cs.kind = .function)
  (hp : 0 ≤ k ∧ k ≤ x.length) (hx : x.length ≤ 1000) (hd : dp + 1 < recursionLimit) (hu : un + 8 < cLine) (hj : ((ends fig x.cps.toList k.toNat : Nat) : Int) = j)
  (hret : ∀ (t : Tok) (h' : Heap) (tk' : Nat), Fr h₀ L h' m → News h₀ L h' news → Q (.int j t) { s with heap := h', toks := tk' }) :
  wpAny (model PySem.Challenge.rw_xm0026_01.row.prog w) (ktrTop dp un gd cn cs L a ccd cl outer) (call (.ref 44) [.str x t, .int k t2]) Q E s := figures_end_spec w B F X N T hk hp hx hd hu (by rw [hj]; exact hret)
theorem number_told_at (w : World) {mean : ExcName → Option Value} {mg mb : Str → Option Value} {dp un : Nat} {gd : Option (List Code)} {cn : Str} {cs : Scope} {a : Addr} {ccd : Value} {cl : List (Str × Addr)} {outer : List Env} {A₀ : Around} {base h₀ : Heap} {L : Addr} {m : Str → Option Value} {s : Shared} {Q E : Value → Shared → Prop} {news : List (Addr × Obj)} {x : Str} {t : Tok} {j : Int} (B : Below A₀ base outer h₀) (F : Fr h₀ L s.heap m) (X : (Mine.hd.heap_1 w.params).In h₀) (N : News h₀ L s.heap news) (T : Top Mine.view (looseW Mine.view [Str.ofString "BasicError"]) mean mg mb h₀) (hk : cs.kind = .function)
  (hf : ∀ c ∈ x.cps.toList, fig c = true) (hx : x.length ≤ 1000) (hd : dp + 1 < recursionLimit) (hu : un + 8 < cLine) (hj : told x.cps.toList = j)
  (hret : ∀ (t : Tok) (h' : Heap) (tk' : Nat), Fr h₀ L h' m → News h₀ L h' news → Q (.int j t) { s with heap := h', toks := tk' }) :
  wpAny (model PySem.Challenge.rw_xm0026_01.row.prog w) (ktrTop dp un gd cn cs L a ccd cl outer) (call (.ref 58) [.str x t]) Q E s := number_told_spec w B F X N T hk (low_figs hf) hf hx hd hu (by rw [hj]; exact hret)
local macro_rules | `(tactic| walk_at "call ref") => `(tactic| (k_here; (with_reducible show wpAny _ _ (call (Value.ref 51) _) _ _ _); k_dflt (refine' blanks_end_at _ ?B ?F ?X ?N ?T ?hk ?hp ?hx ?hd ?hu ?hj ?_; (case hj => assumption); (case B => k_asm); (case F => k_asm); (case X => k_asm); (case N => k_asm); (case T => k_asm); (case hk => exact rfl); (case hp => omega); (case hx => omega); (case hd => ktr_room); (case hu => ktr_units)); intro t9 h9 tk9 F9 N9; (try dsimp only)))
local macro_rules | `(tactic| walk_at "call ref") => `(tactic| (k_here; (with_reducible show wpAny _ _ (call (Value.ref 44) _) _ _ _); k_dflt (refine' figures_end_at _ ?B ?F ?X ?N ?T ?hk ?hp ?hx ?hd ?hu ?hj ?_; (case hj => assumption); (case B => k_asm); (case F => k_asm); (case X => k_asm); (case N => k_asm); (case T => k_asm); (case hk => exact rfl); (case hp => omega); (case hx => omega); (case hd => ktr_room); (case hu => ktr_units)); intro t9 h9 tk9 F9 N9; (try dsimp only)))
/-- a row that begins with two figures, its number and what stands behind -/
structure RowIs (x : Str) (n : Int) (rest : Str) : Prop where
  len : x.length ≤ 1000
  two : 2 ≤ x.length
  b : ends blk x.cps.toList 0 = 0
  e : ends fig x.cps.toList 0 = 2
  n0 : 0 ≤ n
  n1 : n ≤ 65529
  figs : ∀ c ∈ (Txt.slice x (some 0) (some 2)).cps.toList, fig c = true
  told : told (Txt.slice x (some 0) (some 2)).cps.toList = n
  rest : (if (Txt.slice x (some 2) (some 3) == Str.ofString " ") = true then Txt.slice x (some 3) none else Txt.slice x (some 2) none) = rest
local macro_rules | `(tactic| walk_at "call ref") => `(tactic| (k_here; (with_reducible show wpAny _ _ (call (Value.ref 58) _) _ _ _); k_dflt (refine' number_told_at _ ?B ?F ?X ?N ?T ?hk ?hf ?hx ?hd ?hu ?hj ?_; (case hj => assumption); (case B => k_asm); (case F => k_asm); (case X => k_asm); (case N => k_asm); (case T => k_asm); (case hk => exact rfl); (case hf => assumption); (case hx => omega); (case hd => ktr_room); (case hu => ktr_units)); intro t9 h9 tk9 F9 N9; (try dsimp only)))
local macro_rules | `(tactic| walk_at "call ref") => `(tactic| (k_here; (with_reducible show wpAny _ _ (call (Value.ref 65) _) _ _ _); k_dflt (refine' line_number_spec _ ?B ?F ?X ?N ?T ?hk ?hp ?hd ?hu ?_; (case B => k_asm); (case F => k_asm); (case X => k_asm); (case N => k_asm); (case T => k_asm); (case hk => exact rfl); (case hp => omega); (case hd => ktr_room); (case hu => ktr_units)); intro t9 h9 tk9 F9 N9; (try dsimp only)))
theorem parted_row_spec (w : World) {mean : ExcName → Option Value} {mg mb : Str → Option Value} {dp un : Nat} {gd : Option (List Code)} {cn : Str} {cs : Scope} {a : Addr} {ccd : Value} {cl : List (Str × Addr)} {outer : List Env} {A₀ : Around} {base h₀ : Heap} {L : Addr} {m : Str → Option Value} {s : Shared} {Q E : Value → Shared → Prop} {news : List (Addr × Obj)} {x : Str} {t : Tok} {n : Int} {rest : Str} (B : Below A₀ base outer h₀) (F : Fr h₀ L s.heap m) (X : (Mine.hd.heap_1 w.params).In h₀) (N : News h₀ L s.heap news) (T : Top Mine.view (looseW Mine.view [Str.ofString "BasicError"]) mean mg mb h₀) (hk : cs.kind = .function)
  (hr : RowIs x n rest) (hd : dp + 2 < recursionLimit) (hu : un + 16 < cLine)
  (hret : ∀ (q : Addr) (t1 t2 : Tok) (h' : Heap) (tk' : Nat), Fr h₀ L h' m → News h₀ L h' ((q, { cls := .type "tuple", data := .seq #[.int n t1, .str rest t2] }) :: news) → (∀ p ∈ news, p.1 < q) → Q (.ref q) { s with heap := h', toks := tk' }) :
  wpAny (model PySem.Challenge.rw_xm0026_01.row.prog w) (ktrTop dp un gd cn cs L a ccd cl outer) (call (.ref 72) [.str x t]) Q E s := by
  revert X; k_fill; intro X
  refine wpAny_call ?_
  k_dflt cell_enter
  obtain ⟨hx, h2, hb, he, n0, n1, hf, ht, hrest⟩ := hr
  have hb' : ((ends blk x.cps.toList 0 : Nat) : Int) = 0 := by rw [hb]; rfl
  have he' : ((ends fig x.cps.toList 0 : Nat) : Int) = 2 := by rw [he]; rfl
  k_steps
  · rename (_ == _) = true => hq
    rename Fr h₀ L _ m => kF
    rename News h₀ L _ _ => kN
    rw [show (2 : Int) + 1 = 3 from rfl] at hq
    rw [if_pos hq] at hrest
    subst hrest
    exact hret _ _ _ _ _ kF kN (by assumption)
  · rename (_ == _) = false => hq
    rename Fr h₀ L _ m => kF
    rename News h₀ L _ _ => kN
    rw [if_neg (by rw [show (3 : Int) = 2 + 1 from rfl, hq]; decide)] at hrest
    subst hrest
    exact hret _ _ _ _ _ kF kN (by assumption)
end

section
open PySem PySem.W PyProof.Rows PySem.Calls
set_option Elab.async false
set_option maxRecDepth 100000
set_option maxHeartbeats 0
set_option linter.unusedVariables false
section
variable {prog : Program} {w : World} {A : Around} {E : Value → Shared → Prop} {s : Shared} {h₀ : Heap} {L d : Addr} {m : Str → Option Value} {news : List (Addr × Obj)} {g : Obj → List (Addr × Obj)} {o : Obj} {kvs : List (Int × Value)}
theorem kpop {k : Int} {tk : Tok} {Q : Value → Shared → Prop} (F : Fr h₀ L s.heap m) (N : News h₀ L s.heap news) (U : UpdF d o news g) (hd : o.IsDictOf (PySem.intKind prog w) kvs) (hsz : kvs.length ≤ sizeLine) (hv : (valueAt kvs k).isSome = true)
    (h : ∀ v h' o', valueAt kvs k = some v → Fr h₀ L h' m → News h₀ L h' (g o') → o'.IsDictOf (PySem.intKind prog w) (without kvs k) → Q v { s with heap := h', toks := s.toks + 1 }) :
    wpAny (model prog w) A (call (.builtin "dict.pop") [.ref d, .int k tk]) Q E s := by
  obtain ⟨pre, post, rfl, hg, a, b⟩ := U.split
  obtain ⟨v, hv⟩ := Option.isSome_iff_exists.mp hv
  have hm := N (d, o) (List.mem_append_right _ (.head _))
  have hD : s.heap.DictOf (PySem.intKind prog w) d kvs := Heap.dictOf_iff.mpr ⟨o, hm.1, hd⟩
  refine call_meetsIn PySem.F.slot_dict_pop hD.typeIs PySem.F.entry_dict_pop (PySem.F.args_dict_pop_2 _ _) (meets_dict_pop_there (PySem.intKind prog w) d (intKind_is _ _ _ _) [] (.inl rfl) (by rfl)) ⟨kvs, v, hD, hsz, hv, fun h' hmm hs => ?_⟩
  obtain ⟨o', ho', hd'⟩ := Heap.dictOf_iff.mp hmm
  exact h v h' o' hv (F.change hs hm.2.1 hm.2.2) (hg o' ▸ N.setIn a b hs ho') hd'
theorem kin {k : Int} {tk : Tok} {Q : Value → Shared → Prop} (N : News h₀ L s.heap news) (hp : (d, o) ∈ news) (hd : o.IsDictOf (PySem.intKind prog w) kvs) (lo : (d == sysModules) = false)
    (h : Q (.bool (valueAt kvs k).isSome) { s with toks := s.toks + 1 }) : wpAny (model prog w) A (compareOp .In (.int k tk) (.ref d)) Q E s :=
  kda_in N hp hd lo (intKind_is _ _ _ _) _ rfl h
theorem kput {k : Int} {tk : Tok} {v : Value} {Q : Unit → Shared → Prop} (F : Fr h₀ L s.heap m) (N : News h₀ L s.heap news) (U : UpdF d o news g) (hd : o.IsDictOf (PySem.intKind prog w) kvs) (hsz : kvs.length ≤ sizeLine)
    (h : ∀ h' o', Fr h₀ L h' m → News h₀ L h' (g o') → o'.IsDictOf (PySem.intKind prog w) (stored kvs k v) → Q () { s with heap := h', toks := s.toks + 1 }) : wpAny (model prog w) A (setItem (.ref d) (.int k tk) v) Q E s :=
  kda_set F N U hd (intKind_is _ _ _ _) hsz h
end
end

section
open PySem PySem.W PyProof.Rows PySem.Calls
set_option Elab.async false
set_option maxRecDepth 100000
set_option maxHeartbeats 0
set_option linter.unusedVariables false
abbrev Prg := List (Int × Str)
inductive RepE : (Int × Value) → (Int × Str) → Prop
  | mk (k : Int) (x : Str) (t : Tok) : RepE (k, .str x t) (k, x)
inductive Rep : List (Int × Value) → Prg → Prop
  | nil : Rep [] []
  | cons {a b l p} : RepE a b → Rep l p → Rep (a :: l) (b :: p)
def has (P : Prg) (n : Int) : Bool := P.any fun p => decide (p.1 = n)
def put (P : Prg) (n : Int) (x : Str) : Prg := if has P n then P.map (fun p => if p.1 = n then (p.1, x) else p) else P ++ [(n, x)]
def del (P : Prg) (n : Int) : Prg := P.filter fun p => decide (p.1 ≠ n)
def get (P : Prg) (n : Int) : Option Str := (P.find? fun p => decide (p.1 = n)).map (·.2)
theorem Rep.length {l : List (Int × Value)} {P : Prg} (h : Rep l P) : l.length = P.length := by
  induction h with
  | nil => rfl
  | cons _ _ ih => simp [ih]
theorem Rep.keys {l : List (Int × Value)} {P : Prg} (h : Rep l P) : l.map (·.1) = P.map (·.1) := by
  induction h with
  | nil => rfl
  | cons e _ ih => cases e; simp [ih]
theorem Rep.append {l l' : List (Int × Value)} {P P' : Prg} (h : Rep l P) (h' : Rep l' P') : Rep (l ++ l') (P ++ P') := by
  induction h with
  | nil => exact h'
  | cons e _ ih => exact .cons e ih
theorem Rep.any {l : List (Int × Value)} {P : Prg} (h : Rep l P) (n : Int) : (l.any fun kv => decide (kv.1 = n)) = has P n := by
  induction h with
  | nil => rfl
  | cons e _ ih => cases e; simp only [has, List.any_cons] at ih ⊢; rw [ih]
theorem Rep.stored {l : List (Int × Value)} {P : Prg} (h : Rep l P) (n : Int) (x : Str) (t : Tok) : Rep (stored l n (.str x t)) (put P n x) := by
  unfold PySem.stored put
  have e := h.any n
  rw [e]
  by_cases q : has P n = true
  · rw [if_pos q, if_pos q]
    clear e q
    induction h with
    | nil => exact .nil
    | cons e _ ih =>
      cases e with
      | mk k y u =>
        simp only [List.map_cons]
        refine .cons ?_ ih
        by_cases z : k = n
        · simp only [z, if_true]; exact .mk _ _ _
        · simp only [z, if_false]; exact .mk _ _ _
  · rw [if_neg q, if_neg q]
    exact h.append (.cons (.mk _ _ _) .nil)
theorem Rep.without {l : List (Int × Value)} {P : Prg} (h : Rep l P) (n : Int) : Rep (without l n) (del P n) := by
  induction h with
  | nil => exact .nil
  | cons e _ ih =>
    cases e with
    | mk k y u =>
      unfold PySem.without del at ih ⊢
      simp only [List.filter_cons]
      by_cases z : k = n
      · simp only [z, ne_eq, not_true_eq_false, decide_false, Bool.false_eq_true, if_false]; exact ih
      · simp only [z, ne_eq, not_false_eq_true, decide_true, if_true]; exact .cons (.mk _ _ _) ih
theorem Rep.at {l : List (Int × Value)} {P : Prg} (h : Rep l P) (n : Int) : (∃ x t, valueAt l n = some (.str x t) ∧ get P n = some x ∧ has P n = true) ∨ (valueAt l n = none ∧ get P n = none ∧ has P n = false) := by
  induction h with
  | nil => exact .inr ⟨rfl, rfl, rfl⟩
  | cons e _ ih =>
    cases e with
    | mk k y u =>
      unfold valueAt get has at ih ⊢
      simp only [List.find?_cons, List.any_cons]
      by_cases z : k = n
      · simp only [z, decide_true, Option.map_some, Bool.true_or]; exact .inl ⟨_, _, rfl, rfl, trivial⟩
      · simp only [z, decide_false, Bool.false_or]; exact ih
theorem Rep.isSome {l : List (Int × Value)} {P : Prg} (h : Rep l P) (n : Int) : (valueAt l n).isSome = has P n := by
  rcases h.at n with ⟨x, t, e, _, q⟩ | ⟨e, _, q⟩ <;> rw [e, q] <;> rfl
theorem Rep.some {l : List (Int × Value)} {P : Prg} (h : Rep l P) {n : Int} {x : Str} (g : get P n = some x) : ∃ t, valueAt l n = some (.str x t) := by
  rcases h.at n with ⟨y, t, e, q, _⟩ | ⟨_, q, _⟩
  · rw [g] at q; cases q; exact ⟨t, e⟩
  · rw [g] at q; cases q
/-- the object is a dict of ints to texts that bears P -/
def DictIs (w : World) (o : Obj) (P : Prg) : Prop := ∃ kvs, o.IsDictOf (PySem.intKind PySem.Challenge.rw_xm0026_01.row.prog w) kvs ∧ Rep kvs P
theorem put_length (P : Prg) (n : Int) (x : Str) : (put P n x).length ≤ P.length + 1 := by
  unfold put; split <;> simp
theorem del_length (P : Prg) (n : Int) : (del P n).length ≤ P.length := List.length_filter_le _ _
end

section
open PySem PySem.W PyProof.Rows PySem.Calls
set_option Elab.async false
set_option maxRecDepth 100000
set_option maxHeartbeats 0
set_option linter.unusedVariables false
def ins (a : Int) : List Int → List Int
  | [] => [a]
  | b :: r => if a ≤ b then a :: b :: r else b :: ins a r
def sortI : List Int → List Int
  | [] => []
  | a :: r => ins a (sortI r)
theorem ins_perm (a : Int) : ∀ l, (ins a l).Perm (a :: l)
  | [] => .refl _
  | b :: r => by
    unfold ins
    split
    · exact .refl _
    · exact ((ins_perm a r).cons b).trans (.swap a b r)
theorem sortI_perm : ∀ l, (sortI l).Perm l
  | [] => .refl _
  | a :: r => (ins_perm a _).trans ((sortI_perm r).cons a)
theorem ins_pair (a : Int) : ∀ l, l.Pairwise (· ≤ ·) → (ins a l).Pairwise (· ≤ ·)
  | [], _ => by simp [ins]
  | b :: r, h => by
    have h1 := List.pairwise_cons.mp h
    unfold ins
    split
    · rename_i q
      refine List.pairwise_cons.mpr ⟨fun x hx => ?_, h⟩
      rcases List.mem_cons.mp hx with rfl | hx
      · exact q
      · exact Int.le_trans q (h1.1 x hx)
    · rename_i q
      refine List.pairwise_cons.mpr ⟨fun x hx => ?_, ins_pair a r h1.2⟩
      rcases List.mem_cons.mp ((ins_perm a r).mem_iff.mp hx) with rfl | hx
      · omega
      · exact h1.1 x hx
theorem sortI_pair : ∀ l, (sortI l).Pairwise (· ≤ ·)
  | [] => .nil
  | a :: r => ins_pair a _ (sortI_pair r)
theorem ints_of {K : Int → Value → Bool} (hK : ∀ k v, K k v = true → ∃ t, v = .int k t) : ∀ {vs : List Value} {ks : List Int}, vs.length = ks.length → (∀ (j : Nat) (v : Value), vs[j]? = some v → ∃ k, ks[j]? = some k ∧ K k v = true) → IntsAre vs ks
  | [], [], _, _ => .nil
  | v :: vs, k :: ks, hl, h => by
    obtain ⟨k', e, hk⟩ := h 0 v rfl
    cases e
    obtain ⟨t, rfl⟩ := hK _ _ hk
    exact .cons _ _ (ints_of hK (by simpa using hl) fun j v hv => h (j + 1) v hv)
section
variable {prog : Program} {w : World} {A : Around} {E : Value → Shared → Prop} {s : Shared} {h₀ : Heap} {L d : Addr} {m : Str → Option Value} {news : List (Addr × Obj)} {o : Obj} {kvs : List (Int × Value)}
theorem lsort {D : Addr} {vs : List Value} {ns : List Int} {n : Nat} {Q : Value → Shared → Prop} (F : Fr h₀ L s.heap m) (N : News h₀ L s.heap ((D, listOf vs.toArray n) :: news)) (hne : ∀ p ∈ news, p.1 ≠ D) (hi : IntsAre vs ns) (h64 : vs.length < 64)
    (h : ∀ (h' : Heap) (vs' : List Value) (e : Nat), Fr h₀ L h' m → News h₀ L h' ((D, listOf vs'.toArray e) :: news) → IntsAre vs' (sortI ns) → Q .none { s with heap := h' }) : wpAny (model prog w) A (call (.builtin "list.sort") [.ref D]) Q E s := by
  have z := N _ (.head _)
  refine wpAny_call_entry PyProof.Rows.slot_list_sort ⟨_, z.1, rfl⟩ PyProof.Rows.entry_list_sort (list_sort_tree (n := n) (vs := vs) z.1 hi h64 fun out ns' hI hp hP => ⟨.none, rfl, ?_⟩) (PyProof.Rows.args_list_sort _)
  have hns : ns' = sortI ns := PySem.W.lks_uniq (hp.trans (sortI_perm ns).symm) hP (sortI_pair ns)
  subst hns
  have F1 : Fr h₀ L (s.heap.update D (Obj.mapSeq fun _ => (#[] : Array Value))) m := F.change (Heap.SameBut.update ..) z.2.1 z.2.2
  have N1 := ki_turn (pre := []) (fun _ => (#[] : Array Value)) (its' := #[]) N (fun _ h => nomatch h) hne rfl rfl
  have N2 := News.grown N1 fun _ _ e => Heap.get?_push_of_some (seqObj "tuple" vs.toArray 0) e
  have N3 := News.grown N2 fun _ _ e => Heap.get?_push_of_some (seqObj "list" #[] 0) e
  have N4 := ki_turn (pre := []) (fun _ => out) (its' := out) N3 (fun _ h => nomatch h) hne rfl rfl
  have F4 : Fr h₀ L ((((s.heap.update D (Obj.mapSeq fun _ => (#[] : Array Value))).push (seqObj "tuple" vs.toArray 0)).push (seqObj "list" #[] 0)).update D (Obj.mapSeq fun _ => out)) m :=
    ((F1.push (seqObj "tuple" vs.toArray 0)).push (seqObj "list" #[] 0)).change (Heap.SameBut.update ..) z.2.1 z.2.2
  have := h _ out.toList _ F4 (by rw [Array.toArray_toList]; exact N4) hI
  exact this
theorem ksorted {Q : Value → Shared → Prop} (hh : A.handled = none) (F : Fr h₀ L s.heap m) (N : News h₀ L s.heap news) (hp : (d, o) ∈ news) (hd : o.IsDictOf (PySem.intKind prog w) kvs) (lo : (d == sysModules) = false) (h64 : kvs.length < 64)
    (h : ∀ (B : Addr) (h' : Heap) (tk : Nat) (vs : List Value) (e : Nat), Fr h₀ L h' m → News h₀ L h' ((B, listOf vs.toArray e) :: news) → (∀ q ∈ news, q.1 < B) → IntsAre vs (sortI (kvs.map (·.1))) → Q (.ref B) { s with heap := h', toks := tk }) :
    wpAny (model prog w) A (call (.builtin "sorted") [.ref d]) Q E s := by
  obtain ⟨ep, hat⟩ := (kda_dict N hp hd).dictAt
  refine kdu_sorted (kdl_dict (knd := PySem.intKind prog w) (kvs := kvs) (ep := ep) lo) hh F N hat (by rw [sizeLine_eq]; omega) fun B h' tk vs F' N' l1 hl hv => ?_
  have hI : IntsAre vs (kvs.map (·.1)) := by
    refine ints_of (K := (PySem.intKind prog w).is) (fun k v hk => Value.isInt_shape hk) (by rw [hl]; simp) fun j v hj => ?_
    obtain ⟨k, x, hx, hk⟩ := hv j v hj
    exact ⟨k, by rw [List.getElem?_map, hx]; rfl, hk⟩
  exact lsort F' N' (fun p hp => Nat.ne_of_lt (l1 p hp)) hI (by rw [hl]; exact h64) fun h'' vs' e F'' N'' hi => h B h'' tk vs' e F'' N'' l1 hi
end
end

section
open PySem PySem.W PyProof.Rows PySem.Calls
set_option Elab.async false
set_option maxRecDepth 100000
set_option maxHeartbeats 0
set_option linter.unusedVariables false
inductive Items (G : Value → Value → Led → Prop) : List Value → List Value → Led → Prop
  | nil : Items G [] [] []
  | snoc {vs ys os v y o} : Items G vs ys os → G v y o → Items G (vs ++ [v]) (ys ++ [y]) (o ++ os)
theorem Items.length {G : Value → Value → Led → Prop} {vs ys os} (h : Items G vs ys os) : ys.length = vs.length := by
  induction h with
  | nil => rfl
  | snoc _ _ ih => simp [ih]
section
variable {prog : Program} {w : World} {A : Around} {E : Value → Shared → Prop} {env : Env} {R : Result → Shared → Prop}
theorem comp_loop {s : Shared} {elt iter : Expr} {x : Str} {px : Pos} {ifs : List Expr} {scope : Scope} {pos : Pos} {I D : Addr} {fp wr : List Addr} {n : Nat} {P : Nat → Value → Prop} {St : Nat → Heap → Prop}
    {cenv : Env} {m : Str → Option Value} (W : Walks prog w A I fp wr n P St) (p : Value → Bool) (G : Value → Value → Led → Prop)
    (hx : cenv.kindOf x = some .local) (hp : (cenv.scope.kind == .class || (cenv.scope.kind == .module && cenv.locals != cenv.globals)) = false)
    (hDC : D < cenv.locals) (hDf : D ∉ fp) (hCf : cenv.locals ∉ fp) (hsmall : ∀ b ∈ fp, b ≤ cenv.locals)
    (hst : St 0 s.heap) (hacc : s.heap.PlainList D #[]) (hn : s.heap.Ns cenv.locals m)
    (htests : ∀ i v s₂ m₂, P i v → s₂.heap.Ns cenv.locals m₂ → m₂ x = some v → (∀ b o, b ≠ cenv.locals → b ∉ wr → b ≠ D → s.heap.get? b = some o → s₂.heap.get? b = some o) → (∃ h tk, s₂ = { s with heap := h, toks := tk }) →
      wpAny (model prog w) A (forIn ifs true fun c r => if r = true then do let ok ← isTrue c cenv (eval c cenv); pure (ForInStep.yield ok) else pure (ForInStep.yield r))
        (fun ok s₃ => ok = p v ∧ Keeps s₂ s₃) (fun _ _ => False) s₂)
    (helt : ∀ i v s₂ m₂, P i v → p v = true → s₂.heap.Ns cenv.locals m₂ → m₂ x = some v → (∀ b o, b ≠ cenv.locals → b ∉ wr → b ≠ D → s.heap.get? b = some o → s₂.heap.get? b = some o) → (∃ h tk, s₂ = { s with heap := h, toks := tk }) →
      wpAny (model prog w) A (eval elt cenv) (fun y s₃ => ∃ os, G v y os ∧ Keeps s₂ s₃ ∧ ∀ q ∈ os, s₃.heap.get? q.1 = some q.2 ∧ s₂.heap.objs.size ≤ q.1) (fun _ _ => False) s₂)
    (hR : ∀ h' tk m' ys (vs : List Value) os, h'.Ns cenv.locals m' → h'.PlainList D ys → (∀ q ∈ os, h'.get? q.1 = some q.2 ∧ cenv.locals < q.1) → vs.length = n → (∀ j v, vs[j]? = some v → P j v) → Items G (vs.filter p) ys.toList os →
      (∀ b o, b ≠ cenv.locals → b ∉ wr → b ≠ D → s.heap.get? b = some o → h'.get? b = some o) → R (.ok .next) { s with heap := h', toks := tk })
    (hsz : n ≤ sizeLine) :
    codeAny (model prog w) A (.compLoop (.ListComp elt [⟨.Name x px, iter, ifs, 0⟩] scope pos) 0 (.ref I) (.ref D) cenv) R s := by
  refine codeAny_compLoop_tests
    (fun k s' => ∃ h' tk m' ys, ∃ (vs : List Value) (os : Led), s' = { s with heap := h', toks := tk } ∧ St vs.length h' ∧ h'.PlainList D ys ∧ h'.Ns cenv.locals m' ∧ (∀ j v, vs[j]? = some v → P j v) ∧
      Items G (vs.filter p) ys.toList os ∧ (∀ q ∈ os, h'.get? q.1 = some q.2 ∧ cenv.locals < q.1) ∧ vs.length ≤ n ∧ k = n + 1 - vs.length ∧
      (∀ b o, b ≠ cenv.locals → b ∉ wr → b ≠ D → s.heap.get? b = some o → h'.get? b = some o)) ?_ (n + 1)
    ⟨s.heap, s.toks, m, #[], [], [], rfl, hst, hacc, hn, by simp, by simpa using Items.nil, (fun _ h => nomatch h), Nat.zero_le _, rfl, fun _ _ _ _ _ e => e⟩
  rintro k s' ⟨H, tk, m', ys, vs, os, rfl, hst', hacc', hn', hP, hF, hos, hi, rfl, hk⟩
  have hDC' : D ≠ cenv.locals := Nat.ne_of_lt hDC
  have hCw : cenv.locals ∉ wr := fun h => hCf (W.sub _ h)
  have hDw : D ∉ wr := fun h => hDf (W.sub _ h)
  by_cases hlt : vs.length < n
  · refine W.item vs.length _ _ _ hlt hst' fun v h₁ tk₁ hPv hst₁ hk₁ => ?_
    refine wpAny_assign_Name (wpAny_storeName_local hx (hn'.at' fun o e => hk₁ _ o hCw e) (fun h₂ hn₂ hs₂ => ?_) hp)
    have up₂ : ∀ b o, b ≠ cenv.locals → b ∉ wr → H.get? b = some o → h₂.get? b = some o := fun b o hbC hbf e => hs₂.extBut b o hbC (hk₁ b o hbf e)
    have hst₂ : St (vs.length + 1) h₂ := W.frame _ _ _ hst₁ fun b hb o e => hs₂.extBut b o (fun h => hCf (h ▸ hb)) e
    refine wpAny_mono (htests vs.length v _ _ hPv hn₂ (by simp) (fun b o hbC hbf hbD e => up₂ b o hbC hbf (hk b o hbC hbf hbD e)) ⟨_, _, rfl⟩) (fun ok s₃ h₃ => ?_) fun _ _ e => e.elim
    obtain ⟨rfl, h₃, tk₃, rfl, hk₃⟩ := h₃
    have hst₃ : St (vs.length + 1) h₃ := W.frame _ _ _ hst₂ fun b _ o e => hk₃ b o e
    have hacc₃ : h₃.PlainList D ys := hacc'.at fun o e => hk₃ _ o (up₂ D o hDC' hDw e)
    have hn₃ := hn₂.keeps hk₃
    have hos₃ : ∀ q ∈ os, h₃.get? q.1 = some q.2 ∧ cenv.locals < q.1 := fun q hq => ⟨hk₃ _ _ (up₂ _ _ (Nat.ne_of_gt (hos q hq).2) (fun hw => Nat.lt_irrefl _ (Nat.lt_of_lt_of_le (hos q hq).2 (hsmall _ (W.sub _ hw)))) (hos q hq).1), (hos q hq).2⟩
    have hP' : ∀ j u, (vs ++ [v])[j]? = some u → P j u := fun j u hj => by
      rcases Nat.lt_trichotomy j vs.length with h | h | h
      · exact hP j u (by rwa [List.getElem?_append_left h] at hj)
      · subst h; simp at hj; subst hj; exact hPv
      · have hnone : (vs ++ [v])[j]? = none := List.getElem?_eq_none (by rw [List.length_append, List.length_singleton]; omega)
        rw [hnone] at hj; cases hj
    cases hpv : p v with
    | false =>
      simp only [Bool.false_eq_true, if_false]
      refine ⟨n + 1 - (vs.length + 1), by omega, h₃, tk₃, _, ys, vs ++ [v], os, rfl, by simpa using hst₃, hacc₃, hn₃, hP', ?_, hos₃, (by rw [List.length_append, List.length_singleton]; exact hlt), (by rw [List.length_append, List.length_singleton]), fun b o hbC hbf hbD e => hk₃ b o (up₂ b o hbC hbf (hk b o hbC hbf hbD e))⟩
      rw [List.filter_append]; simpa [hpv] using hF
    | true =>
      simp only [if_true]
      refine wpAny_mono (helt vs.length v _ _ hPv hpv hn₃ (by simp) (fun b o hbC hbf hbD e => hk₃ b o (up₂ b o hbC hbf (hk b o hbC hbf hbD e))) ⟨_, _, rfl⟩) (fun y s₄ h₄ => ?_) fun _ _ e => e.elim
      obtain ⟨o₄, hG, ⟨h₄, tk₄, rfl, hk₄⟩, ho₄⟩ := h₄
      have hys : ys.size ≤ sizeLine := by
        have e1 := hF.length
        have e2 : (vs.filter p).length ≤ vs.length := List.length_filter_le _ _
        have e4 : ys.toList.length = ys.size := by simp
        omega
      have hCs : cenv.locals < h₃.objs.size := hn₃.lt
      refine wpAny_list_append_plain (hsz := hys) (hacc₃.at fun o e => hk₄ _ o e) fun h₅ hl₅ hs₅ => ?_
      refine ⟨n + 1 - (vs.length + 1), by omega, h₅, tk₄, _, ys.push y, vs ++ [v], o₄ ++ os, rfl, ?_, hl₅, (hn₃.keeps hk₄).sameBut hs₅ (Ne.symm hDC'), hP', ?_, ?_, (by rw [List.length_append, List.length_singleton]; exact hlt), (by rw [List.length_append, List.length_singleton]),
        fun b o hbC hbf hbD e => hs₅.extBut b o hbD (hk₄ b o (hk₃ b o (up₂ b o hbC hbf (hk b o hbC hbf hbD e))))⟩
      · have := W.frame _ _ h₅ hst₃ fun b hb o e => hs₅.extBut b o (fun h => hDf (h ▸ hb)) (hk₄ b o e)
        simpa using this
      · rw [List.filter_append]; simpa [hpv] using Items.snoc hF hG
      · intro q hq
        rcases List.mem_append.mp hq with hq | hq
        · have hlt' : cenv.locals < q.1 := Nat.lt_of_lt_of_le hCs (ho₄ q hq).2
          exact ⟨hs₅.extBut _ _ (Nat.ne_of_gt (Nat.lt_trans hDC hlt')) (ho₄ q hq).1, hlt'⟩
        · exact ⟨hs₅.extBut _ _ (Nat.ne_of_gt (Nat.lt_trans hDC (hos₃ q hq).2)) (hk₄ _ _ (hos₃ q hq).1), (hos₃ q hq).2⟩
  · have hin : vs.length = n := by omega
    refine W.done _ _ _ (hin ▸ hst') fun h₁ tk₁ hk₁ => ?_
    refine hR h₁ tk₁ m' ys vs os (hn'.at' fun o e => hk₁ _ o hCw e) (hacc'.at fun o e => hk₁ _ o hDw e) (fun q hq => ⟨hk₁ _ _ (fun hw => Nat.lt_irrefl _ (Nat.lt_of_lt_of_le (hos q hq).2 (hsmall _ (W.sub _ hw)))) (hos q hq).1, (hos q hq).2⟩) hin hP hF fun b o hbC hbf hbD e => hk₁ b o hbf (hk b o hbC hbf hbD e)
theorem comp_walk {s : Shared} {elt iter : Expr} {x : Str} {px : Pos} {ifs : List Expr} {scope : Scope} {cl : List (Str × Addr)} {pos : Pos} {Q : Value → Shared → Prop} (p : Value → Bool) (G : Value → Value → Led → Prop)
    (hclos : closureFor scope env = pure cl) (hcell : ∀ y ∈ scope.names, y.2 ≠ .cell) (hkind : scope.kind = .function)
    (hnames : ∀ y ∈ scope.names, y.2 = .local → scope.names.lookup y.1 = some .local) (hx : scope.names.lookup x = some .local)
    (h : wpAny (model prog w) A (eval iter env) (fun xv s₁ => wpAny (model prog w) A (pyIter xv) (fun it s₂ => ∃ I fp wr n P St, it = .ref I ∧ Walks prog w A I fp wr n P St ∧ n ≤ sizeLine ∧ St 0 s₂.heap ∧ (∀ b ∈ fp, b < s₂.heap.objs.size) ∧
      (∀ C i v s₃ m₃, s₂.heap.objs.size ≤ C → P i v → s₃.heap.Ns C m₃ → m₃ x = some v → (∀ b o, b ∉ wr → s₂.heap.get? b = some o → s₃.heap.get? b = some o) → (∃ h tk, s₃ = { s₂ with heap := h, toks := tk }) →
        wpAny (model prog w) A (forIn ifs true fun c r => if r = true then do let ok ← isTrue c (compEnvC scope cl C env) (eval c (compEnvC scope cl C env)); pure (ForInStep.yield ok) else pure (ForInStep.yield r))
          (fun ok s₄ => ok = p v ∧ Keeps s₃ s₄) (fun _ _ => False) s₃) ∧
      (∀ C i v s₃ m₃, s₂.heap.objs.size ≤ C → P i v → p v = true → s₃.heap.Ns C m₃ → m₃ x = some v → (∀ b o, b ∉ wr → s₂.heap.get? b = some o → s₃.heap.get? b = some o) → (∃ h tk, s₃ = { s₂ with heap := h, toks := tk }) →
        wpAny (model prog w) A (eval elt (compEnvC scope cl C env)) (fun y s₄ => ∃ os, G v y os ∧ Keeps s₃ s₄ ∧ ∀ q ∈ os, s₄.heap.get? q.1 = some q.2 ∧ s₃.heap.objs.size ≤ q.1) (fun _ _ => False) s₃) ∧
      (∀ D h' tk ys (vs : List Value) os, s₂.heap.objs.size ≤ D → h'.PlainList D ys → (∀ q ∈ os, h'.get? q.1 = some q.2 ∧ D < q.1) → vs.length = n → (∀ j v, vs[j]? = some v → P j v) → Items G (vs.filter p) ys.toList os →
        (∀ b o, b ∉ wr → s₂.heap.get? b = some o → h'.get? b = some o) → Q (.ref D) { s₂ with heap := h', toks := tk })) E s₁) E s)
    (hs : ∀ x, foldedSetIterable iter env x = pure x := by intro _; rfl) :
    wpAny (model prog w) A (eval (.ListComp elt [⟨.Name x px, iter, ifs, 0⟩] scope pos) env) Q E s := by
  rw [eval_ListComp]
  refine wpAny_comprehension_free (use := none) rfl hs hclos hkind hnames (wpAny_mono h (fun xv s₁ h₁ => wpAny_mono h₁ (fun it s₂ h₂ => ?_) fun _ _ e => e) fun _ _ e => e)
  obtain ⟨I, fp, wr, n, P, St, rfl, W, hsz, hst, hfp, hT, hE, hQ⟩ := h₂
  refine wpAny_newObj_type (wpAny_newFunctionEnv hcell (by intro y hy; simp at hy) (fun h₁ hns₁ hsb₁ => ?_) hkind)
  dsimp only at hns₁ hsb₁ ⊢
  generalize hH2 : s₂.heap.push { cls := .type "list", dict := none, data := .seq ([] : List Value).toArray } = H2 at hns₁ hsb₁ ⊢
  have hC : H2.objs.size = s₂.heap.objs.size + 1 := by rw [← hH2, Heap.size_push]
  have hDC : s₂.heap.objs.size ≠ H2.objs.size := by rw [hC]; exact Nat.ne_of_lt (Nat.lt_succ_self _)
  have hDCl : s₂.heap.objs.size < H2.objs.size := by rw [hC]; exact Nat.lt_succ_self _
  have hCle : s₂.heap.objs.size ≤ H2.objs.size := by rw [hC]; exact Nat.le_succ _
  have below : ∀ b, b < s₂.heap.objs.size → b ≠ H2.objs.size ∧ b ≠ s₂.heap.objs.size := fun b hb => ⟨by rw [hC]; exact Nat.ne_of_lt (Nat.lt_succ_of_lt hb), Nat.ne_of_lt hb⟩
  have hDf : s₂.heap.objs.size ∉ fp := fun hm => Nat.lt_irrefl _ (hfp _ hm)
  have hCf : H2.objs.size ∉ fp := fun hm => by have := hfp _ hm; rw [hC] at this; exact Nat.lt_irrefl _ (Nat.lt_of_succ_lt this)
  have old : ∀ b o, s₂.heap.get? b = some o → h₁.get? b = some o := fun b o e => hsb₁.extBut b o (below b (Heap.lt_size e)).1 (Heap.get?_push_of_some _ (hH2 ▸ Heap.get?_push_of_some _ e))
  have hacc : h₁.PlainList s₂.heap.objs.size #[] := ⟨_, hsb₁.extBut _ _ hDC (Heap.get?_push_of_some _ (hH2 ▸ Heap.get?_push_size _ rfl))⟩
  have hst₁ : St 0 h₁ := W.frame _ _ _ hst fun b _ o e => old b o e
  have loop : ∀ s₃ : Shared, s₃ = { s₂ with heap := h₁, toks := s₂.toks + ([] : List (Str × Value)).length } →
      codeAny (model prog w) A (.compLoop (.ListComp elt [⟨.Name x px, iter, ifs, 0⟩] scope pos) 0 (.ref I) (.ref s₂.heap.objs.size) (compEnvC scope cl H2.objs.size env))
        (compPost (model prog w) A E none Q (.ref s₂.heap.objs.size) H2.objs.size) s₃ := by
    rintro s₃ rfl
    refine comp_loop (cenv := compEnvC scope cl H2.objs.size env) W p G (lookup_relabel_local hx) (by simp [compEnvC, relabel, hkind]) hDCl hDf hCf (fun b hb => Nat.le_trans (Nat.le_of_lt (hfp b hb)) hCle) hst₁ hacc hns₁
      (fun i v s₃ m₃ hv hn hm hk hsh => hT _ i v s₃ m₃ hCle hv hn hm (fun b o hbf e => hk b o (below b (Heap.lt_size e)).1 hbf (below b (Heap.lt_size e)).2 (old b o e)) (by obtain ⟨a, b, rfl⟩ := hsh; exact ⟨a, b, rfl⟩))
      (fun i v s₃ m₃ hv hpv hn hm hk hsh => hE _ i v s₃ m₃ hCle hv hpv hn hm (fun b o hbf e => hk b o (below b (Heap.lt_size e)).1 hbf (below b (Heap.lt_size e)).2 (old b o e)) (by obtain ⟨a, b, rfl⟩ := hsh; exact ⟨a, b, rfl⟩)) (fun h' tk m' ys vs os hn ha hos hlen hP hF hk => ?_) hsz
    refine ⟨m', hn, fun h'' hs'' => ?_⟩
    refine hQ s₂.heap.objs.size h'' tk ys vs os (Nat.le_refl _) (ha.at fun o e => hs''.extBut _ _ hDC e) (fun q hq => ⟨hs''.extBut _ _ (Nat.ne_of_gt (hos q hq).2) (hos q hq).1, Nat.lt_trans hDCl (hos q hq).2⟩) hlen hP hF fun b o hbf e => ?_
    exact hs''.extBut _ _ (below b (Heap.lt_size e)).1 (hk b o (below b (Heap.lt_size e)).1 hbf (below b (Heap.lt_size e)).2 (old b o e))
  exact codeAny_compStart_list (loop _ rfl) (W.self 0 _ _ _ hst₁ (loop _ rfl))

theorem comp_list {s : Shared} {h₀ : Heap} {L : Addr} {elt iter : Expr} {x : Str} {px : Pos} {ifs : List Expr} {scope : Scope} {cl : List (Str × Addr)} {pos : Pos} {Q : Value → Shared → Prop} (p : Value → Bool) (G : Value → Value → Led → Prop)
    (hclos : closureFor scope env = pure cl) (hcell : ∀ y ∈ scope.names, y.2 ≠ .cell) (hkind : scope.kind = .function)
    (hnames : ∀ y ∈ scope.names, y.2 = .local → scope.names.lookup y.1 = some .local) (hx : scope.names.lookup x = some .local) (hh : A.handled = none)
    (h : wpAny (model prog w) A (eval iter env) (fun xv s₁ => ∃ l vs n h tk m led, xv = .ref l ∧ s₁ = { s with heap := h, toks := tk } ∧ Fr h₀ L h m ∧ News h₀ L h led ∧ (l, listOf (List.toArray vs) n) ∈ led ∧ vs.length ≤ 1000 ∧
      (∀ C v h₃ tk₃ m₃, v ∈ vs → h₃.Ns C m₃ → m₃ x = some v → Fr h₀ L h₃ m → News h₀ L h₃ led →
        wpAny (model prog w) A (forIn ifs true fun c r => if r = true then do let ok ← isTrue c (compEnvC scope cl C env) (eval c (compEnvC scope cl C env)); pure (ForInStep.yield ok) else pure (ForInStep.yield r))
          (fun ok s₄ => ok = p v ∧ Keeps { s with heap := h₃, toks := tk₃ } s₄) (fun _ _ => False) { s with heap := h₃, toks := tk₃ }) ∧
      (∀ C v h₃ tk₃ m₃, v ∈ vs → p v = true → h₃.Ns C m₃ → m₃ x = some v → Fr h₀ L h₃ m → News h₀ L h₃ led →
        wpAny (model prog w) A (eval elt (compEnvC scope cl C env)) (fun y s₄ => ∃ os, G v y os ∧ Keeps { s with heap := h₃, toks := tk₃ } s₄ ∧ ∀ q ∈ os, s₄.heap.get? q.1 = some q.2 ∧ h₃.objs.size ≤ q.1) (fun _ _ => False) { s with heap := h₃, toks := tk₃ }) ∧
      (∀ D h' tk ys os n, (∀ q ∈ led, q.1 < D) → (∀ q ∈ os, D < q.1) → Fr h₀ L h' m → News h₀ L h' ((D, listOf (List.toArray ys) n) :: (os ++ led)) → Items G (vs.filter p) ys os → Q (.ref D) { s with heap := h', toks := tk })) (fun _ _ => False) s)
    (hs : ∀ x, foldedSetIterable iter env x = pure x := by intro _; rfl) :
    wpAny (model prog w) A (eval (.ListComp elt [⟨.Name x px, iter, ifs, 0⟩] scope pos) env) Q E s := by
  refine comp_walk p G hclos hcell hkind hnames hx (wpAny_mono h (fun xv s₁ q => ?_) fun _ _ h => h.elim) hs
  obtain ⟨l, vs, n, h1, tk1, m, led, rfl, rfl, F, N, hm, hl1000, hT, hE, hQ⟩ := q
  have hl := (N _ hm).1
  have hlt : l < h1.objs.size := Heap.lt_size hl
  refine wpAny_pyIter_list (items := vs.toArray) ⟨_, hl, rfl, n, rfl⟩ ?_
  have keepF : ∀ {h₃ : Heap}, (∀ b o, b ∉ [h1.objs.size] → (h1.push { cls := .type "list_iterator", data := .fields #[.ref l, .int 0 0] }).get? b = some o → h₃.get? b = some o) → Fr h₀ L h₃ m ∧ News h₀ L h₃ led := fun hk =>
    have kk : ∀ b o, h1.get? b = some o → _ := fun b o e => hk b o (fun hb => Nat.lt_irrefl _ (by rw [List.mem_singleton] at hb; rw [hb] at e; exact Heap.lt_size e)) (Heap.get?_push_of_some _ e)
    ⟨F.keeps kk, N.grown kk⟩
  refine ⟨h1.objs.size, [h1.objs.size, l], [h1.objs.size], vs.toArray.size, (fun i v => vs.toArray[i]? = some v), _, rfl, Walks.list hh h1.objs.size l (Nat.ne_of_lt hlt) vs.toArray, (by rw [sizeLine_eq]; simp; omega),
    ⟨⟨_, Heap.get?_push_size _ rfl, rfl, rfl⟩, ⟨_, Heap.get?_push_of_some _ hl, rfl, n, rfl⟩⟩, ?_, ?_, ?_, ?_⟩
  · intro b hb
    show b < (h1.push _).objs.size
    rw [Heap.size_push]
    rcases List.mem_cons.mp hb with rfl | hb
    · exact Nat.lt_succ_self _
    · rw [List.mem_singleton.mp hb]; exact Nat.lt_succ_of_lt hlt
  · rintro C i v s₃ m₃ hC hv hn hm₃ hk ⟨h₃, tk₃, rfl⟩
    obtain ⟨F₃, N₃⟩ := keepF hk
    exact hT C v h₃ tk₃ m₃ (List.mem_of_getElem? (by simpa using hv)) hn hm₃ F₃ N₃
  · rintro C i v s₃ m₃ hC hv hpv hn hm₃ hk ⟨h₃, tk₃, rfl⟩
    obtain ⟨F₃, N₃⟩ := keepF hk
    exact hE C v h₃ tk₃ m₃ (List.mem_of_getElem? (by simpa using hv)) hpv hn hm₃ F₃ N₃
  · intro D h' tk ys us os hD hpl hos hlen hP hI hk
    obtain ⟨F', N'⟩ := keepF hk
    have hus : us = vs := by
      apply List.ext_getElem?
      intro j
      by_cases hj : j < us.length
      · have := hP j us[j] (by simp [hj])
        rw [List.getElem?_eq_getElem hj]; simpa using this.symm
      · rw [List.getElem?_eq_none (by omega), List.getElem?_eq_none (by simp at hlen; omega)]
    subst hus
    obtain ⟨nD, hDo⟩ := hpl
    have hLs : L < h1.objs.size := F.ns.lt
    have hDl : h1.objs.size < D := by rw [show ({ s with heap := h1.push { cls := .type "list_iterator", data := .fields #[.ref l, .int 0 0] }, toks := tk1 } : Shared).heap.objs.size = h1.objs.size + 1 from Heap.size_push ..] at hD; exact hD
    have fresh : ∀ a, h1.objs.size ≤ a → a ≠ L ∧ h₀.get? a = none := fun a ha => ⟨Nat.ne_of_gt (Nat.lt_of_lt_of_le hLs ha), by
      cases e : h₀.get? a with
      | none => rfl
      | some o => exact absurd (Heap.lt_size e) (Nat.not_lt.mpr (Nat.le_trans F.above (Nat.le_trans (Nat.le_of_lt hLs) ha)))⟩
    refine hQ D h' tk ys.toList os nD (fun q hq => Nat.lt_trans (Heap.lt_size (N q hq).1) hDl) (fun q hq => (hos q hq).2) F' (fun q hq => ?_) hI
    rcases List.mem_cons.mp hq with rfl | hq
    · exact ⟨by rw [hDo], fresh _ (Nat.le_of_lt hDl)⟩
    · rcases List.mem_append.mp hq with hq | hq
      · exact ⟨(hos q hq).1, fresh _ (Nat.le_of_lt (Nat.lt_trans hDl (hos q hq).2))⟩
      · exact N' q hq
end
end

section
open PySem PySem.W PyProof.Rows PySem.Calls
set_option Elab.async false
set_option maxRecDepth 100000
set_option maxHeartbeats 0
set_option linter.unusedVariables false
section
variable {prog : Program} {w : World} {A : Around} {E : Value → Shared → Prop} {env : Env} {R : Result → Shared → Prop}
theorem comp_walkA {s : Shared} {elt iter : Expr} {x y : Str} {px py : Pos} {ifs : List Expr} {scope : Scope} {cl : List (Str × Addr)} {pos spos : Pos} {Q : Flow → Shared → Prop} (p : Value → Bool) (G : Value → Value → Led → Prop)
    (hsw : swapsWith (.ListComp elt [⟨.Name x px, iter, ifs, 0⟩] scope pos) (some (.Name y py)) spos.line env = pure true) (hy : env.kindOf y = some .local) (hpp : (env.scope.kind == .class || (env.scope.kind == .module && env.locals != env.globals)) = false)
    (hclos : closureFor scope env = pure cl) (hcell : ∀ y ∈ scope.names, y.2 ≠ .cell) (hkind : scope.kind = .function)
    (hnames : ∀ y ∈ scope.names, y.2 = .local → scope.names.lookup y.1 = some .local) (hx : scope.names.lookup x = some .local)
    (h : wpAny (model prog w) A (eval iter env) (fun xv s₁ => wpAny (model prog w) A (pyIter xv) (fun it s₂ => ∃ I fp wr n P St m, it = .ref I ∧ env.locals ∉ wr ∧ s₂.heap.Ns env.locals m ∧ Walks prog w A I fp wr n P St ∧ n ≤ sizeLine ∧ St 0 s₂.heap ∧ (∀ b ∈ fp, b < s₂.heap.objs.size) ∧
      (∀ C i v s₃ m₃, s₂.heap.objs.size ≤ C → P i v → s₃.heap.Ns C m₃ → m₃ x = some v → (∀ b o, b ∉ wr → s₂.heap.get? b = some o → s₃.heap.get? b = some o) → (∃ h tk, s₃ = { s₂ with heap := h, toks := tk }) →
        wpAny (model prog w) A (forIn ifs true fun c r => if r = true then do let ok ← isTrue c (compEnvC scope cl C env) (eval c (compEnvC scope cl C env)); pure (ForInStep.yield ok) else pure (ForInStep.yield r))
          (fun ok s₄ => ok = p v ∧ Keeps s₃ s₄) (fun _ _ => False) s₃) ∧
      (∀ C i v s₃ m₃, s₂.heap.objs.size ≤ C → P i v → p v = true → s₃.heap.Ns C m₃ → m₃ x = some v → (∀ b o, b ∉ wr → s₂.heap.get? b = some o → s₃.heap.get? b = some o) → (∃ h tk, s₃ = { s₂ with heap := h, toks := tk }) →
        wpAny (model prog w) A (eval elt (compEnvC scope cl C env)) (fun y s₄ => ∃ os, G v y os ∧ Keeps s₃ s₄ ∧ ∀ q ∈ os, s₄.heap.get? q.1 = some q.2 ∧ s₃.heap.objs.size ≤ q.1) (fun _ _ => False) s₃) ∧
      (∀ D h' tk ys (vs : List Value) os, s₂.heap.objs.size ≤ D → h'.PlainList D ys → (∀ q ∈ os, h'.get? q.1 = some q.2 ∧ D < q.1) → vs.length = n → (∀ j v, vs[j]? = some v → P j v) → Items G (vs.filter p) ys.toList os →
        (∀ b o, b ≠ env.locals → b ∉ wr → s₂.heap.get? b = some o → h'.get? b = some o) → h'.Ns env.locals (fun z => if z = y then some (.ref D) else m z) → Q .next { s₂ with heap := h', toks := tk })) E s₁) E s)
    (hs : ∀ x, foldedSetIterable iter env x = pure x := by intro _; rfl) :
    wpAny (model prog w) A (exec (.Assign [.Name y py] (.ListComp elt [⟨.Name x px, iter, ifs, 0⟩] scope pos) spos) env) Q E s := by
  rw [exec_Assign_Name_used _ _ _ _ hsw]
  refine wpAny_bind (wpAny_standAt (wpAny_bind ?_))
  show wpAny _ A (do let _ ← comprehension (.ListComp elt [⟨.Name x px, iter, ifs, 0⟩] scope pos) scope env _ (newList []) false (eval iter env) (some (assign (.Name y py) env))) _ _ s
  refine wpAny_bind (wpAny_mono (wpAny_comprehension_free (use := some (assign (.Name y py) env)) (Q := fun _ s' => Q .next s') rfl hs hclos hkind hnames
    (wpAny_mono h (fun xv s₁ h₁ => wpAny_mono h₁ (fun it s₂ h₂ => ?_) fun _ _ e => e) fun _ _ e => e)) (fun _ s' hq => wpAny_pure (wpAny_pure hq)) fun _ _ e => e)
  obtain ⟨I, fp, wr, n, P, St, m, rfl, hLw, hnL, W, hsz, hst, hfp, hT, hE, hQ⟩ := h₂
  refine wpAny_newObj_type (wpAny_newFunctionEnv hcell (by intro y hy; simp at hy) (fun h₁ hns₁ hsb₁ => ?_) hkind)
  dsimp only at hns₁ hsb₁ ⊢
  generalize hH2 : s₂.heap.push { cls := .type "list", dict := none, data := .seq ([] : List Value).toArray } = H2 at hns₁ hsb₁ ⊢
  have hC : H2.objs.size = s₂.heap.objs.size + 1 := by rw [← hH2, Heap.size_push]
  have hDC : s₂.heap.objs.size ≠ H2.objs.size := by rw [hC]; exact Nat.ne_of_lt (Nat.lt_succ_self _)
  have hDCl : s₂.heap.objs.size < H2.objs.size := by rw [hC]; exact Nat.lt_succ_self _
  have hCle : s₂.heap.objs.size ≤ H2.objs.size := by rw [hC]; exact Nat.le_succ _
  have below : ∀ b, b < s₂.heap.objs.size → b ≠ H2.objs.size ∧ b ≠ s₂.heap.objs.size := fun b hb => ⟨by rw [hC]; exact Nat.ne_of_lt (Nat.lt_succ_of_lt hb), Nat.ne_of_lt hb⟩
  have hDf : s₂.heap.objs.size ∉ fp := fun hm => Nat.lt_irrefl _ (hfp _ hm)
  have hCf : H2.objs.size ∉ fp := fun hm => by have := hfp _ hm; rw [hC] at this; exact Nat.lt_irrefl _ (Nat.lt_of_succ_lt this)
  have old : ∀ b o, s₂.heap.get? b = some o → h₁.get? b = some o := fun b o e => hsb₁.extBut b o (below b (Heap.lt_size e)).1 (Heap.get?_push_of_some _ (hH2 ▸ Heap.get?_push_of_some _ e))
  have hacc : h₁.PlainList s₂.heap.objs.size #[] := ⟨_, hsb₁.extBut _ _ hDC (Heap.get?_push_of_some _ (hH2 ▸ Heap.get?_push_size _ rfl))⟩
  have hst₁ : St 0 h₁ := W.frame _ _ _ hst fun b _ o e => old b o e
  have loop : ∀ s₃ : Shared, s₃ = { s₂ with heap := h₁, toks := s₂.toks + ([] : List (Str × Value)).length } →
      codeAny (model prog w) A (.compLoop (.ListComp elt [⟨.Name x px, iter, ifs, 0⟩] scope pos) 0 (.ref I) (.ref s₂.heap.objs.size) (compEnvC scope cl H2.objs.size env))
        (compPost (model prog w) A E (some (assign (.Name y py) env)) (fun _ s' => Q .next s') (.ref s₂.heap.objs.size) H2.objs.size) s₃ := by
    rintro s₃ rfl
    refine comp_loop (cenv := compEnvC scope cl H2.objs.size env) W p G (lookup_relabel_local hx) (by simp [compEnvC, relabel, hkind]) hDCl hDf hCf (fun b hb => Nat.le_trans (Nat.le_of_lt (hfp b hb)) hCle) hst₁ hacc hns₁
      (fun i v s₃ m₃ hv hn hm hk hsh => hT _ i v s₃ m₃ hCle hv hn hm (fun b o hbf e => hk b o (below b (Heap.lt_size e)).1 hbf (below b (Heap.lt_size e)).2 (old b o e)) (by obtain ⟨a, b, rfl⟩ := hsh; exact ⟨a, b, rfl⟩))
      (fun i v s₃ m₃ hv hpv hn hm hk hsh => hE _ i v s₃ m₃ hCle hv hpv hn hm (fun b o hbf e => hk b o (below b (Heap.lt_size e)).1 hbf (below b (Heap.lt_size e)).2 (old b o e)) (by obtain ⟨a, b, rfl⟩ := hsh; exact ⟨a, b, rfl⟩)) (fun h' tk m' ys vs os hn ha hos hlen hP hF hk => ?_) hsz
    have bL := below _ hnL.lt
    show wpAny _ A (assign (.Name y py) env (.ref s₂.heap.objs.size)) _ _ _
    refine wpAny_assign_Name (wpAny_storeName_local hy (hnL.at' fun o e => hk _ o bL.1 hLw bL.2 (old _ _ e)) (fun h₃ hn₃ hs₃ => ?_) hpp)
    refine ⟨m', hn.sameBut hs₃ (Ne.symm bL.1), fun h'' hs'' => ?_⟩
    refine hQ s₂.heap.objs.size h'' _ ys vs os (Nat.le_refl _) (ha.at fun o e => hs''.extBut _ _ hDC (hs₃.extBut _ _ (Ne.symm bL.2) e)) (fun q hq => ⟨hs''.extBut _ _ (Nat.ne_of_gt (hos q hq).2) (hs₃.extBut _ _ (Nat.ne_of_gt (Nat.lt_trans (Nat.lt_of_lt_of_le hnL.lt hCle) (hos q hq).2)) (hos q hq).1), Nat.lt_trans hDCl (hos q hq).2⟩) hlen hP hF (fun b o hbL hbf e => ?_) (hn₃.sameBut hs'' bL.1)
    exact hs''.extBut _ _ (below b (Heap.lt_size e)).1 (hs₃.extBut _ _ hbL (hk b o (below b (Heap.lt_size e)).1 hbf (below b (Heap.lt_size e)).2 (old b o e)))
  exact codeAny_compStart_list (loop _ rfl) (W.self 0 _ _ _ hst₁ (loop _ rfl))


theorem comp_listA {s : Shared} {h₀ : Heap} {L : Addr} {elt iter : Expr} {x y : Str} {px py : Pos} {ifs : List Expr} {scope : Scope} {cl : List (Str × Addr)} {pos spos : Pos} {Q : Flow → Shared → Prop} (p : Value → Bool) (G : Value → Value → Led → Prop)
    (hLe : env.locals = L) (hsw : swapsWith (.ListComp elt [⟨.Name x px, iter, ifs, 0⟩] scope pos) (some (.Name y py)) spos.line env = pure true) (hy : env.kindOf y = some .local) (hpp : (env.scope.kind == .class || (env.scope.kind == .module && env.locals != env.globals)) = false)
    (hclos : closureFor scope env = pure cl) (hcell : ∀ y ∈ scope.names, y.2 ≠ .cell) (hkind : scope.kind = .function)
    (hnames : ∀ y ∈ scope.names, y.2 = .local → scope.names.lookup y.1 = some .local) (hx : scope.names.lookup x = some .local) (hh : A.handled = none)
    (h : wpAny (model prog w) A (eval iter env) (fun xv s₁ => ∃ l vs n h tk m led, xv = .ref l ∧ s₁ = { s with heap := h, toks := tk } ∧ Fr h₀ L h m ∧ News h₀ L h led ∧ (l, listOf (List.toArray vs) n) ∈ led ∧ vs.length ≤ 1000 ∧
      (∀ C v h₃ tk₃ m₃, v ∈ vs → h₃.Ns C m₃ → m₃ x = some v → Fr h₀ L h₃ m → News h₀ L h₃ led →
        wpAny (model prog w) A (forIn ifs true fun c r => if r = true then do let ok ← isTrue c (compEnvC scope cl C env) (eval c (compEnvC scope cl C env)); pure (ForInStep.yield ok) else pure (ForInStep.yield r))
          (fun ok s₄ => ok = p v ∧ Keeps { s with heap := h₃, toks := tk₃ } s₄) (fun _ _ => False) { s with heap := h₃, toks := tk₃ }) ∧
      (∀ C v h₃ tk₃ m₃, v ∈ vs → p v = true → h₃.Ns C m₃ → m₃ x = some v → Fr h₀ L h₃ m → News h₀ L h₃ led →
        wpAny (model prog w) A (eval elt (compEnvC scope cl C env)) (fun y s₄ => ∃ os, G v y os ∧ Keeps { s with heap := h₃, toks := tk₃ } s₄ ∧ ∀ q ∈ os, s₄.heap.get? q.1 = some q.2 ∧ h₃.objs.size ≤ q.1) (fun _ _ => False) { s with heap := h₃, toks := tk₃ }) ∧
      (∀ D h' tk ys os n, (∀ q ∈ led, q.1 < D) → (∀ q ∈ os, D < q.1) → Fr h₀ L h' (fun z => if z = y then some (.ref D) else m z) → News h₀ L h' ((D, listOf (List.toArray ys) n) :: (os ++ led)) → Items G (vs.filter p) ys os → Q .next { s with heap := h', toks := tk })) (fun _ _ => False) s)
    (hs : ∀ x, foldedSetIterable iter env x = pure x := by intro _; rfl) :
    wpAny (model prog w) A (exec (.Assign [.Name y py] (.ListComp elt [⟨.Name x px, iter, ifs, 0⟩] scope pos) spos) env) Q E s := by
  subst hLe
  refine comp_walkA p G hsw hy hpp hclos hcell hkind hnames hx (wpAny_mono h (fun xv s₁ q => ?_) fun _ _ h => h.elim) hs
  obtain ⟨l, vs, n, h1, tk1, m, led, rfl, rfl, F, N, hm, hl1000, hT, hE, hQ⟩ := q
  have hl := (N _ hm).1
  have hlt : l < h1.objs.size := Heap.lt_size hl
  refine wpAny_pyIter_list (items := vs.toArray) ⟨_, hl, rfl, n, rfl⟩ ?_
  have keepF : ∀ {h₃ : Heap}, (∀ b o, b ∉ [h1.objs.size] → (h1.push { cls := .type "list_iterator", data := .fields #[.ref l, .int 0 0] }).get? b = some o → h₃.get? b = some o) → Fr h₀ env.locals h₃ m ∧ News h₀ env.locals h₃ led := fun hk =>
    have kk : ∀ b o, h1.get? b = some o → _ := fun b o e => hk b o (fun hb => Nat.lt_irrefl _ (by rw [List.mem_singleton] at hb; rw [hb] at e; exact Heap.lt_size e)) (Heap.get?_push_of_some _ e)
    ⟨F.keeps kk, N.grown kk⟩
  refine ⟨h1.objs.size, [h1.objs.size, l], [h1.objs.size], vs.toArray.size, (fun i v => vs.toArray[i]? = some v), _, m, rfl, ?_, ?_, Walks.list hh h1.objs.size l (Nat.ne_of_lt hlt) vs.toArray, (by rw [sizeLine_eq]; simp; omega),
    ⟨⟨_, Heap.get?_push_size _ rfl, rfl, rfl⟩, ⟨_, Heap.get?_push_of_some _ hl, rfl, n, rfl⟩⟩, ?_, ?_, ?_, ?_⟩
  · intro hb; exact Nat.ne_of_lt F.ns.lt (List.mem_singleton.mp hb)
  · exact (F.push _).ns
  · intro b hb
    show b < (h1.push _).objs.size
    rw [Heap.size_push]
    rcases List.mem_cons.mp hb with rfl | hb
    · exact Nat.lt_succ_self _
    · rw [List.mem_singleton.mp hb]; exact Nat.lt_succ_of_lt hlt
  · rintro C i v s₃ m₃ hC hv hn hm₃ hk ⟨h₃, tk₃, rfl⟩
    obtain ⟨F₃, N₃⟩ := keepF hk
    exact hT C v h₃ tk₃ m₃ (List.mem_of_getElem? (by simpa using hv)) hn hm₃ F₃ N₃
  · rintro C i v s₃ m₃ hC hv hpv hn hm₃ hk ⟨h₃, tk₃, rfl⟩
    obtain ⟨F₃, N₃⟩ := keepF hk
    exact hE C v h₃ tk₃ m₃ (List.mem_of_getElem? (by simpa using hv)) hpv hn hm₃ F₃ N₃
  · intro D h' tk ys us os hD hpl hos hlen hP hI hk hnL
    have kk : ∀ b o, b ≠ env.locals → h1.get? b = some o → h'.get? b = some o := fun b o hb e => hk b o hb (fun hb => Nat.lt_irrefl _ (by rw [List.mem_singleton] at hb; rw [hb] at e; exact Heap.lt_size e)) (Heap.get?_push_of_some _ e)
    have F' : Fr h₀ env.locals h' (fun z => if z = y then some (.ref D) else m z) := ⟨hnL, fun b o e => kk b o (by rintro rfl; rw [kts_self F] at e; cases e) (F.keep b o e), F.above⟩
    have N' : News h₀ env.locals h' led := fun q hq => ⟨kk _ _ (N q hq).2.1 (N q hq).1, (N q hq).2⟩
    have hus : us = vs := by
      apply List.ext_getElem?
      intro j
      by_cases hj : j < us.length
      · have := hP j us[j] (by simp [hj])
        rw [List.getElem?_eq_getElem hj]; simpa using this.symm
      · rw [List.getElem?_eq_none (by omega), List.getElem?_eq_none (by simp at hlen; omega)]
    subst hus
    obtain ⟨nD, hDo⟩ := hpl
    have hLs : env.locals < h1.objs.size := F.ns.lt
    have hDl : h1.objs.size < D := by rw [show ({ s with heap := h1.push { cls := .type "list_iterator", data := .fields #[.ref l, .int 0 0] }, toks := tk1 } : Shared).heap.objs.size = h1.objs.size + 1 from Heap.size_push ..] at hD; exact hD
    have fresh : ∀ a, h1.objs.size ≤ a → a ≠ env.locals ∧ h₀.get? a = none := fun a ha => ⟨Nat.ne_of_gt (Nat.lt_of_lt_of_le hLs ha), by
      cases e : h₀.get? a with
      | none => rfl
      | some o => exact absurd (Heap.lt_size e) (Nat.not_lt.mpr (Nat.le_trans F.above (Nat.le_trans (Nat.le_of_lt hLs) ha)))⟩
    refine hQ D h' tk ys.toList os nD (fun q hq => Nat.lt_trans (Heap.lt_size (N q hq).1) hDl) (fun q hq => (hos q hq).2) F' (fun q hq => ?_) hI
    rcases List.mem_cons.mp hq with rfl | hq
    · exact ⟨by rw [hDo], fresh _ (Nat.le_of_lt hDl)⟩
    · rcases List.mem_append.mp hq with hq | hq
      · exact ⟨(hos q hq).1, fresh _ (Nat.le_of_lt (Nat.lt_trans hDl (hos q hq).2))⟩
      · exact N' q hq
end
end

section
open PySem PySem.W PyProof.Rows PySem.Calls
set_option Elab.async false
set_option maxRecDepth 100000
set_option maxHeartbeats 0
set_option linter.unusedVariables false
theorem sl_wget : Slot "wrapper_descriptor" "__get__" "wrapper_descriptor.__get__" := .of (owner := "wrapper_descriptor") (n := "__get__") (by rw [typeLookup_type, builtinLookup_eq_fast]; kernel_rfl) (by decide +kernel) (by decide +kernel) (by decide +kernel)
  (by first | exact .inl (by decide +kernel) | exact .inr (by decide +kernel)) (by rw [isSubtype_type]; kernel_rfl)
theorem en_wget : entryFor table "wrapper_descriptor.__get__" = some Builtin.«wrapper_descriptor.__get__» := entryFor_of_tree (by kernel_rfl)
theorem ar_wget (a b c : Value) : argsOk "wrapper_descriptor.__get__" ⟨[a, b, c], []⟩ := by unfold argsOk; kernel_rfl
theorem ty_einit (s : Shared) : s.TypeIs (.builtin "Exception.__init__") "wrapper_descriptor" := by
  show builtinType "Exception.__init__" = _
  kernel_rfl
section
variable {prog : Program} {w : World} {A : Around} {E : Value → Shared → Prop} {h : Heap} {g : Array GenState} {d : Drawn} {t : Nat} {os : OsState}
variable {nm q : Str} {C N : Addr} {bs bm : List Value} {hdct : Bool} {sn : List Str} {sub : List Value} {ab : Bool} {col : Option Bool} {dd : Option Addr} {k0 k1 k2 k3 k5 : Option Value} {newId : String}
theorem wrap_get {e : Addr} {oe : Obj} {Q : Value → Shared → Prop} (he : h.get? e = some oe) (hoc : oe.cls = .ref C) (hC : h.get? C = some (excClassObj nm q C N bs bm hdct sn sub ab col dd k0 k1 k2 k3 k5 newId))
    (hb : bm.contains (.type "Exception") = true) (hq : Q (.ref h.objs.size) ⟨h.push { cls := .type "method-wrapper", data := .fields #[.builtin "Exception.__init__", .ref e] }, g, d, t, os⟩) :
    wpAny (model prog w) A (call (.builtin "wrapper_descriptor.__get__") [.builtin "Exception.__init__", .ref e, .ref C]) Q E ⟨h, g, d, t, os⟩ := by
  refine wpAny_call_entry sl_wget (ty_einit _) en_wget ?_ (ar_wget _ _ _)
  have hcC : (Value.ref C :: bm).contains (.type "Exception") = true := by rw [List.contains_cons, hb, Bool.or_true]
  unfold Builtin.«wrapper_descriptor.__get__»
  have hs : ".".intercalate ("Exception.__init__".cutAt '.').dropLast = "Exception" := by decide +kernel
  repeat (first | with_reducible refine wpAny_loadPart_at he ?_ | wp_step)
  rw [hs, hoc]
  refine wpAny_isSubtype_exc hC ?_
  rw [hcC]
  refine wpAny_pure ?_
  unfold newFields
  refine wpAny_bind (wpAny_newObj_type ?_ (by size_fits))
  exact wpAny_pure ⟨_, rfl, hq⟩
theorem super_init {so D e : Addr} {oe : Obj} {l₀ l : List Value} {K : Frag} {name : Str} {pl : Sem Bool} {Q : Value × List Value → Shared → Prop}
    (hso : h.get? so = some { cls := .type "super", dict := none, data := .fields #[.ref D, .ref e, .ref C], slots := #[] }) (hno : Looks (model prog w) h (opaqueClassAbove (.ref C)) none)
    (hM : Looks (model prog w) h (mroOf (.ref C)) l₀) (hl : (l₀.dropWhile (· != .ref D)).drop 1 = l) (X : K.In h)
    (hf : alongIn K name l = some (some (.builtin "Exception.__init__"))) (he : h.get? e = some oe) (hoc : oe.cls = .ref C) (hC : h.get? C = some (excClassObj nm q C N bs bm hdct sn sub ab col dd k0 k1 k2 k3 k5 newId))
    (hb : bm.contains (.type "Exception") = true) (hxC : e ≠ C) (hn : (name == ("__class__" : Str)) = false)
    (hq : Q (.ref h.objs.size, []) ⟨h.push { cls := .type "method-wrapper", data := .fields #[.builtin "Exception.__init__", .ref e] }, g, d, t + 1, os⟩) :
    wpAny (model prog w) A (getMethod (.ref so) name pl) Q E ⟨h, g, d, t, os⟩ := by
  have ga : ∀ (A : Around) (tk : Tok) (t' : Nat) (Q : Fin → Shared → Prop) (hq : Q (.done (.ret (.ref h.objs.size))) ⟨h.push { cls := .type "method-wrapper", data := .fields #[.builtin "Exception.__init__", .ref e] }, g, d, t', os⟩),
      wpAny (model prog w) A (Builtin.«super.__getattribute__» ⟨[.ref so, .str name tk], []⟩) Q (fun _ _ => False) ⟨h, g, d, t', os⟩ := by
    intro A tk t' Q hq
    have hlk := sl_wget.lookup
    have hne : (Value.ref e == Value.ref C) = false := by simp [hxC]
    have hdt : ({ cls := .type "super", dict := none, data := .fields #[.ref D, .ref e, .ref C], slots := #[] } : Obj).data = .fields #[.ref D, .ref e, .ref C] := rfl
    have f0 : (#[.ref D, .ref e, .ref C] : Array Value)[0]? = some (.ref D) := rfl
    have f1 : (#[.ref D, .ref e, .ref C] : Array Value)[1]? = some (.ref e) := rfl
    have f2 : (#[.ref D, .ref e, .ref C] : Array Value)[2]? = some (.ref C) := rfl
    unfold Builtin.«super.__getattribute__»
    repeat (first
      | (with_reducible refine wpAny_field hso hdt f0 ?_) | (with_reducible refine wpAny_field hso hdt f1 ?_) | (with_reducible refine wpAny_field hso hdt f2 ?_)
      | (with_reducible refine ks_wpAny_notOpaque hno ?_)
      | (with_reducible refine Looks.at hM ?_; rw [hl])
      | (refine ks_forIn_along X (fun _ _ => rfl) rfl ?_ hf)
      | (with_reducible refine wpAny_typeOf (ty_einit _) ?_)
      | (with_reducible refine wrap_get he hoc hC hb ?_)
      | (simp only [hn, hne, Bool.or_false, Bool.false_eq_true, if_false])
      | wp_step
      | dsimp only)
    all_goals exact hq
  have hlk := F.ks_slot_super_ga.lookup
  have hcan := F.ks_canon_super_ga
  have hT : ∀ t', (⟨h, g, d, t', os⟩ : Shared).TypeIs (.ref so) "super" := fun _ => ⟨_, hso, rfl⟩
  unfold getMethod
  refine wpAny_bind (wpAny_specialOf (hT _) hlk ?_)
  show wpAny _ _ (if (Manifest.canonical "super.__getattribute__" != "object.__getattribute__") = true then _ else _) _ _ _
  rw [if_pos hcan]
  unfold getAttr getAttrBy
  refine wpAny_bind (wpAny_bind (wpAny_mkText (wpAny_holding (wpAny_bind (wpAny_typeOf (hT _) (wpAny_bind (wpAny_of_eq hlk ?_)))))))
  show wpAny _ _ (getAttrByItsOwn (.ref so) (.str name t) (.type "super") (.builtin "super.__getattribute__") true false) _ _ _
  unfold getAttrByItsOwn hookBefore callGetattribute boundAndCalled
  refine wpAny_bind (wpAny_of_eq (show (if onTheHeap (.type "super") then typeLookup (.type "super") "__getattr__" else pure none) = pure none from rfl) ?_)
  refine wpAny_bind (wpAny_attempt (wpAny_holding ?_))
  show wpAny _ _ (bindSpecial (.builtin "super.__getattribute__") (.ref so) >>= _) _ _ _
  refine wpAny_bind (wpAny_of_eq (F.ks_slot_super_ga.bind _) ?_)
  refine wpAny_mono (Q := fun v s' => v = .ref h.objs.size ∧ s' = ⟨h.push { cls := .type "method-wrapper", data := .fields #[.builtin "Exception.__init__", .ref e] }, g, d, t + 1, os⟩) (E := fun _ _ => False)
    (wpAny_call_entry F.ks_slot_super_ga (hT _) F.ks_entry_super_ga (ga _ _ _ _ ⟨_, rfl, rfl, rfl⟩) (F.ks_gaArgs_super _ _)) (fun v s' hv => ?_) fun _ _ z => z.elim
  obtain ⟨rfl, rfl⟩ := hv
  exact wpAny_pure (wpAny_pure hq)
theorem check_einit {M : Model} {e : Addr} {oe : Obj} {r : List Value} {Q : Unit → Shared → Prop} (he : h.get? e = some oe) (hoc : oe.cls = .ref C) (hC : h.get? C = some (excClassObj nm q C N bs bm hdct sn sub ab col dd k0 k1 k2 k3 k5 newId))
    (hq : Q () ⟨h, g, d, t, os⟩) : wpAny M A (checkBoundCall "Exception.__init__" ⟨.ref e :: r, []⟩) Q E ⟨h, g, d, t, os⟩ := by
  have F := PySem.F.excBase_Exception
  unfold checkBoundCall
  rw [F.initRow, F.initKind]
  repeat (first | with_reducible refine wpAny_loadPart_at he ?_ | with_reducible refine wpAny_loadPart_at hC ?_ | rw [hoc] | wp_step)
  refine wpAny_onRaise ?_
  rw [show ∀ (a b : String) (n : Nat), Bind.check ⟨.positional, "*", "Exception", .self, [⟨"args", .varPos, false⟩]⟩ a b n (List.map (fun x => x.fst) ({ pos := .ref e :: r } : Args).kw) = pure () from
    fun a b n => check_star_args _ _ _ _ _ _]
  exact wpAny_pure hq
theorem einit_base {e : Addr} {oe : Obj} {vs : Array Value} {t0 : Addr} {c : Value} {Q : Fin → Shared → Prop} {s : Shared} (he : s.heap.get? e = some oe) (hd : oe.data = .fields vs) (h0 : vs[0]? = some (.ref t0))
    (h : Q (.done (.ret .none)) { s with heap := (s.heap.push { cls := .type "tuple", data := .seq #[c] }).update e (Obj.mapFields (·.setIfInBounds 0 (.ref s.heap.objs.size))) }) :
    wpAny (model prog w) A (Builtin.«BaseException.__init__» ⟨[.ref e, c], []⟩) Q E s := by
  unfold Builtin.«BaseException.__init__»
  dsimp only
  rw [if_neg (by simp)]
  unfold newTuple Builtin.BaseException.bexcPut
  have hsz : 0 < vs.size := (Array.getElem?_eq_some_iff.mp h0).1
  have he₁ := Heap.get?_push_of_some (h := s.heap) { cls := .type "tuple", data := .seq #[c] } he
  refine wpAny_bind (wpAny_newObj_type (wpAny_bind (wpAny_bind (wpAny_field he₁ hd h0 (wpAny_bind (wpAny_setField he₁ hd hsz ?_))))) (by size_fits))
  refine wpAny_letGo ?_
  exact wpAny_pure h
theorem call_mw {e mw : Addr} {oe : Obj} {vs : Array Value} {t0 : Addr} {c : Value} {Q : Value → Shared → Prop} (hm : h.get? mw = some { cls := .type "method-wrapper", data := .fields #[.builtin "Exception.__init__", .ref e] })
    (he : h.get? e = some oe) (hoc : oe.cls = .ref C) (hC : h.get? C = some (excClassObj nm q C N bs bm hdct sn sub ab col dd k0 k1 k2 k3 k5 newId)) (hd : oe.data = .fields vs) (h0 : vs[0]? = some (.ref t0))
    (hq : Q .none ⟨(h.push { cls := .type "tuple", data := .seq #[c] }).update e (Obj.mapFields (·.setIfInBounds 0 (.ref h.objs.size))), g, d, t, os⟩) :
    wpAny (model prog w) A (call (.ref mw) [c]) Q E ⟨h, g, d, t, os⟩ := by
  have F := PySem.F.excBase_Exception
  refine wpAny_call (codeAny_of_tree ?_)
  show wpAny _ A.in1 (callAny (.ref mw) _) _ _ _
  unfold callAny
  refine wpAny_bind (wpAny_load hm ?_)
  dsimp only
  rw [if_pos (by decide)]
  wp_step
  rw [if_pos (by decide)]
  refine wpAny_bind (check_einit he hoc hC ?_)
  refine wpAny_pure ⟨Code.quiet_builtin _ (by decide +kernel), codeAny_builtin F.initEntry (einit_base he hd h0 ?_)⟩
  exact hq
end
end

section
open PySem PySem.W PyProof.Rows PySem.Calls
set_option Elab.async false
set_option maxRecDepth 100000
set_option maxHeartbeats 0
set_option linter.unusedVariables false
section
variable {w : World} {h : Heap} {K : Frag}
theorem be_cls (X : (Mine.hd.heap_1 w.params).In h) : h.get? 34 = some (excClassObj "BasicError" "BasicError" 34 33 [.type "Exception"] [.type "Exception", .type "BaseException", .type "object"] true [] [] false none none (some (.ref 15)) none (some (.str (Str.ofString "BasicError") 189)) (some (.str (Str.ofString "BasicError") 197)) (some (.bool true)) "Exception.__new__") := X _ _ rfl
theorem be_ns (X : (Mine.hd.heap_1 w.params).In h) : ∃ mN, h.Ns 33 mN ∧ mN "__init__" = some (.ref 31) ∧ mN "__setattr__" = none ∧ mN "__getattribute__" = none ∧ mN "__getattr__" = none ∧ mN "code" = none ∧ mN "told" = none := by
  obtain ⟨o, ho, es, ep, hd, hk, hf⟩ : ∃ o, h.get? 33 = some o ∧ ∃ es ep, o.data = .dict es ep ∧ StrKeys es ∧ (nsFind es "__init__" = some (.ref 31) ∧ nsFind es "__setattr__" = none ∧ nsFind es "__getattribute__" = none ∧ nsFind es "__getattr__" = none ∧ nsFind es "code" = none ∧ nsFind es "told" = none) :=
    ⟨_, X 33 _ rfl, _, _, rfl, by intro e he; simp at he; rcases he with rfl | rfl | rfl | rfl | rfl | rfl <;> exact ⟨_, _, rfl⟩, by kernel_rfl, by kernel_rfl, by kernel_rfl, by kernel_rfl, by kernel_rfl, by kernel_rfl⟩
  exact ⟨nsFind es, ⟨o, es, ep, ho, hd, hk, fun _ => rfl⟩, hf⟩
end
section
open Builtin Builtin.ObjectAttr
variable {prog : Program} {w : World} {A : Around} {E : Value → Shared → Prop} {h : Heap} {g : Array GenState} {d : Drawn} {t : Nat} {os : OsState}
variable {nm q : Str} {C N x : Addr} {bs bm : List Value} {sn : List Str} {sub : List Value} {ab : Bool} {col : Option Bool} {dd : Option Addr} {k0 k1 k2 k3 k5 : Option Value} {B newId sa owner : String}
  {mN mA : Str → Option Value} {name : Str} {v : Value}
theorem store_first {Q : Unit → Shared → Prop} {o : Obj} (SF : StoreFacts B bm sa owner)
    (hC : h.get? C = some (excClassObj nm q C N bs bm true sn sub ab col dd k0 k1 k2 k3 k5 newId)) (hn : h.Ns N mN) (hns : mN "__setattr__" = none) (hna : mN name = none)
    (hB : typeLookup (.type B) name = pure none) (hx : h.get? x = some o) (hc : o.cls = .ref C) (hnc : ∀ c, o.data ≠ .cls c) (hdn : o.dict = none)
    (hq : ∀ h' tk', h'.get? x = some { o with dict := some h.objs.size } → h'.Ns1 h.objs.size (fun y => if y = name then some v else none) → (∀ b ob, b ≠ x → h.get? b = some ob → h'.get? b = some ob) → Q () ⟨h', g, d, tk', os⟩) :
    wpAny (model prog w) A (setAttr (.ref x) name v) Q E ⟨h, g, d, t, os⟩ := by
  have en : ∀ (A : Around) (tk : Tok) (t : Nat) (Q : Fin → Shared → Prop) (E : Value → Shared → Prop),
      (∀ h' tk', h'.get? x = some { o with dict := some h.objs.size } → h'.Ns1 h.objs.size (fun y => if y = name then some v else none) → (∀ b ob, b ≠ x → h.get? b = some ob → h'.get? b = some ob) → Q (.done (.ret .none)) ⟨h', g, d, tk', os⟩) →
      wpAny (model prog w) A (Builtin.«object.__setattr__» ⟨[.ref x, .str name tk, v], []⟩) Q E ⟨h, g, d, t, os⟩ := by
    intro A tk t Q E hq
    have hpass := SF.passes (.ref x)
    unfold Builtin.«object.__setattr__»
    repeat (first | rw [refuse_eq] | (rw [refuseLoop_ref, hpass]) | (with_reducible refine wpAny_loadPart_at hx ?_; rw [hc]) | with_reducible refine wpAny_mroOf_exc hC ?_ | (with_reducible refine wpAny_typeLookup_exc hC hn SF.mro hB ?_; rw [hna]) | wp_step)
    rw [hdn, if_neg (by simp [typeHasDict])]
    split
    · rename_i hcd
      cases hcd
    split
    · rename_i c hcd
      exact absurd hcd (hnc c)
    · have hx₁ : (h.push { cls := .type "dict", data := .dict #[] }).get? x = some o := Heap.get?_push_of_some _ hx
      have hxs : x ≠ h.objs.size := Nat.ne_of_lt (Heap.lt_size hx)
      refine wpAny_bind (wpAny_alloc' ?_)
      refine wpAny_bind (wpAny_update' hx₁ ?_)
      refine wpAny_pure ?_
      have hgd : ((h.push { cls := .type "dict", data := .dict #[] }).update x fun o => { cls := o.cls, dict := some h.objs.size, data := o.data, slots := o.slots }).get? h.objs.size
          = some { cls := .type "dict", data := .dict #[] } :=
        (Heap.get?_update_ne _ _ _ _ hxs.symm).trans (Heap.get?_push_at rfl rfl)
      have hnd : ((h.push { cls := .type "dict", data := .dict #[] }).update x fun o => { cls := o.cls, dict := some h.objs.size, data := o.data, slots := o.slots }).Ns h.objs.size (fun _ => none) :=
        ⟨_, #[], _, hgd, rfl, fun e he => absurd he (by simp), fun _ => rfl⟩
      show wpAny _ _ (storeInDict h.objs.size (.str name tk) name v) _ _ _
      unfold storeInDict newKeyGuard
      refine wpAny_bind (wpAny_pure (wpAny_bind (wpAny_nsSet1 (Heap.Ns1.of_empty hnd) fun h' hn' hs => ?_)))
      obtain ⟨oD, esD, epD, hoD, hdD, hcD⟩ := hn'.count (Within.cons name v Within.nil)
      refine wpAny_bind (wpAny_lookBehind hoD (by rw [hdD]; exact pastItsLine_dict (Nat.le_trans hcD (by rw [List.length_cons, List.length_nil, sizeLine_eq]; omega))) ?_)
      wp_walk
      refine hq h' _ ?_ hn' (fun b ob hbx hb => (hs.2 b (Nat.ne_of_lt (Heap.lt_size hb))).trans ((Heap.get?_update_ne _ _ _ _ hbx).trans (Heap.get?_push_of_some _ hb)))
      refine (hs.2 x hxs).trans (Heap.get?_update_self _ hx₁ ?_)
      have hfr := (Heap.get?_some_iff.mp hx).2
      obtain ⟨oc, od, odt, osl⟩ := o
      cases odt <;> first | rfl | exact hfr
  have f3 := SF.slot.bind (.ref x)
  unfold setAttr callSpecial? specialOf
  repeat (any_goals (first | assumption | (with_reducible refine wpAny_loadPart_at hx ?_; rw [hc]) | (with_reducible refine wpAny_typeLookup_exc hC hn SF.mro SF.slot.lookup ?_; rw [hns]) | wp_step))
  refine codeAny_call_builtin SF.slot.plain SF.entry (wpAny_check_sa SF hC hx hc (en _ _ _ _ _ fun h' tk' a b c => ?_))
  repeat (any_goals (first | assumption | wp_step))
  exact hq h' tk' a b c
end
end

section
open PySem PySem.W PyProof.Rows PySem.Calls
set_option Elab.async false
set_option maxRecDepth 100000
set_option maxHeartbeats 0
set_option linter.unusedVariables false
theorem fresh_E3 : True := by w_top off; trivial
abbrev exc0 (t0 : Addr) : Obj := { cls := .ref 34, data := .fields #[.ref t0, .none, .none, .none, .bool false, .none] }
abbrev mwObj (e : Addr) : Obj := { cls := .type "method-wrapper", data := .fields #[.builtin "Exception.__init__", .ref e] }
theorem cw_mw {prog : Program} {w : World} {A : Around} {E : Value → Shared → Prop} {s : Shared} {pos : Pos} {mw e : Addr} {a : Expr} {env : Env} {Q : Value → Shared → Prop}
    (h : wpAny (model prog w) A (eval a env) (fun v s₁ => s₁.heap.get? mw = some (mwObj e) ∧ wpAny (model prog w) A (call (.ref mw) [v]) Q E s₁) E s)
    (he : starEach [a] env = (false, eval a env) :: starEach [] env := by rfl) : wpAny (model prog w) A (callWith pos (.ref mw) [] (backTo pos (starEach [a] env)) []) Q E s := by
  unfold callWith
  refine wpAny_bind (wpAny_holding (wpAny_mono (Q := fun x s₁ => s₁.heap.get? mw = some (mwObj e) ∧ wpAny (model prog w) A (call (.ref mw) ([] ++ x.pos) x.kw) Q E s₁) (E := E) ?_ (fun x s₁ h₁ => wpAny_bind (wpAny_standAt ?_)) fun _ _ x => x))
  · have e2 : backTo pos (starEach [a] env) = (false, eval a env) :: backTo pos (starEach [] env) := by rw [he]; rfl
    rw [e2]
    refine evalArgs_plain (Calls.spliced_cons (wpAny_mono h (fun v s₁ q => Calls.spliced_nil ?_) fun _ _ x => x))
    exact q
  · obtain ⟨ho, hcall⟩ := h₁
    have hpl : (backTo pos (starEach [a] env)).any (·.1) = false := by rw [he]; rfl
    simp only [hpl, List.any_nil, Bool.or_false]
    refine wpAny_bind (m := keeperOf (.ref mw)) ?_
    unfold keeperOf
    refine wpAny_bind (wpAny_load ho ?_)
    simp only [show (Value.type "method-wrapper" != Value.type "method") = true by decide, show (Value.type "method-wrapper" == Value.type "builtin_function_or_method" || Value.type "method-wrapper" == Value.type "method-wrapper") = true by decide, if_true]
    refine wpAny_pure ?_
    exact wpAny_bind (wpAny_mono hcall (fun r s₂ hr => wpAny_bind (wpAny_holding (wpAny_point (wpAny_pure hr)))) fun _ _ x => x)
theorem fr_but {h₀ h h' : Heap} {L d : Addr} {m : Str → Option Value} (F : Fr h₀ L h m) (hd : d ≠ L) (hn : h₀.get? d = none) (k : ∀ b o, b ≠ d → h.get? b = some o → h'.get? b = some o) : Fr h₀ L h' m :=
  let ⟨oL, es, ep, hL, r⟩ := F.ns
  ⟨⟨oL, es, ep, k _ _ (Ne.symm hd) hL, r⟩, fun b o q => k b o (by rintro rfl; rw [hn] at q; cases q) (F.keep b o q), F.above⟩
theorem fr_but2 {h₀ h h' : Heap} {L d D : Addr} {m : Str → Option Value} (F : Fr h₀ L h m) (hd : d ≠ L) (hn : h₀.get? d = none) (hD : D ≠ L) (hn' : h₀.get? D = none) (k : ∀ b o, b ≠ d → b ≠ D → h.get? b = some o → h'.get? b = some o) : Fr h₀ L h' m :=
  let ⟨oL, es, ep, hL, r⟩ := F.ns
  ⟨⟨oL, es, ep, k _ _ (Ne.symm hd) (Ne.symm hD) hL, r⟩, fun b o q => k b o (by rintro rfl; rw [hn] at q; cases q) (by rintro rfl; rw [hn'] at q; cases q) (F.keep b o q), F.above⟩
theorem basic_init (w : World) {mean : ExcName → Option Value} {mg mb : Str → Option Value} {env : Env} {outer : List Env} {A₀ A : Around} {base h₀ : Heap} {L : Addr} {m : Str → Option Value} {s : Shared} {Q E : Value → Shared → Prop} {news : List (Addr × Obj)}
  {e t0 : Addr} {cd : Str} {tc : Tok} {told : Value} (B : Below A₀ base outer h₀) (F : Fr h₀ L s.heap m) (X : (Mine.hd.heap_1 w.params).In h₀) (T : Top Mine.view (looseW Mine.view [Str.ofString "BasicError"]) mean mg mb h₀)
  (N : News h₀ L s.heap ((e, exc0 t0) :: news)) (hne : ∀ p ∈ news, p.1 ≠ e) (hA : A.frames = some (env :: outer)) (hf : env.frame = some L) (hke : env.scope.kind = .function) (hroom : A.depth < recursionLimit)
  (hret : ∀ h' tk' D oe oD, Fr h₀ L h' m → News h₀ L h' ((e, oe) :: (D, oD) :: news) → oe.cls = .ref 34 → (∃ t1, oe.data = .fields #[.ref t1, .none, .none, .none, .bool false, .none]) → oe.dict = some D → D ≠ e →
    h'.Ns1 D (fun y => if y = "told" then some told else if y = "code" then some (.str cd tc) else none) → Q .none { s with heap := h', toks := tk' }) :
  wpAny (model PySem.Challenge.rw_xm0026_01.row.prog w) A (call (.ref 31) [.ref e, .str cd tc, told]) Q E s := by
  revert X; k_fill; intro X
  refine wpAny_call ?_
  refine ks_code_super (binds := [(Str.ofString "self", .ref e), (Str.ofString "code", .str cd tc), (Str.ofString "told", told)]) B F X N T hA hf hke rfl rfl hroom (BindsTo.of_defaults (T := 23) (items := #[.str (Str.ofString "") 201]) rfl (F.keep _ _ (X 23 _ rfl)) rfl (by with_unfolding_all rfl) (by with_unfolding_all rfl)) (by intro y hy; simp at hy; rcases hy with rfl | rfl | rfl <;> rfl) (fun g' L' h₁ FG F' N' B' X' T' l' => ?_)
  have I : InstAt h₁ e (exc0 t0) 34 none := ⟨(N' _ (.head _)).1, rfl, rfl, trivial⟩
  refine ks_wpAt_execs_cons (ks_wpAt_Expr_any (ks_wpAt_MethodCall (ks_node F' X' N' T' (x := e) (C := 34) (D := 34) rfl rfl rfl I rfl rfl rfl rfl rfl rfl rfl rfl rfl rfl rfl rfl rfl PyProof.Rows.Boot.«super» (fun so h2 F2 N2 l2 => ?_))))
  have X2 : (Mine.hd.heap_1 w.params).In h2 := X'.keeps F2.keep
  have eh : h2.get? e = some (exc0 t0) := (N2 _ (.tail _ (.head _))).1
  have hC2 := be_cls X2
  have ne34 : e ≠ 34 := fun q => by rw [q, hC2] at eh; cases eh
  refine super_init (K := Mine.hd.heap_1 w.params) (D := 34) (C := 34) (e := e) (l₀ := [.ref 34, .type "Exception", .type "BaseException", .type "object"]) (N2 _ (.head _)).1 (looks_opaque X2 rfl) ?_ rfl X2 ?_ eh rfl hC2 rfl ne34 rfl ?_
  · exact fun A Q E s k q => wpAny_bind ((looks_clsIn X2 rfl) A _ E s k (wpAny_pure q))
  · kernel_rfl
  dsimp only
  obtain ⟨F3, N3, l3⟩ := ks_newsPush (s := { s with heap := h2 }) F2 N2 rfl (o := { cls := .type "method-wrapper", data := .fields #[.builtin "Exception.__init__", .ref e] }) (Heap.get?_push_at rfl rfl) (fun b o q => Heap.get?_push_of_some _ q)
  dsimp only at F3 N3 l3
  have X3 := X'.keeps F3.keep
  have hmw := (N3 _ (.head _)).1
  have eh3 := (N3 _ (.tail _ (.tail _ (.head _)))).1
  dsimp only at hmw eh3
  have N3' : News g' L' _ ((e, exc0 t0) :: news) := fun p hp => N3 p (.tail _ (.tail _ hp))
  clear N3 N2 F2 N' F'
  refine cw_mw (e := e) ?_
  walk1
  walk1
  · exact hmw
  refine call_mw hmw eh3 rfl (be_cls X3) rfl rfl ?_
  generalize hHT : (h2.push (mwObj e)) = H3 at *
  obtain ⟨F4, N4, -⟩ := ks_newsPush (s := { s with heap := H3 }) F3 N3' rfl (o := { cls := .type "tuple", data := .seq #[.str cd tc] }) (Heap.get?_push_at rfl rfl) (fun b o q => Heap.get?_push_of_some _ q)
  dsimp only at F4 N4
  have N4' : News g' L' (H3.push { cls := .type "tuple", data := .seq #[.str cd tc] }) ((e, exc0 t0) :: news) := fun p hp => N4 p (.tail _ hp)
  have e4 := (N4' _ (.head _))
  generalize hG : H3.push { cls := .type "tuple", data := .seq #[.str cd tc] } = G at *
  have sb : Heap.SameBut e G (G.update e (Obj.mapFields (·.setIfInBounds 0 (.ref H3.objs.size)))) := ⟨Heap.size_after_update _ _ _, fun a ha => Heap.get?_update_ne _ _ _ _ ha⟩
  have F5 := F4.change sb e4.2.1 e4.2.2
  have g5 : (G.update e (Obj.mapFields (·.setIfInBounds 0 (.ref H3.objs.size)))).get? e = some (exc0 H3.objs.size) := by
    rw [Heap.get?_update_self _ e4.1 rfl]; rfl
  have N5 := News.setIn (own := []) N4' (fun _ h => nomatch h) hne sb g5
  generalize G.update e (Obj.mapFields (·.setIfInBounds 0 (.ref H3.objs.size))) = H5 at F5 g5 N5 ⊢
  clear N4 N4' F4 N3' F3 sb e4 hG hHT hmw eh3 X3 l3
  refine wpAt_of_wpAny ?_
  simp only [List.nil_append] at N5
  k_steps
  have hD : g'.get? H5.objs.size = none := by
    cases q : g'.get? H5.objs.size with
    | none => rfl
    | some o => exact absurd (Heap.lt_size (F5.keep _ _ q)) (Nat.lt_irrefl _)
  have hDL : H5.objs.size ≠ L' := fun q => by have := F5.ns.lt; rw [← q] at this; exact Nat.lt_irrefl _ this
  have hDn : ∀ p ∈ ((e, exc0 H3.objs.size) :: news), p.1 ≠ H5.objs.size := fun p hp => Nat.ne_of_lt (Heap.lt_size (N5 p hp).1)
  obtain ⟨mN, hn5, -, hns, -, -, hcode, htold⟩ := be_ns (X'.keeps F5.keep)
  refine store_first PySem.F.store_Exception (be_cls (X'.keeps F5.keep)) hn5 hns hcode (by rw [typeLookup_type, builtinLookup_eq_fast]; kernel_rfl) g5 rfl (fun c q => nomatch q) rfl (fun h6 tk6 g6 n6 k6 => ?_)
  have e5 := (N5 _ (.head _)).2
  have F6 := fr_but F5 e5.1 e5.2 k6
  have N6 : News g' L' h6 ((e, _) :: news) := fun p hp => by
    rcases List.mem_cons.mp hp with rfl | hp
    · exact ⟨g6, e5⟩
    · exact ⟨k6 _ _ (hne p hp) (N5 p (.tail _ hp)).1, (N5 p (.tail _ hp)).2⟩
  obtain ⟨mN6, hn6, -, hns6, -, -, -, htold6⟩ := be_ns (X'.keeps F6.keep)
  clear N5
  k_steps
  refine store_attr PySem.F.store_Exception (be_cls (X'.keeps F6.keep)) hn6 hns6 htold6 (by rw [typeLookup_type, builtinLookup_eq_fast]; kernel_rfl) ne34 (mA := fun y => if y = "code" then some (.str cd tc) else none) ⟨_, g6, rfl, (fun c q => by cases q), .inr ⟨_, rfl, Ne.symm (hDn _ (.head _)), n6⟩⟩ (fun h7 tk7 I7 k7 g7 => ?_)
  obtain ⟨o7, ge7, hc7, _, hd7⟩ := I7
  obtain ⟨o7', ge7', hcl7, hda7, -, hdi7⟩ := g7 _ g6
  obtain rfl : o7 = o7' := Option.some.inj (ge7.symm.trans ge7')
  have hdict := hdi7 _ rfl
  have n7 : h7.Ns1 H5.objs.size (fun y => if y = "told" then some told else if y = "code" then some (.str cd tc) else none) := by
    rcases hd7 with ⟨q, _⟩ | ⟨d', q, _, n⟩
    · rw [hdict] at q; cases q
    · rw [hdict] at q; cases q; exact n
  obtain ⟨oD, esD, epD, hoD, hdD⟩ := n7
  have k7' : ∀ b o, b ≠ e → b ≠ H5.objs.size → h6.get? b = some o → h7.get? b = some o := fun b o hb hb' q => k7 b o hb (fun o₀ dx q1 q2 => by rw [g6] at q1; cases q1; cases q2; exact hb') q
  have F7 := fr_but2 F6 e5.1 e5.2 hDL hD k7'
  have N7 : News g' L' h7 ((e, o7) :: (H5.objs.size, oD) :: news) := fun p hp => by
    rcases List.mem_cons.mp hp with rfl | hp
    · exact ⟨ge7, e5⟩
    · rcases List.mem_cons.mp hp with rfl | hp
      · exact ⟨hoD, hDL, hD⟩
      · exact ⟨k7' _ _ (hne p hp) (hDn _ (.tail _ hp)) (N6 p (.tail _ hp)).1, (N6 p (.tail _ hp)).2⟩
  clear N6 F6 F5
  dsimp only
  k_steps
  rename News h₀ L _ _ => kN
  rename Fr h₀ L _ m => kF
  exact hret _ _ _ _ _ kF kN hc7 ⟨_, hda7⟩ hdict (Ne.symm (hDn _ (.head _))) ⟨oD, esD, epD, hoD, hdD⟩
end

section
open PySem PySem.W PyProof.Rows PySem.Calls
set_option Elab.async false
set_option maxRecDepth 100000
set_option maxHeartbeats 0
set_option linter.unusedVariables false
theorem basic_error (w : World) {mean : ExcName → Option Value} {mg mb : Str → Option Value} {env : Env} {outer : List Env} {A₀ A : Around} {base h₀ : Heap} {L : Addr} {m : Str → Option Value} {s : Shared} {Q E : Value → Shared → Prop} {news : List (Addr × Obj)}
  {cd : Str} {tc : Tok} {told : Value} (B : Below A₀ base outer h₀) (F : Fr h₀ L s.heap m) (X : (Mine.hd.heap_1 w.params).In h₀) (T : Top Mine.view (looseW Mine.view [Str.ofString "BasicError"]) mean mg mb h₀)
  (N : News h₀ L s.heap news) (hA : A.frames = some (env :: outer)) (hf : env.frame = some L) (hke : env.scope.kind = .function) (hroom : A.depth + 1 < recursionLimit)
  (hret : ∀ h' tk' e D oe oD, Fr h₀ L h' m → News h₀ L h' ((e, oe) :: (D, oD) :: news) → oe.cls = .ref 34 → (∃ t1, oe.data = .fields #[.ref t1, .none, .none, .none, .bool false, .none]) → oe.dict = some D → D ≠ e → (∀ p ∈ news, p.1 ≠ e) →
    h'.Ns1 D (fun y => if y = "told" then some told else if y = "code" then some (.str cd tc) else none) → Q (.ref e) { s with heap := h', toks := tk' }) :
  wpAny (model PySem.Challenge.rw_xm0026_01.row.prog w) A (call (.ref 34) [.str cd tc, told]) Q E s := by
  obtain ⟨h, g, d, t, os⟩ := s
  have Xh := X.keeps F.keep
  obtain ⟨mN, hn, hi, -⟩ := be_ns Xh
  refine wpAny_call_exc_init PySem.F.excBase_Exception (be_cls Xh) hn hi (X.keeps F.keep 31 _ rfl) rfl (fun h' e M => ?_) (by size_fits)
  obtain ⟨t0, he, ht, ht'⟩ := M.there
  have hL := F.ns.lt
  have fresh : ∀ b, h.get? b = none → h₀.get? b = none := fun b q => by
    cases z : h₀.get? b with
    | none => rfl
    | some o => have := F.keep _ _ z; dsimp only at this; rw [q] at this; cases this
  have F' : Fr h₀ L h' m := by
    obtain ⟨oL, es, ep, hL, r⟩ := F.ns
    exact ⟨⟨oL, es, ep, M.keeps _ _ hL, r⟩, fun b o q => M.keeps b o (F.keep b o q), F.above⟩
  have eL : e ≠ L := by
    rintro rfl
    obtain ⟨oL, es, ep, hL, r⟩ := F.ns
    have := M.new; dsimp only at hL; rw [hL] at this; cases this
  have N' : News h₀ L h' ((e, exc0 t0) :: news) := fun p hp => by
    rcases List.mem_cons.mp hp with rfl | hp
    · exact ⟨he, eL, fresh _ M.new⟩
    · exact ⟨M.keeps _ _ (N p hp).1, (N p hp).2⟩
  have hne : ∀ p ∈ news, p.1 ≠ e := fun p hp q => by
    have := (N p hp).1; dsimp only at this; rw [q, M.new] at this; cases this
  refine basic_init (s := ⟨h', g, d, t, os⟩) (env := env) w B F' X T N' hne ?_ hf hke ?_ (fun h2 tk' D oe oD F2 N2 a b c d e => ⟨rfl, hret _ _ _ _ _ _ F2 N2 a b c d hne e⟩)
  · exact hA
  · exact hroom
end
section
local macro_rules | `(tactic| k_ne) => `(tactic| (refine neN ?_; (try dsimp only); first | assumption | exact Ne.symm (by assumption)))
local macro_rules | `(tactic| k_all) => `(tactic| assumption)
local macro_rules | `(tactic| walk_at "setItem ref int") => `(tactic| (k_here; k_dflt (refine' kput ?F ?N ?U ?d ?z ?_; (case F => k_asm); (case N => k_asm); (case U => k_updF); (case d => assumption); (case z => size_fits); k_whole); intro h8 o8 F8 N8 d8; (try dsimp only at N8)))
local macro_rules | `(tactic| walk_at "compareOp In int ref") => `(tactic| (k_here; k_dflt (refine' kin ?N ?m ?d ?l ?_; (case N => k_asm); (case m => k_mem); (case d => assumption); (case l => assumption); k_whole)))
local macro_rules | `(tactic| walk_at "call builtin:dict.pop") => `(tactic| (k_here; (with_reducible show wpAny _ _ (call (Value.builtin "dict.pop") [Value.ref _, Value.int _ _]) _ _ _); k_dflt (refine' kpop ?F ?N ?U ?d ?z ?v ?_; (case F => k_asm); (case N => k_asm); (case U => k_updF); (case d => assumption); (case z => size_fits); (case v => assumption); k_whole); intro v8 h8 o8 e8 F8 N8 d8; (try dsimp only at N8)))
local macro_rules | `(tactic| walk_at "call ref") => `(tactic| (k_here; (with_reducible show wpAny _ _ (call (Value.ref 72) _) _ _ _); k_dflt (refine' parted_row_spec _ ?B ?F ?X ?N ?T ?hk ?hr ?hd ?hu ?_; (case hr => assumption); (case B => k_asm); (case F => k_asm); (case X => k_asm); (case N => k_asm); (case T => k_asm); (case hk => exact rfl); (case hd => ktr_room); (case hu => ktr_units)); intro q9 t9 u9 h9 tk9 F9 N9 l9; (try dsimp only); (try k_lt l9)))

section
open PySem PySem.W PyProof.Rows PySem.Calls
set_option Elab.async false
set_option maxRecDepth 100000
set_option maxHeartbeats 0
set_option linter.unusedVariables false
theorem fresh_F5 : True := by w_top off; trivial
theorem enter_row_spec (w : World) {mean : ExcName → Option Value} {mg mb : Str → Option Value} {dp un : Nat} {gd : Option (List Code)} {cn : Str} {cs : Scope} {a : Addr} {ccd : Value} {cl : List (Str × Addr)} {outer : List Env} {A₀ : Around} {base h₀ : Heap} {L : Addr} {m : Str → Option Value} {s : Shared} {Q E : Value → Shared → Prop} {news : List (Addr × Obj)} {d : Addr} {o : Obj} {P : Prg} {x : Str} {t : Tok} {n : Int} {rest : Str} (B : Below A₀ base outer h₀) (F : Fr h₀ L s.heap m) (X : (Mine.hd.heap_1 w.params).In h₀) (T : Top Mine.view (looseW Mine.view [Str.ofString "BasicError"]) mean mg mb h₀) (hk : cs.kind = .function) (N : News h₀ L s.heap ((d, o) :: news))
  (hdn : ∀ p ∈ news, p.1 ≠ d) (ho : DictIs w o P) (hlen : P.length ≤ 1000) (lo : (d == sysModules) = false)
  (hr : RowIs x n rest) (hrl : rest.length ≤ 1000) (hok : (Txt.stripChars rest (Str.ofString " ") != Str.ofString "") = true ∨ has P n = true) (hd : dp + 3 < recursionLimit) (hu : un + 24 < cLine)
  (hret : ∀ (h' : Heap) (o' : Obj) (tk' : Nat), Fr h₀ L h' m → News h₀ L h' ((d, o') :: news) → DictIs w o' (if (Txt.stripChars rest (Str.ofString " ") != Str.ofString "") = true then put P n (Txt.rstripChars rest (Str.ofString " ")) else del P n) → Q .none { s with heap := h', toks := tk' }) :
  wpAny (model PySem.Challenge.rw_xm0026_01.row.prog w) (ktrTop dp un gd cn cs L a ccd cl outer) (call (.ref 79) [.ref d, .str x t]) Q E s := by
  obtain ⟨kvs, hD, hR⟩ := ho
  have hlen' : kvs.length ≤ 1000 := by rw [hR.length]; exact hlen
  revert X; k_fill; intro X
  refine wpAny_call ?_
  k_dflt cell_enter
  k_steps
  · rename (_ != _) = true => hq
    rename Obj.IsDictOf _ _ (PySem.stored _ _ _) => hS
    rename Fr h₀ L _ m => kF
    rename News h₀ L _ _ => kN
    exact hret _ _ _ kF (fun p hp => kN p (.tail _ hp)) (by rw [if_pos hq]; exact ⟨_, hS, hR.stored _ _ _⟩)
  · rename (_ != _) = false => hq
    rename Obj.IsDictOf _ _ (PySem.without _ _) => hS
    rename Fr h₀ L _ m => kF
    rename News h₀ L _ _ => kN
    exact hret _ _ _ kF (fun p hp => kN p (.tail _ hp)) (by rw [if_neg (by rw [hq]; decide)]; exact ⟨_, hS, hR.without _⟩)
  · exfalso
    rename (_ != _) = false => hq
    rename Option.isSome _ = false => hz
    rw [hR.isSome] at hz
    rcases hok with h | h
    · rw [hq] at h; cases h
    · rw [hz] at h; cases h
end

section
open PySem PySem.W PyProof.Rows PySem.Calls
set_option Elab.async false
set_option maxRecDepth 100000
set_option maxHeartbeats 0
set_option linter.unusedVariables false
theorem fresh_F6 : True := by w_top off; trivial
local macro_rules | `(tactic| walk_at "call ref") => `(tactic| (k_here; (with_reducible show wpAny _ _ (call (Value.ref 65) _) _ _ _); k_dflt (refine' line_number_spec _ ?B ?F ?X ?N ?T ?hk ?hp ?hd ?hu ?_; (case B => k_asm); (case F => k_asm); (case X => k_asm); (case N => k_asm); (case T => k_asm); (case hk => exact rfl); (case hp => omega); (case hd => ktr_room); (case hu => ktr_units)); intro t9 h9 tk9 F9 N9; (try dsimp only)))
theorem auto_row_spec (w : World) {mean : ExcName → Option Value} {mg mb : Str → Option Value} {dp un : Nat} {gd : Option (List Code)} {cn : Str} {cs : Scope} {a : Addr} {ccd : Value} {cl : List (Str × Addr)} {outer : List Env} {A₀ : Around} {base h₀ : Heap} {L : Addr} {m : Str → Option Value} {s : Shared} {Q E : Value → Shared → Prop} {news : List (Addr × Obj)} {d : Addr} {o : Obj} {P : Prg} {x : Str} {t t' : Tok} {n : Int} (B : Below A₀ base outer h₀) (F : Fr h₀ L s.heap m) (X : (Mine.hd.heap_1 w.params).In h₀) (T : Top Mine.view (looseW Mine.view [Str.ofString "BasicError"]) mean mg mb h₀) (hk : cs.kind = .function) (N : News h₀ L s.heap ((d, o) :: news))
  (hdn : ∀ p ∈ news, p.1 ≠ d) (ho : DictIs w o P) (hlen : P.length ≤ 1000) (lo : (d == sysModules) = false) (hn : 0 ≤ n ∧ n ≤ 65529) (hxl : x.length ≤ 1000) (hd : dp + 2 < recursionLimit) (hu : un + 16 < cLine)
  (hret : ∀ (v : Bool) (h' : Heap) (o' : Obj) (tk' : Nat), Fr h₀ L h' m → News h₀ L h' ((d, o') :: news) → DictIs w o' (if (Txt.stripChars x (Str.ofString " ") == Str.ofString "") = true then P else put P n (Txt.stripChars x (Str.ofString " "))) → Q (.bool v) { s with heap := h', toks := tk' }) :
  wpAny (model PySem.Challenge.rw_xm0026_01.row.prog w) (ktrTop dp un gd cn cs L a ccd cl outer) (call (.ref 110) [.ref d, .int n t, .str x t']) Q E s := by
  obtain ⟨kvs, hD, hR⟩ := ho
  have hlen' : kvs.length ≤ 1000 := by rw [hR.length]; exact hlen
  revert X; k_fill; intro X
  refine wpAny_call ?_
  k_dflt cell_enter
  k_steps
  · rename (_ == _) = true => hq
    rename Fr h₀ L _ m => kF
    rename News h₀ L _ _ => kN
    exact hret _ _ _ _ kF kN (by rw [if_pos hq]; exact ⟨_, hD, hR⟩)
  · rename (_ == _) = false => hq
    rename Obj.IsDictOf _ _ (PySem.stored _ _ _) => hS
    rename Fr h₀ L _ m => kF
    rename News h₀ L _ _ => kN
    exact hret _ _ _ _ kF kN (by rw [if_neg (by rw [hq]; decide)]; exact ⟨_, hS, hR.stored _ _ _⟩)
end

section
open PySem PySem.W PyProof.Rows PySem.Calls
set_option Elab.async false
set_option maxRecDepth 100000
set_option maxHeartbeats 0
set_option linter.unusedVariables false
theorem fresh_F11 : True := by w_top off; trivial
theorem law_typed_spec (w : World) {mean : ExcName → Option Value} {mg mb : Str → Option Value} {dp un : Nat} {gd : Option (List Code)} {cn : Str} {cs : Scope} {a : Addr} {ccd : Value} {cl : List (Str × Addr)} {outer : List Env} {A₀ : Around} {base h₀ : Heap} {L : Addr} {m : Str → Option Value} {s : Shared} {Q E : Value → Shared → Prop} {news : List (Addr × Obj)} {b q : Addr} {ws : List Value} {zs : List Int} {n1 n2 : Nat} {spot below : Int} {t t' : Tok} (B : Below A₀ base outer h₀) (F : Fr h₀ L s.heap m) (X : (Mine.hd.heap_1 w.params).In h₀) (T : Top Mine.view (looseW Mine.view [Str.ofString "BasicError"]) mean mg mb h₀) (hk : cs.kind = .function) (N : News h₀ L s.heap ((b, listOf #[.ref q, .int spot t] n1) :: (q, listOf ws.toArray n2) :: news))
  (hbq : b ≠ q) (hbn : ∀ p ∈ news, p.1 ≠ b) (hI : IntsAre ws zs) (hz : zs.length ≤ 1000) (hs0 : 0 ≤ spot) (hs1 : spot ≤ 1000) (hb0 : 0 < below) (hb1 : below ≤ 100) (hd : dp + 2 < recursionLimit) (hu : un + 16 < cLine)
  (hret : ∀ r t1 t2 h' tk', 0 ≤ r → r < below → Fr h₀ L h' m → News h₀ L h' ((b, listOf #[.ref q, .int (spot + 1) t2] n1) :: (q, listOf ws.toArray n2) :: news) → Q (.int r t1) { s with heap := h', toks := tk' }) :
  wpAny (model PySem.Challenge.rw_xm0026_01.row.prog w) (ktrTop dp un gd cn cs L a ccd cl outer) (call (.ref 117) [.ref b, .int below t']) Q E s := by
  revert X; k_fill; intro X
  refine wpAny_call ?_
  k_dflt cell_enter
  k_steps
  all_goals
    rename Fr h₀ L _ m => kF
    rename News h₀ L _ _ => kN
    exact hret _ _ _ _ _ (Int.fmod_nonneg_of_pos _ hb0) (Int.fmod_lt_of_pos _ hb0) kF kN
end

section
open PySem PySem.W PyProof.Rows PySem.Calls
set_option Elab.async false
set_option maxRecDepth 100000
set_option maxHeartbeats 0
set_option linter.unusedVariables false
theorem fresh_F10 : True := by w_top off; trivial
local macro_rules | `(tactic| walk_at "exec For Name Name cons nil") => `(tactic| refine hold ?_)
local macro_rules | `(tactic| walk_at "exec For") => `(tactic| refine hold ?_)
theorem News.swap {h₀ h : Heap} {L : Addr} {a b : Addr × Obj} {l : List (Addr × Obj)} (N : News h₀ L h (a :: b :: l)) : News h₀ L h (b :: a :: l) := fun p hp => by
  rcases List.mem_cons.mp hp with rfl | hp
  · exact N _ (.tail _ (.head _))
  · rcases List.mem_cons.mp hp with rfl | hp
    · exact N _ (.head _)
    · exact N _ (.tail _ (.tail _ hp))
/-- a text that program_of_rows takes as the line k with the rest r -/
structure RowOk (x : Str) (k : Int) (r : Str) : Prop where
  signs : (Txt.stripChars x (Str.ofString " \t\r") != Str.ofString "") = true
  row : RowIs (Txt.rstripChars x (Str.ofString "\r")) k r
  full : (Txt.stripChars r (Str.ofString " ") != Str.ofString "") = true
  len : x.length ≤ 1000
  rlen : r.length ≤ 1000
inductive RowsOk : List Str → List (Int × Str) → Prop
  | nil : RowsOk [] []
  | cons {x k r xs ks} : RowOk x k r → RowsOk xs ks → RowsOk (x :: xs) ((k, r) :: ks)
def enter (P : Prg) (q : Int × Str) : Prg := put P q.1 (Txt.rstripChars q.2 (Str.ofString " "))
theorem rows_at {ys : List Value} {xs : List Str} {ks : List (Int × Str)} (h : StrsAre ys xs) (h2 : RowsOk xs ks) : ys.length = ks.length ∧ ∀ {i : Nat} {v : Value}, ys[i]? = some v → ∃ x t k r, v = .str x t ∧ RowOk x k r ∧ ks[i]? = some (k, r) := by
  induction h generalizing ks with
  | nil => cases h2; exact ⟨rfl, fun h => by cases h⟩
  | cons x t _ ih =>
    cases h2 with
    | cons h1 h2 =>
      obtain ⟨e, h3⟩ := ih h2
      refine ⟨by simp [e], fun {i v} hi => ?_⟩
      cases i with
      | zero => cases hi; exact ⟨_, _, _, _, rfl, h1, rfl⟩
      | succ i => exact h3 (by simpa using hi)
theorem foldl_enter_length : ∀ (l : List (Int × Str)) (P : Prg), (l.foldl enter P).length ≤ P.length + l.length
  | [], _ => Nat.le_refl _
  | q :: l, P => by
    have := foldl_enter_length l (enter P q)
    have h2 := put_length P q.1 (Txt.rstripChars q.2 (Str.ofString " "))
    rw [List.foldl_cons, List.length_cons]
    unfold enter at this ⊢
    omega
local macro_rules | `(tactic| walk_at "call ref") => `(tactic| (k_here; (with_reducible show wpAny _ _ (call (Value.ref 79) _) _ _ _); k_dflt (refine' enter_row_spec _ ?B ?F ?X ?T ?hk ?N ?hdn ?ho ?hlen ?lo ?hr ?hrl (Or.inl ?hok) ?hd ?hu ?_; (case B => k_asm); (case F => k_asm); (case X => k_asm); (case T => k_asm); (case hk => exact rfl); (case N => exact News.swap (by k_asm)); (case hdn => assumption); (case ho => assumption); (case hlen => omega); (case lo => assumption); (case hr => assumption); (case hrl => assumption); (case hok => assumption); (case hd => ktr_room); (case hu => ktr_units)); intro h8 o8 tk8 F8 N8 d8; (try dsimp only)))
theorem program_of_rows_spec (w : World) {mean : ExcName → Option Value} {mg mb : Str → Option Value} {dp un : Nat} {gd : Option (List Code)} {cn : Str} {cs : Scope} {a : Addr} {ccd : Value} {cl : List (Str × Addr)} {outer : List Env} {A₀ : Around} {base h₀ : Heap} {L : Addr} {m : Str → Option Value} {s : Shared} {Q E : Value → Shared → Prop} {news : List (Addr × Obj)} {l : Addr} {ys : List Value} {n0 : Nat} {xs : List Str} {ks : List (Int × Str)} (B : Below A₀ base outer h₀) (F : Fr h₀ L s.heap m) (X : (Mine.hd.heap_1 w.params).In h₀) (N : News h₀ L s.heap news) (T : Top Mine.view (looseW Mine.view [Str.ofString "BasicError"]) mean mg mb h₀) (hk : cs.kind = .function) (hm : (l, listOf ys.toArray n0) ∈ news) (hS : StrsAre ys xs) (hK : RowsOk xs ks) (hlen : ks.length < 60) (hd : dp + 5 < recursionLimit) (hu : un + 40 < cLine)
  (hret : ∀ D oD h' tk', Fr h₀ L h' m → News h₀ L h' ((D, oD) :: news) → (∀ p ∈ news, p.1 < D) → (D == sysModules) = false → DictIs w oD (ks.foldl enter []) → Q (.ref D) { s with heap := h', toks := tk' }) :
  wpAny (model PySem.Challenge.rw_xm0026_01.row.prog w) (ktrTop dp un gd cn cs L a ccd cl outer) (call (.ref 103) [.ref l]) Q E s := by
  obtain ⟨hyl, hat⟩ := rows_at hS hK
  revert X; k_fill; intro X
  refine wpAny_call ?_
  k_dflt cell_enter
  k_steps
  rename_i g' L' _ FG' B' X' T' d _ o l1 lo hs' fs' hi' fi' h' F' N'
  unfold Hold
  generalize hmB : (fun y => if y = Str.ofString "found" then _ else _) = mB at F'
  have j0 : (∃ u, mB = upo mB "row" u) ∧ ∃ o', (d, o) :: news = (d, o') :: news ∧ DictIs w o' ((ks.take 0).foldl enter []) := ⟨⟨_, upo_self⟩, o, rfl, [], hi', Rep.nil⟩
  refine for_name (h₀ := g') (L := L') (l := l) (vs := ys) (lo := listOf ys.toArray n0) rfl rfl (fun i m led => (∃ u, m = upo mB "row" u) ∧ ∃ o', led = (d, o') :: news ∧ DictIs w o' ((ks.take i).foldl enter [])) F' N' j0 ?_ ?_ ?_ ?_
  · rintro i m led ⟨_, o', rfl, _⟩
    exact .tail _ hm
  · subst hmB
    k_steps
  · rintro i v m₁ led₁ I io h tk hv ⟨⟨u, rfl⟩, o', rfl, ho'⟩ hI F8 N8 PP hPP
    obtain ⟨x, t, k, r, rfl, ⟨r1, r2, r3, r4, r5⟩, hk8⟩ := hat hv
    have hdn : ∀ p ∈ (I, io) :: news, p.1 ≠ d := fun p hp => by
      rcases List.mem_cons.mp hp with rfl | hp
      · exact Ne.symm (hI _ (.head _))
      · exact Nat.ne_of_lt (l1 p hp)
    have hI1 : d ≠ I := hI _ (.head _)
    have hlen8 : ((ks.take i).foldl enter []).length ≤ 60 := by
      refine Nat.le_trans (foldl_enter_length _ _) ?_
      rw [List.length_nil, Nat.zero_add]
      rw [List.length_take]; omega
    clear F' N' j0
    subst hmB
    k_steps
    rename DictIs _ _ _ => d9
    rename Fr g' L' _ _ => F7
    rename News g' L' _ _ => N7
    rw [if_pos r3] at d9
    refine hPP _ _ ⟨_, _, _, _, rfl, F7, News.swap N7, ?_, ⟨_, upo_upo⟩, _, rfl, ?_⟩
    · intro p hp
      rcases List.mem_cons.mp hp with rfl | hp
      · exact hI1
      · exact hI p (.tail _ hp)
    · have e : ks.take (i + 1) = ks.take i ++ [(k, r)] := by rw [List.take_add_one, hk8]; rfl
      rw [e, List.foldl_append]
      exact d9
  · rintro h tk m led ⟨⟨u, rfl⟩, o', rfl, ho'⟩ F8 N8
    clear F' N' j0
    subst hmB
    k_steps
    rename News h₀ L _ _ => kN
    rename Fr h₀ L _ m => kF
    exact hret _ _ _ _ kF kN l1 lo (by rw [hyl, List.take_length] at ho'; exact ho')
end
section
local macro_rules | `(tactic| cell_enter) => `(tactic| (refine' code_defC ?k1 ?k2 ?k3 ?k4 ?k5 ?kA ?kF ?kK ?k6 ?k7 ?k8 ?k9 ?kB ?kD ?_ ?c2 ?c3 ?c4; (case kA => exact rfl); (case kF => exact rfl); (case kK => assumption); (case k1 => k_asm); (case k2 => k_asm); (case k3 => k_asm); (case k4 => k_asm); (case k5 => k_asm); (case k6 => k_is); (case k7 => k_is); (case k8 => ktr_room); (case k9 => exact BindsTo.of_eq rfl); (case kB => exact rfl); (case kD => decide +kernel); (case c2 => exact rfl); (case c3 => exact rfl); (case c4 => exact rfl); k_whole; intro g' L' h' tk' cells' FG' F' N' Y' B' X' T' l1; (try k_lt l1); k_cells Y'; (try simp only [List.cons_append, List.nil_append] at N'); (try dsimp only); (try k_lift B'); (try k_fold)))
local macro_rules | `(tactic| k_mem) => `(tactic| first | assumption | exact List.Mem.head _ | (refine' List.Mem.tail _ ?_; k_mem))
local macro_rules | `(tactic| walk_at "eval Name") => `(tactic| (k_dflt (refine' cname_local ?n ?v ?_ ?k ?l; (case k => rfl); (case l => rfl); (case n => assumption); (case v => assumption); k_whole)))
local macro_rules | `(tactic| walk_at "call builtin:sorted") => `(tactic| (k_here; (with_reducible show wpAny _ _ (call (Value.builtin "sorted") [Value.ref _]) _ _ _); k_dflt (refine' ksorted ?hh ?F ?N ?p ?d ?l ?z ?_; (case hh => rfl); (case F => k_asm); (case N => k_asm); (case p => k_mem); (case d => assumption); (case l => assumption); (case z => omega)); intro B9 h9 tk9 vs9 e9 F9 N9 l9 I9))

section
open PySem PySem.W PyProof.Rows PySem.Calls
set_option Elab.async false
set_option maxRecDepth 100000
set_option maxHeartbeats 0
set_option linter.unusedVariables false
theorem fresh_F7 : True := by w_top off; trivial
section
variable {M : Model} {A : Around} {E : Value → Shared → Prop} {s : Shared} {scope : Scope} {cl : List (Str × Addr)} {C : Addr} {env : Env} {m₃ : Str → Option Value}
theorem cname_local {x : Str} {pos : Pos} {v : Value} {Q : Value → Shared → Prop} (hn : s.heap.Ns C m₃) (hv : m₃ x = some v) (h : Q v s) (hk : (compEnvC scope cl C env).scope.kind = .function) (hl : (compEnvC scope cl C env).kindOf x = some .local)
    (hd : (x == ("__debug__" : Str)) = false := by decide) : wpAny M A (eval (.Name x pos) (compEnvC scope cl C env)) Q E s := wpAny_Name (wpAny_loadName_local hk hl hn hv h) hd
theorem cname_cell {x : Str} {pos : Pos} {c : Addr} {v : Value} {oc : Obj} {Q : Value → Shared → Prop} (hc : cl.lookup x = some c) (ho : s.heap.get? c = some oc) (hv : oc.data = .cell (some v)) (h : Q v s) (hk : (compEnvC scope cl C env).scope.kind = .function) (hl : (compEnvC scope cl C env).kindOf x = some .cell)
    (hd : (x == ("__debug__" : Str)) = false := by decide) : wpAny M A (eval (.Name x pos) (compEnvC scope cl C env)) Q E s := wpAny_Name (wpAny_loadName_cell hk hl hc ⟨oc, ho, hv⟩ h) hd
end
theorem items_id {vs ys : List Value} {os : Led} (h : Items (fun v y os => y = v ∧ os = []) vs ys os) : ys = vs ∧ os = [] := by
  induction h with
  | nil => exact ⟨rfl, rfl⟩
  | snoc _ g ih => obtain ⟨rfl, rfl⟩ := g; obtain ⟨rfl, rfl⟩ := ih; exact ⟨rfl, rfl⟩
theorem ints_mem {vs : List Value} {ns : List Int} (h : IntsAre vs ns) {v : Value} (hv : v ∈ vs) : ∃ k t, v = .int k t ∧ k ∈ ns := by
  induction h with
  | nil => cases hv
  | cons a t _ ih =>
    rcases List.mem_cons.mp hv with rfl | hv
    · exact ⟨_, _, rfl, .head _⟩
    · obtain ⟨k, u, e, m⟩ := ih hv; exact ⟨k, u, e, .tail _ m⟩
theorem ints_filter {q : Int → Bool} {p : Value → Bool} (hp : ∀ k t, p (.int k t) = q k) {vs : List Value} {ns : List Int} (h : IntsAre vs ns) : IntsAre (vs.filter p) (ns.filter q) := by
  induction h with
  | nil => exact .nil
  | cons a t _ ih =>
    rw [List.filter_cons, List.filter_cons, hp]
    cases q a with
    | true => exact .cons _ _ ih
    | false => exact ih
theorem keeps_toks {s : Shared} {h : Heap} {tk tk' : Nat} : Keeps { s with heap := h, toks := tk } { s with heap := h, toks := tk' } := ⟨h, tk', rfl, fun _ _ e => e⟩
/-- the numbers of P from a to b, rising -/
def within (P : Prg) (a b : Int) : List Int := (sortI (P.map (·.1))).filter fun k => decide (a ≤ k) && decide (k ≤ b)
theorem numbers_within_spec (w : World) {mean : ExcName → Option Value} {mg mb : Str → Option Value} {dp un : Nat} {gd : Option (List Code)} {cn : Str} {cs : Scope} {a : Addr} {ccd : Value} {cl : List (Str × Addr)} {outer : List Env} {A₀ : Around} {base h₀ : Heap} {L : Addr} {m : Str → Option Value} {s : Shared} {Q E : Value → Shared → Prop} {news : List (Addr × Obj)} {d : Addr} {o : Obj} {P : Prg} {a0 b0 : Int} {t t' : Tok} (B : Below A₀ base outer h₀) (F : Fr h₀ L s.heap m) (X : (Mine.hd.heap_1 w.params).In h₀) (N : News h₀ L s.heap news) (T : Top Mine.view (looseW Mine.view [Str.ofString "BasicError"]) mean mg mb h₀) (hk : cs.kind = .function) (hm : (d, o) ∈ news)
  (ho : DictIs w o P) (hlen : P.length < 60) (lo : (d == sysModules) = false) (hd : dp + 2 < recursionLimit) (hu : un + 16 < cLine)
  (hret : ∀ (D : Addr) (ys : List Value) (n : Nat) (h' : Heap) (tk' : Nat), Fr h₀ L h' m → News h₀ L h' ((D, listOf ys.toArray n) :: news) → (∀ p ∈ news, p.1 < D) → IntsAre ys (within P a0 b0) → Q (.ref D) { s with heap := h', toks := tk' }) :
  wpAny (model PySem.Challenge.rw_xm0026_01.row.prog w) (ktrTop dp un gd cn cs L a ccd cl outer) (call (.ref 84) [.ref d, .int a0 t, .int b0 t']) Q E s := by
  obtain ⟨kvs, hD, hR⟩ := ho
  have hlen' : kvs.length < 60 := by rw [hR.length]; exact hlen
  revert X; k_fill; intro X
  refine wpAny_call ?_
  k_dflt cell_enter
  rename_i g' L' h' tk' FG' F' B' X' T' l1 o1 o2 d1 d2 N'
  refine wpAny_execs_cons ?_
  refine wpAny_Return_some ?_
  refine' comp_list (h₀ := g') (L := L') (fun v => match v with | .int k _ => decide (a0 ≤ k) && decide (k ≤ b0) | _ => false) (fun v y os => y = v ∧ os = []) ?hclos ?hcell ?hkind ?hnames ?hx ?hh ?goal
  case hclos => with_unfolding_all rfl
  case hcell => decide
  case hkind => rfl
  case hnames => decide
  case hx => rfl
  case hh => rfl
  case goal =>
    iterate 7 walk1
    refine ⟨_, _, _, _, _, _, _, rfl, rfl, by assumption, by assumption, .head _, ?_, ?_, ?_, ?_⟩
    · rename IntsAre _ _ => hI
      have := hI.length
      rw [this, (sortI_perm _).length_eq, List.length_map]; omega
    · intro C v h₃ tk₃ m₃ hv hn hm F₃ N₃
      rename IntsAre _ _ => hI
      obtain ⟨k, u, rfl, -⟩ := ints_mem hI hv
      k_steps
      · rename a0 ≤ k => hle
        simp [hle]
      · exact keeps_toks
      · rename ¬ a0 ≤ k => hle
        simp [hle]
      · exact keeps_toks
    · intro C v h₃ tk₃ m₃ hv hpv hn hm F₃ N₃
      refine cname_local hn hm ⟨[], ⟨rfl, rfl⟩, keeps_toks, fun _ h => nomatch h⟩ rfl rfl
    · intro D h' tk ys os n lD los F₄ N₄ hit
      obtain ⟨rfl, rfl⟩ := items_id hit
      k_steps
      rename Fr h₀ L _ m => kF
      rename News h₀ L _ _ => kN
      rename IntsAre _ _ => hI
      refine hret _ _ n _ _ kF (fun p hp => ?_) (fun p hp => ?_) (by rw [within, ← hR.keys]; exact ints_filter (p := fun v => match v with | .int k _ => decide (a0 ≤ k) && decide (k ≤ b0) | _ => false) (q := fun k => decide (a0 ≤ k) && decide (k ≤ b0)) (fun _ _ => rfl) hI)
      · rcases List.mem_cons.mp hp with rfl | hp
        · exact kN _ (.head _)
        · exact kN _ (.tail _ (.tail _ (.tail _ (.tail _ hp))))
      · exact lD _ (.tail _ (.tail _ (.tail _ hp)))
end

section
open PySem PySem.W PyProof.Rows PySem.Calls
set_option Elab.async false
set_option maxRecDepth 100000
set_option maxHeartbeats 0
set_option linter.unusedVariables false
theorem has_del (P : Prg) (j k : Int) : has (del P j) k = (has P k && decide (k ≠ j)) := by
  unfold has del
  induction P with
  | nil => rfl
  | cons p P ih =>
    rw [List.filter_cons, List.any_cons]
    by_cases h1 : p.1 = j
    · rw [if_neg (by simp [h1]), ih]
      by_cases h2 : k = j
      · simp [h2]
      · have : ¬ p.1 = k := fun e => h2 (e.symm.trans h1)
        simp [this]
    · rw [if_pos (by simp [h1]), List.any_cons, ih]
      by_cases h2 : p.1 = k
      · have : k ≠ j := fun e => h1 (h2.trans e)
        simp [h2, this]
      · simp [h2]
theorem has_foldl {k : Int} : ∀ {l : List Int} {P : Prg}, k ∉ l → has (l.foldl del P) k = has P k
  | [], _, _ => rfl
  | j :: l, P, h => by
    rw [List.foldl_cons, has_foldl (fun hm => h (.tail _ hm)), has_del]
    have : k ≠ j := fun e => h (e ▸ .head _)
    simp [this]
theorem within_mem {P : Prg} {a b k : Int} (h : k ∈ within P a b) : has P k = true ∧ a ≤ k ∧ k ≤ b := by
  unfold within at h
  obtain ⟨h1, h2⟩ := List.mem_filter.mp h
  obtain ⟨p, hp, e⟩ := List.mem_map.mp ((sortI_perm _).mem_iff.mp h1)
  simp only [Bool.and_eq_true, decide_eq_true_eq] at h2
  exact ⟨List.any_eq_true.mpr ⟨p, hp, by simpa using e⟩, h2⟩
theorem within_nodup {P : Prg} (h : (P.map (·.1)).Nodup) (a b : Int) : (within P a b).Nodup := ((sortI_perm _).nodup_iff.mpr h).filter _
theorem nodup_take {l : List Int} (h : l.Nodup) {i : Nat} {k : Int} (e : l[i]? = some k) : k ∉ l.take i ∧ l.take (i + 1) = l.take i ++ [k] := by
  obtain ⟨hi, rfl⟩ := List.getElem?_eq_some_iff.mp e
  refine ⟨fun hm => ?_, by rw [List.take_add_one, e]; rfl⟩
  have h2 := h
  rw [← List.take_append_drop i l, List.drop_eq_getElem_cons hi] at h2
  exact (List.nodup_append.mp h2).2.2 _ hm _ (.head _) rfl
theorem ints_at {vs : List Value} {ns : List Int} (h : IntsAre vs ns) {i : Nat} {v : Value} (hv : vs[i]? = some v) : ∃ k t, v = .int k t ∧ ns[i]? = some k := by
  induction h generalizing i with
  | nil => cases hv
  | cons a t _ ih =>
    cases i with
    | zero => cases hv; exact ⟨_, _, rfl, rfl⟩
    | succ i => exact ih (by simpa using hv)
theorem foldl_del_length : ∀ (l : List Int) (P : Prg), (l.foldl del P).length ≤ P.length
  | [], _ => Nat.le_refl _
  | j :: l, P => Nat.le_trans (foldl_del_length l (del P j)) (del_length P j)
end

section
open PySem PySem.W PyProof.Rows PySem.Calls
set_option Elab.async false
set_option maxRecDepth 100000
set_option maxHeartbeats 0
set_option linter.unusedVariables false
theorem fresh_F9 : True := by w_top off; trivial
local macro_rules | `(tactic| walk_at "call ref") => `(tactic| (k_here; (with_reducible show wpAny _ _ (call (Value.ref 84) _) _ _ _); k_dflt (refine' numbers_within_spec _ ?B ?F ?X ?N ?T ?hk ?hm ?ho ?hl ?lo ?hd ?hu ?_; (case B => k_asm); (case F => k_asm); (case X => k_asm); (case N => k_asm); (case T => k_asm); (case hk => exact rfl); (case hm => k_mem); (case ho => assumption); (case hl => omega); (case lo => assumption); (case hd => ktr_room); (case hu => ktr_units)); intro D9 ys9 n9 h9 tk9 F9 N9 l9 I9; (have e9 := IntsAre.length I9); (try dsimp only)))
local macro_rules | `(tactic| walk_at "subscriptTail") => `(tactic| (k_here; (with_reducible show wpAny _ _ (subscriptTail _ _ (Value.ref _) (Value.int _ _)) _ _ _); k_dflt (refine' kda_item (knd := PySem.intKind _ _) ?N ?m ?d (intKind_is _ _ _ _) ?l ?_; (case N => k_asm); (case m => k_mem); (case d => assumption); (case l => assumption); k_whole)))
def AreAll (R : Value → Value → Prop) : List Value → List Value → Prop
  | [], [] => True
  | a :: l, b :: r => R a b ∧ AreAll R l r
  | _, _ => False
theorem AreAll.snoc {R : Value → Value → Prop} {a b : Value} (h : R a b) : ∀ {l r : List Value}, AreAll R l r → AreAll R (l ++ [a]) (r ++ [b])
  | [], [], _ => ⟨h, trivial⟩
  | _ :: _, _ :: _, ⟨h1, h2⟩ => ⟨h1, h2.snoc h⟩
theorem AreAll.imp {R S : Value → Value → Prop} (h : ∀ v y, R v y → S v y) : ∀ {l r : List Value}, AreAll R l r → AreAll S l r
  | [], [], _ => trivial
  | _ :: _, _ :: _, ⟨h1, h2⟩ => ⟨h _ _ h1, h2.imp h⟩
theorem items_all {G : Value → Value → Led → Prop} (hG : ∀ v y o, G v y o → o = []) {vs ys : List Value} {os : Led} (h : Items G vs ys os) : AreAll (fun v y => G v y []) vs ys ∧ os = [] := by
  induction h with
  | nil => exact ⟨trivial, rfl⟩
  | snoc _ g ih =>
    obtain ⟨ih, rfl⟩ := ih
    have e := hG _ _ _ g
    subst e
    exact ⟨ih.snoc g, rfl⟩
theorem strs_of {f : Int → Str} : ∀ {vs : List Value} {ns : List Int} {ys : List Value}, IntsAre vs ns → AreAll (fun v y => ∃ k t t', v = .int k t ∧ y = .str (f k) t') vs ys → StrsAre ys (ns.map f)
  | _, _, [], .nil, _ => .nil
  | _, _, y :: ys, .cons a t h, ⟨⟨k, u, u', e1, e2⟩, h2⟩ => by
    cases e1; subst e2
    exact .cons _ _ (strs_of h h2)
/-- a line as a row -/
def rowOf (k : Int) (x : Str) : Str := Str.ofString (toString k) ++ Str.ofString " " ++ x
def lineOf (P : Prg) (k : Int) : Str := (get P k).getD (Str.ofString "")
def listing (P : Prg) (a b : Int) : List Str := (within P a b).map fun k => rowOf k (lineOf P k)
theorem get_has {P : Prg} {k : Int} (h : has P k = true) : get P k = some (lineOf P k) := by
  unfold lineOf
  cases e : get P k with
  | some x => rfl
  | none =>
    exfalso
    unfold get at e
    unfold has at h
    obtain ⟨p, hp, hk⟩ := List.any_eq_true.mp h
    have := List.find?_eq_none.mp (Option.map_eq_none_iff.mp e) p hp
    exact this hk
theorem listed_rows_spec (w : World) {mean : ExcName → Option Value} {mg mb : Str → Option Value} {dp un : Nat} {gd : Option (List Code)} {cn : Str} {cs : Scope} {a : Addr} {ccd : Value} {cl : List (Str × Addr)} {outer : List Env} {A₀ : Around} {base h₀ : Heap} {L : Addr} {m : Str → Option Value} {s : Shared} {Q E : Value → Shared → Prop} {news : List (Addr × Obj)} {d : Addr} {o : Obj} {P : Prg} {a0 b0 : Int} {t t' : Tok} (B : Below A₀ base outer h₀) (F : Fr h₀ L s.heap m) (X : (Mine.hd.heap_1 w.params).In h₀) (N : News h₀ L s.heap news) (T : Top Mine.view (looseW Mine.view [Str.ofString "BasicError"]) mean mg mb h₀) (hk : cs.kind = .function) (hm : (d, o) ∈ news)
  (ho : DictIs w o P) (hlen : P.length < 60) (hlim : ∀ k, has P k = true → 0 ≤ k ∧ k ≤ 65529) (htx : ∀ k x, get P k = some x → x.length ≤ 1000) (lo : (d == sysModules) = false) (hd : dp + 3 < recursionLimit) (hu : un + 24 < cLine)
  (hret : ∀ (D : Addr) (ys : List Value) (n : Nat) (h' : Heap) (tk' : Nat), Fr h₀ L h' m → News h₀ L h' ((D, listOf ys.toArray n) :: news) → (∀ p ∈ news, p.1 < D) → StrsAre ys (listing P a0 b0) → Q (.ref D) { s with heap := h', toks := tk' }) :
  wpAny (model PySem.Challenge.rw_xm0026_01.row.prog w) (ktrTop dp un gd cn cs L a ccd cl outer) (call (.ref 96) [.ref d, .int a0 t, .int b0 t']) Q E s := by
  have hoo := ho
  obtain ⟨kvs, hD, hR⟩ := ho
  have hlen' : kvs.length < 60 := by rw [hR.length]; exact hlen
  revert X; k_fill; intro X
  refine wpAny_call ?_
  k_dflt cell_enter
  rename_i g' L' h' tk' FG' F' B' X' T' l1 o1 d1 N'
  refine wpAny_execs_cons ?_
  refine wpAny_Return_some ?_
  refine' comp_list (h₀ := g') (L := L') (fun v => true) (fun v y os => (∃ k t t', v = .int k t ∧ y = .str (rowOf k (lineOf P k)) t') ∧ os = []) ?hclos ?hcell ?hkind ?hnames ?hx ?hh ?goal
  case hclos => with_unfolding_all rfl
  case hcell => decide
  case hkind => rfl
  case hnames => decide
  case hx => rfl
  case hh => rfl
  case goal =>
    iterate 12 walk1
    rename News g' L' _ ((_, listOf _ _) :: _ :: news) => N9
    rename IntsAre _ _ => I9
    rename Fr g' L' _ _ => F9
    refine ⟨_, _, _, _, _, _, _, rfl, rfl, F9, N9, .head _, ?_, ?_, ?_, ?_⟩
    · have := I9.length
      rw [this]
      refine Nat.le_trans (List.length_filter_le _ _) ?_
      rw [(sortI_perm _).length_eq, List.length_map]; omega
    · intro C v h₃ tk₃ m₃ hv hn hm F₃ N₃
      k_steps
      exact keeps_toks
    · intro C v h₃ tk₃ m₃ hv hpv hn hm F₃ N₃
      obtain ⟨k, u, rfl, hk⟩ := ints_mem I9 hv
      have hk1 := (within_mem hk).1
      have hk2 := hlim k hk1
      obtain ⟨hk3, hk4⟩ := hk2
      have hg := get_has hk1
      obtain ⟨tx, hvk⟩ := hR.some hg
      have hxl := htx k _ hg
      clear N9 F9
      iterate 16 walk1
      exact ⟨[], ⟨⟨k, u, _, rfl, rfl⟩, rfl⟩, keeps_toks, fun q hq => nomatch hq⟩
    · intro D h' tk ys os n lD los F₄ N₄ hit
      obtain ⟨hA, rfl⟩ := items_all (fun v y o h => h.2) hit
      clear N9 F9
      have hS : StrsAre ys (listing P a0 b0) := strs_of (f := fun k => rowOf k (lineOf P k)) I9 (by rw [List.filter_eq_self.mpr (fun _ _ => rfl)] at hA; exact hA.imp fun v y h => h.1)
      k_steps
      rename Fr h₀ L _ m => kF
      rename News h₀ L _ _ => kN
      refine hret _ _ n _ _ kF (fun p hp => ?_) (fun p hp => ?_) hS
      · rcases List.mem_cons.mp hp with rfl | hp
        · exact kN _ (.head _)
        · exact kN _ (.tail _ (.tail _ (.tail _ hp)))
      · exact lD _ (.tail _ (.tail _ hp))
end

section
open PySem PySem.W PyProof.Rows PySem.Calls
set_option Elab.async false
set_option maxRecDepth 100000
set_option maxHeartbeats 0
set_option linter.unusedVariables false
theorem fresh_F12 : True := by w_top off; trivial
local macro_rules | `(tactic| walk_at "exec For Name Name cons nil") => `(tactic| refine hold ?_)
local macro_rules | `(tactic| walk_at "exec For") => `(tactic| refine hold ?_)
local macro_rules | `(tactic| walk_at "exec Assign cons ListComp") => `(tactic| (k_here; refine hold ?_))
local macro_rules | `(tactic| walk_at "exec If") => `(tactic| (k_here; (with_reducible show wpAny _ _ (exec (Stmt.If (Expr.BoolOp BoolOp.Or _ _) _ _ _) _) _ _ _); refine hold ?_))
/-- what the law expects of a deed: the program, the lines it touched, the code -/
def own (f n l : Int) (x : Str) (P : Prg) : Prg × List Int × Str :=
  if f = 2 ∨ f = 3 ∨ f < 2 ∧ (Txt.stripChars x (Str.ofString " ") == Str.ofString "") = true then
    ((within P n (if f = 3 then l else n)).foldl del P, within P n (if f = 3 then l else n), if within P n (if f = 3 then l else n) = [] then (if f = 3 then Str.ofString "FC" else Str.ofString "UL") else Str.ofString "")
  else if (Txt.stripChars x (Str.ofString " ") == Str.ofString "") = true then (P, [], Str.ofString "")
  else (put P n (if f < 2 then Txt.rstripChars x (Str.ofString " ") else Txt.stripChars x (Str.ofString " ")), [n], Str.ofString "")
theorem own_fc {f n l hi : Int} {x : Str} {P : Prg} (hc : f = 2 ∨ f = 3 ∨ f < 2 ∧ (Txt.stripChars x (Str.ofString " ") == Str.ofString "") = true) (hhi : hi = if f = 3 then l else n) (hq : decide (within P n hi = []) = true) (h3 : f = 3) :
    own f n l x P = ((within P n hi).foldl del P, within P n hi, Str.ofString "FC") := by
  unfold own
  rw [if_pos hc, ← hhi, if_pos (of_decide_eq_true hq), if_pos h3]
theorem own_ul {f n l hi : Int} {x : Str} {P : Prg} (hc : f = 2 ∨ f = 3 ∨ f < 2 ∧ (Txt.stripChars x (Str.ofString " ") == Str.ofString "") = true) (hhi : hi = if f = 3 then l else n) (hq : decide (within P n hi = []) = true) (h3 : ¬ f = 3) :
    own f n l x P = ((within P n hi).foldl del P, within P n hi, Str.ofString "UL") := by
  unfold own
  rw [if_pos hc, ← hhi, if_pos (of_decide_eq_true hq), if_neg h3]
theorem own_ok {f n l hi : Int} {x : Str} {P : Prg} (hc : f = 2 ∨ f = 3 ∨ f < 2 ∧ (Txt.stripChars x (Str.ofString " ") == Str.ofString "") = true) (hhi : hi = if f = 3 then l else n) (hq : decide (within P n hi = []) = false) :
    own f n l x P = ((within P n hi).foldl del P, within P n hi, Str.ofString "") := by
  unfold own
  rw [if_pos hc, ← hhi, if_neg (of_decide_eq_false hq)]
theorem own_nil {f n l : Int} {x : Str} {P : Prg} (hc : ¬ (f = 2 ∨ f = 3 ∨ f < 2 ∧ (Txt.stripChars x (Str.ofString " ") == Str.ofString "") = true)) (hq : (Txt.stripChars x (Str.ofString " ") == Str.ofString "") = true) : own f n l x P = (P, [], Str.ofString "") := by
  unfold own
  rw [if_neg hc, if_pos hq]
theorem own_put1 {f n l : Int} {x : Str} {P : Prg} (hc : ¬ (f = 2 ∨ f = 3 ∨ f < 2 ∧ (Txt.stripChars x (Str.ofString " ") == Str.ofString "") = true)) (hq : (Txt.stripChars x (Str.ofString " ") == Str.ofString "") = false) (h2 : f < 2) :
    own f n l x P = (put P n (Txt.rstripChars x (Str.ofString " ")), [n], Str.ofString "") := by
  unfold own
  rw [if_neg hc, if_neg (by rw [hq]; exact Bool.false_ne_true), if_pos h2]
theorem own_put2 {f n l : Int} {x : Str} {P : Prg} (hc : ¬ (f = 2 ∨ f = 3 ∨ f < 2 ∧ (Txt.stripChars x (Str.ofString " ") == Str.ofString "") = true)) (hq : (Txt.stripChars x (Str.ofString " ") == Str.ofString "") = false) (h2 : ¬ f < 2) :
    own f n l x P = (put P n (Txt.stripChars x (Str.ofString " ")), [n], Str.ofString "") := by
  unfold own
  rw [if_neg hc, if_neg (by rw [hq]; exact Bool.false_ne_true), if_neg h2]
theorem own_order {h₀ h : Heap} {L : Addr} {a b c1 c2 c3 d : Addr × Obj} {l : List (Addr × Obj)} (N : News h₀ L h (a :: ([] ++ b :: c1 :: c2 :: c3 :: d :: l))) : News h₀ L h (a :: d :: c1 :: c2 :: c3 :: l) := fun p hp => by
  rcases List.mem_cons.mp hp with rfl | hp
  · exact N _ (.head _)
  rcases List.mem_cons.mp hp with rfl | hp
  · exact N _ (.tail _ (.tail _ (.tail _ (.tail _ (.tail _ (.head _))))))
  rcases List.mem_cons.mp hp with rfl | hp
  · exact N _ (.tail _ (.tail _ (.head _)))
  rcases List.mem_cons.mp hp with rfl | hp
  · exact N _ (.tail _ (.tail _ (.tail _ (.head _))))
  rcases List.mem_cons.mp hp with rfl | hp
  · exact N _ (.tail _ (.tail _ (.tail _ (.tail _ (.head _)))))
  · exact N _ (.tail _ (.tail _ (.tail _ (.tail _ (.tail _ (.tail _ hp))))))
theorem allLt_mem {D : Addr} {l : List (Addr × Obj)} (h : AllLt D l) : ∀ p ∈ l, p.1 < D := by
  induction l with
  | nil => intro p hp; cases hp
  | cons a l ih =>
    intro p hp
    rcases List.mem_cons.mp hp with rfl | hp
    · exact h.1
    · exact ih h.2 p hp
theorem own_end2 {h₀ h : Heap} {L : Addr} {a c d e1 e2 e3 : Addr × Obj} {l : List (Addr × Obj)} (N : News h₀ L h (a :: c :: e1 :: e2 :: e3 :: d :: l)) : News h₀ L h (a :: c :: d :: l) := fun p hp => by
  rcases List.mem_cons.mp hp with rfl | hp
  · exact N _ (.head _)
  rcases List.mem_cons.mp hp with rfl | hp
  · exact N _ (.tail _ (.head _))
  · exact N _ (.tail _ (.tail _ (.tail _ (.tail _ (.tail _ hp)))))
theorem own_end {h₀ h : Heap} {L : Addr} {a b c d e1 e2 e3 : Addr × Obj} {l : List (Addr × Obj)} (N : News h₀ L h (a :: b :: c :: d :: e1 :: e2 :: e3 :: l)) : News h₀ L h (a :: c :: d :: l) := fun p hp => by
  rcases List.mem_cons.mp hp with rfl | hp
  · exact N _ (.head _)
  rcases List.mem_cons.mp hp with rfl | hp
  · exact N _ (.tail _ (.tail _ (.head _)))
  rcases List.mem_cons.mp hp with rfl | hp
  · exact N _ (.tail _ (.tail _ (.tail _ (.head _))))
  · exact N _ (.tail _ (.tail _ (.tail _ (.tail _ (.tail _ (.tail _ (.tail _ hp)))))))
theorem law_own_spec (w : World) {mean : ExcName → Option Value} {mg mb : Str → Option Value} {dp un : Nat} {gd : Option (List Code)} {cn : Str} {cs : Scope} {a : Addr} {ccd : Value} {cl : List (Str × Addr)} {outer : List Env} {A₀ : Around} {base h₀ : Heap} {L : Addr} {m : Str → Option Value} {s : Shared} {Q E : Value → Shared → Prop} {news : List (Addr × Obj)} {d : Addr} {o : Obj} {P : Prg} {f n l : Int} {x : Str} {tf tn tl tx : Tok} (B : Below A₀ base outer h₀) (F : Fr h₀ L s.heap m) (X : (Mine.hd.heap_1 w.params).In h₀) (T : Top Mine.view (looseW Mine.view [Str.ofString "BasicError"]) mean mg mb h₀) (hk : cs.kind = .function) (N : News h₀ L s.heap ((d, o) :: news))
  (hdn : ∀ p ∈ news, p.1 ≠ d) (ho : DictIs w o P) (hlen : P.length < 60) (lo : (d == sysModules) = false) (hxl : x.length ≤ 1000) (hd : dp + 3 < recursionLimit) (hu : un + 120 < cLine)
  (hret : ∀ T G ys n0 o' h' tk' t P' lines c, own f n l x P = (P', lines, c) → Fr h₀ L h' m → News h₀ L h' ((T, { cls := .type "tuple", data := .seq #[.ref G, .str c t] }) :: (G, listOf (List.toArray ys) n0) :: (d, o') :: news) → IntsAre ys lines → DictIs w o' P' → (∀ p ∈ ((d, o') :: news), p.1 < G) → @LT.lt Nat _ G T → Q (.ref T) { s with heap := h', toks := tk' }) :
  wpAny (model PySem.Challenge.rw_xm0026_01.row.prog w) (ktrTop dp un gd cn cs L a ccd cl outer) (call (.ref 129) [.ref d, .int f tf, .int n tn, .int l tl, .str x tx]) Q E s := by
  have hoo := ho
  obtain ⟨kvs, hD, hR⟩ := ho
  have hdk : (kvs.map (·.1)).Nodup := by obtain ⟨_, _, _, _, _, _, hk0⟩ := hD; exact hk0
  have hlen' : kvs.length < 60 := by rw [hR.length]; exact hlen
  obtain ⟨hi, hhi⟩ : ∃ hi : Int, hi = if f = 3 then l else n := ⟨_, rfl⟩
  have hh3 : f = 3 → hi = l := fun h => hhi.trans (if_pos h)
  have hh4 : ¬ f = 3 → hi = n := fun h => hhi.trans (if_neg h)
  revert X; k_fill; intro X
  refine wpAny_call ?_
  k_dflt cell_enter
  rename_i g' L' h' tk' FG' F' B' X' T' l1 o1 o2 o3 d1 d2 d3 N'
  k_steps
  unfold Hold
  rename Heap => hh
  refine wpAny_If (wpAny_mono (Q := fun b s₁ => ∃ tk, s₁ = { s with heap := hh, toks := tk } ∧ (b = true ↔ (f = 2 ∨ f = 3 ∨ f < 2 ∧ (Txt.stripChars x (Str.ofString " ") == Str.ofString "") = true))) (E := fun _ _ => False) ?_ (fun b s₁ q => ?_) fun _ _ h => h.elim)
  · k_steps
    · exact ⟨fun _ => .inl (by omega), fun _ => rfl⟩
    · exact ⟨fun _ => .inr (.inl (by omega)), fun _ => rfl⟩
    · exact ⟨fun _ => .inr (.inr ⟨by omega, by assumption⟩), fun _ => rfl⟩
    · refine ⟨fun h => Bool.noConfusion h, fun h => ?_⟩
      rename (_ == _) = false => hq
      rcases h with h | h | ⟨_, h⟩
      · omega
      · omega
      · rw [hq] at h; cases h
    · refine ⟨fun h => Bool.noConfusion h, fun h => ?_⟩
      rcases h with h | h | ⟨h, _⟩ <;> omega
  obtain ⟨tk9, rfl, hb⟩ := q
  cases b with
  | true =>
    have hc := hb.mp rfl
    simp only [if_true]
    refine wpAny_execs_cons ?_
    refine' comp_listA (h₀ := g') (L := L') (fun v => match v with | .int k _ => decide (n ≤ k) && decide (k ≤ hi) | _ => false) (fun v y os => y = v ∧ os = []) rfl ?hsw ?hy ?hpp ?hclos ?hcell ?hkind ?hnames ?hx ?hh ?goal
    case hsw => with_unfolding_all rfl
    case hy => rfl
    case hpp => rfl
    case hclos => with_unfolding_all rfl
    case hcell => decide
    case hkind => rfl
    case hnames => decide
    case hx => rfl
    case hh => rfl
    case goal =>
      iterate 7 walk1
      rename IntsAre _ _ => hI
      rename News g' L' _ ((_, listOf _ _) :: _) => N9
      rename Fr g' L' _ _ => F9
      refine ⟨_, _, _, _, _, _, _, rfl, rfl, F9, N9, .head _, ?_, ?_, ?_, ?_⟩
      · have := hI.length
        rw [this, (sortI_perm _).length_eq, List.length_map]; omega
      · intro C v h₃ tk₃ m₃ hv hn hm F₃ N₃
        obtain ⟨k, u, rfl, -⟩ := ints_mem hI hv
        k_steps
        · have h1 : n ≤ k := by assumption
          show decide (k ≤ l) = (decide (n ≤ k) && decide (k ≤ hi))
          rw [decide_eq_true h1, Bool.true_and, hh3 (by omega)]
        · exact keeps_toks
        · have h1 : n ≤ k := by assumption
          show decide (k ≤ n) = (decide (n ≤ k) && decide (k ≤ hi))
          rw [decide_eq_true h1, Bool.true_and, hh4 (by omega)]
        · exact keeps_toks
        · have h1 : ¬ n ≤ k := by assumption
          show false = (decide (n ≤ k) && decide (k ≤ hi))
          rw [decide_eq_false h1]; rfl
        · exact keeps_toks
      · intro C v h₃ tk₃ m₃ hv hpv hn hm F₃ N₃
        refine cname_local hn hm ⟨[], ⟨rfl, rfl⟩, keeps_toks, fun _ h => nomatch h⟩ rfl rfl
      · intro D h' tk ys os nn lD los F₄ N₄ hit
        have hIw : IntsAre ys (within P n hi) := by
          obtain ⟨rfl, rfl⟩ := items_id hit
          rw [within, ← hR.keys]
          exact ints_filter (q := fun k => decide (n ≤ k) && decide (k ≤ hi)) (fun _ _ => rfl) hI
        obtain rfl : os = [] := (items_id hit).2
        have N₅ : News g' L' h' ((D, listOf ys.toArray nn) :: (d, o) :: (L' + 1 + 1 + 1, o1) :: (L' + 1 + 1, o2) :: (L' + 1, o3) :: news) := own_order N₄
        have e5 := hIw.length
        have hnd : (within P n hi).Nodup := within_nodup (hR.keys ▸ hdk) n hi
        have ldD : D ≠ d := Nat.ne_of_gt (lD _ (.tail _ (.tail _ (.tail _ (.tail _ (.head _))))))
        have lDn : ∀ {o'}, ∀ p ∈ ((d, o') :: news), p.1 < D := fun p hp => by
          rcases List.mem_cons.mp hp with rfl | hp
          · exact lD (d, o) (.tail _ (.tail _ (.tail _ (.tail _ (.head _)))))
          · exact lD _ (.tail _ (.tail _ (.tail _ (.tail _ (.tail _ hp)))))
        have l3D : ∀ p ∈ ((L' + 1 + 1 + 1, o1) :: (L' + 1 + 1, o2) :: (L' + 1, o3) :: news), p.1 ≠ d := by
          intro p hp
          have := l1.1
          rcases List.mem_cons.mp hp with rfl | hp
          · exact Nat.ne_of_gt (by omega)
          · rcases List.mem_cons.mp hp with rfl | hp
            · exact Nat.ne_of_gt (by omega)
            · rcases List.mem_cons.mp hp with rfl | hp
              · exact Nat.ne_of_gt (by omega)
              · exact hdn p hp
        clear hit N₄ N9 F9 hI
        generalize hmB : (fun z => if z = Str.ofString "gone" then _ else _) = mB at F₄
        have j0 : (∃ u, mB = upo mB "one" u) ∧ ∃ o', (D, listOf ys.toArray nn) :: (d, o) :: (L' + 1 + 1 + 1, o1) :: (L' + 1 + 1, o2) :: (L' + 1, o3) :: news = (D, listOf ys.toArray nn) :: (d, o') :: (L' + 1 + 1 + 1, o1) :: (L' + 1 + 1, o2) :: (L' + 1, o3) :: news ∧ DictIs w o' (((within P n hi).take 0).foldl del P) := ⟨⟨_, upo_self⟩, o, rfl, kvs, hD, hR⟩
        refine wpAny_execs_cons ?_
        refine for_name (h₀ := g') (L := L') (l := D) (vs := ys) (lo := listOf ys.toArray nn) rfl rfl (fun i m led => (∃ u, m = upo mB "one" u) ∧ ∃ o', led = (D, listOf ys.toArray nn) :: (d, o') :: (L' + 1 + 1 + 1, o1) :: (L' + 1 + 1, o2) :: (L' + 1, o3) :: news ∧ DictIs w o' (((within P n hi).take i).foldl del P)) F₄ N₅ j0 ?_ ?_ ?_ ?_
        · rintro i m led ⟨_, o', rfl, _⟩
          exact .head _
        · subst hmB
          k_steps
        · rintro i v m₁ led₁ I io h tk hv ⟨⟨u, rfl⟩, o', rfl, ho'⟩ hI F8 N8 PP hPP
          obtain ⟨k, tk8, rfl, hk8⟩ := ints_at hIw hv
          obtain ⟨kvs', hD', hR'⟩ := ho'
          have hI1 : D ≠ I := hI _ (.head _)
          have hI2 : d ≠ I := hI _ (.tail _ (.head _))
          have hlen8 : kvs'.length < 60 := by rw [hR'.length]; exact Nat.lt_of_le_of_lt (foldl_del_length _ _) hlen
          have hlt := nodup_take hnd hk8
          have hk9 := (within_mem (List.mem_of_getElem? hk8)).1
          have hv8 : (valueAt kvs' k).isSome = true := by rw [hR'.isSome, has_foldl hlt.1, hk9]
          clear N₅ F₄ hD hR j0
          subst hmB
          k_steps
          rename Obj.IsDictOf _ _ (without _ _) => d9
          rename Fr g' L' _ _ => F7
          rename News g' L' _ _ => N7
          refine hPP _ _ ⟨_, _, _, _, rfl, F7, N7, ?_, ⟨_, upo_upo⟩, _, rfl, _, d9, hlt.2 ▸ by rw [List.foldl_append]; exact hR'.without k⟩
          intro p hp
          rcases List.mem_cons.mp hp with rfl | hp
          · exact hI1
          · rcases List.mem_cons.mp hp with rfl | hp
            · exact hI2
            · exact hI p (.tail _ (.tail _ hp))
        · rintro h tk m led ⟨⟨u, rfl⟩, o', rfl, ho'⟩ F8 N8
          rw [e5, List.take_length] at ho'
          clear N₅ F₄ hD hR j0
          subst hmB
          k_steps
          all_goals
            rename Fr h₀ L _ m => kF
            rename News h₀ L _ _ => kN
            refine hret _ D ys nn o' _ _ _ _ _ _ ?_ kF (own_end kN) hIw ho' ?_ ?_
          · exact own_fc hc hhi (by rename decide _ = true => hq; exact hq) (by assumption)
          · exact lDn
          · omega
          · exact own_ul hc hhi (by rename decide _ = true => hq; exact hq) (by assumption)
          · exact lDn
          · omega
          · exact own_ok hc hhi (by rename decide _ = false => hq; exact hq)
          · exact lDn
          · omega
  | false =>
    have hc : ¬ _ := fun h => Bool.noConfusion (hb.mpr h)
    simp only [Bool.false_eq_true, if_false]
    k_steps
    · rename Fr h₀ L _ m => kF
      rename News h₀ L _ _ => kN
      rename (_ == _) = true => hq
      rename L' + 1 + 1 + 1 < _ ∧ _ => q1
      refine hret _ _ [] 0 o _ _ _ _ _ _ (own_nil hc hq) kF (own_end2 kN) .nil ⟨_, hD, hR⟩ ?_ ?_
      · intro p hp
        rcases List.mem_cons.mp hp with rfl | hp
        · exact q1.2.2.2.1
        · exact allLt_mem q1.2.2.2.2 p hp
      · omega
    all_goals
      rename Fr h₀ L _ m => kF
      rename News h₀ L _ _ => kN
      rename (_ == _) = false => hq
      rename L' + 1 + 1 + 1 < _ ∧ _ => q1
      rename Obj.IsDictOf _ _ (PySem.stored _ _ _) => hS
      refine hret _ _ [_] 0 _ _ _ _ _ _ _ ?_ kF (own_end2 kN) (.cons _ _ .nil) ⟨_, hS, hR.stored _ _ _⟩ ?_ ?_
    · exact own_put1 hc hq (by assumption)
    · intro p hp
      rcases List.mem_cons.mp hp with rfl | hp
      · exact q1.2.2.2.1
      · exact allLt_mem q1.2.2.2.2 p hp
    · omega
    · exact own_put2 hc hq (by assumption)
    · intro p hp
      rcases List.mem_cons.mp hp with rfl | hp
      · exact q1.2.2.2.1
      · exact allLt_mem q1.2.2.2.2 p hp
    · omega
end

section
open PySem PySem.W PyProof.Rows PySem.Calls
set_option Elab.async false
set_option maxRecDepth 100000
set_option maxHeartbeats 0
set_option linter.unusedVariables false
theorem readsAll_of_strs {h : Heap} : ∀ {vs : List Value} {ns : List Str}, StrsAre vs ns → ReadsAll h vs (ns.map PyData.str) []
  | _, _, .nil => .nil
  | _, _, .cons x t r => by
    have := ReadsAll.cons (Reads.str (h := h) x t) (readsAll_of_strs (h := h) r)
    simpa using this
theorem reads_of_strs {h : Heap} {a : Addr} {vs : List Value} {ns : List Str} (hl : h.IsList a vs.toArray) (hi : StrsAre vs ns) : Reads h (.ref a) (.list (ns.map PyData.str)) [a] := by
  obtain ⟨o, ho, hc, n, hd⟩ := hl
  exact Reads.list ho hc hd (by simpa using readsAll_of_strs hi)
theorem canLayAll0_strs : ∀ ns : List Str, (∀ x ∈ ns, PyData.strOk x = true) → PyData.canLayAll0 (ns.map PyData.str) = true
  | [], _ => by simp [PyData.canLayAll0]
  | n :: r, h => by simp [PyData.canLayAll0, PyData.canLay0, canLayAll0_strs r (fun x hx => h x (.tail _ hx)), h n (.head _)]
theorem depthAll_strs : ∀ ns : List Str, PyData.depthAll (ns.map PyData.str) ≤ 1
  | [] => by simp [PyData.depthAll]
  | n :: r => by
    have := depthAll_strs r
    simp only [List.map_cons, PyData.depthAll, PyData.depth]
    omega
theorem shaped_strs (ns : List Str) (h : ∀ x ∈ ns, PyData.strOk x = true) : SeqAt.shaped (.list (ns.map PyData.str)) = true := by
  have h1 := depthAll_strs ns
  have h2 : PyData.depth (.list (ns.map PyData.str)) ≤ 64 := by simp only [PyData.depth]; omega
  show (PyData.canLay0 (.list (ns.map PyData.str)) && decide (PyData.depth (.list (ns.map PyData.str)) ≤ 64)) = true
  rw [Bool.and_eq_true]
  exact ⟨by simp only [PyData.canLay0]; exact canLayAll0_strs ns h, decide_eq_true h2⟩
theorem noMix_strs : ∀ ns ms : List Str, SeqAt.noMixAll (ns.map PyData.str) (ms.map PyData.str) = true
  | [], [] => by simp [SeqAt.noMixAll]
  | [], _ :: _ => by simp [SeqAt.noMixAll]
  | _ :: _, [] => by simp [SeqAt.noMixAll]
  | _ :: r, _ :: q => by simp [SeqAt.noMixAll, SeqAt.noMix, noMix_strs r q]
theorem same_strs : ∀ ns ms : List Str, PySem.Spec.sameAll (ns.map PyData.str) (ms.map PyData.str) = decide (ns = ms)
  | [], [] => by simp [PySem.Spec.sameAll]
  | [], _ :: _ => by simp [PySem.Spec.sameAll]
  | _ :: _, [] => by simp [PySem.Spec.sameAll]
  | n :: r, k :: q => by
    simp only [List.map_cons, PySem.Spec.sameAll, PySem.Spec.same, same_strs r q]
    by_cases h : n = k <;> simp [h]
section
variable {prog : Program} {w : World} {A : Around} {E : Value → Shared → Prop} {s : Shared}
theorem ne_strsK {a b : Addr} {vs us : List Value} {ns ms : List Str} {Q : Value → Shared → Prop} (hl : s.heap.IsList a vs.toArray) (hi : StrsAre vs ns) (hl' : s.heap.IsList b us.toArray) (hi' : StrsAre us ms) (hx : ∀ x ∈ ns, PyData.strOk x = true) (hx' : ∀ x ∈ ms, PyData.strOk x = true) (hu : A.units + 64 < cLine)
    (h : Q (.bool (!decide (ns = ms))) s) : wpAny (model prog w) A (compareOp .NotEq (.ref a) (.ref b)) Q E s :=
  PyProof.Rows.ne_dataH_same (reads_of_strs hl hi) (reads_of_strs hl' hi') (shaped_strs ns hx) (shaped_strs ms hx') hu (by simp only [SeqAt.noMix]; exact noMix_strs ns ms) (by simp only [PySem.Spec.same]; rw [same_strs]; exact h)
theorem eqAt_str {x : Str} {t t' : Tok} : SeqAt.EqAt A s (.str x t) (.str x t') true := by
  have h := keq_flat (A := A) (s := s) (v := .str x t) (y := .str x t') (d := .str x) (e := .str x) (fun h => Reads.str x t) (fun h => Reads.str x t')
  have e : PyData.eqv (.str x) (.str x) = true := by simp [PyData.eqv]
  rwa [e] at h
theorem hits_of {kb : List (Int × Value)} {P' : Prg} (hb : Rep kb P') {ka : List (Int × Value)} {P : Prg} (h : Rep ka P) (hg : ∀ p ∈ P, get P' p.1 = some p.2) : KeqHits A s kb ka true := by
  induction h with
  | nil => exact .nil
  | cons e _ ih =>
    cases e with
    | mk k x t =>
      obtain ⟨t', e⟩ := hb.some (hg (k, x) (.head _))
      exact KeqHits.hit (b := true) e eqAt_str (ih (fun p hp => hg p (.tail _ hp)))
end
theorem nodup_get {P : Prg} (h : (P.map (·.1)).Nodup) {p : Int × Str} (hp : p ∈ P) : get P p.1 = some p.2 := by
  induction P with
  | nil => cases hp
  | cons a P ih =>
    rw [List.map_cons, List.nodup_cons] at h
    unfold get at ih ⊢
    rw [List.find?_cons]
    rcases List.mem_cons.mp hp with rfl | hp
    · simp
    · have : ¬ a.1 = p.1 := fun e => h.1 (e ▸ List.mem_map_of_mem hp)
      simp only [this, decide_false]
      exact ih h.2 hp
theorem perm_get {P P' : Prg} (h : (P'.map (·.1)).Nodup) (hp : P.Perm P') : ∀ p ∈ P, get P' p.1 = some p.2 := fun p hm => nodup_get h (hp.mem_iff.mp hm)
theorem sortI_eq {l l' : List Int} (h : l.Perm l') : sortI l = sortI l' :=
  List.Perm.eq_of_pairwise (le := (· ≤ ·)) (fun a b _ _ h1 h2 => Int.le_antisymm h1 h2) (sortI_pair _) (sortI_pair _) ((sortI_perm _).trans (h.trans (sortI_perm _).symm))
theorem lineOf_at {P : Prg} {k : Int} {x : Str} (h : get P k = some x) : lineOf P k = x := by unfold lineOf; rw [h]; rfl
theorem has_mem {P : Prg} {k : Int} (h : has P k = true) : ∃ x, (k, x) ∈ P := by
  obtain ⟨p, hp, hk⟩ := List.any_eq_true.mp h
  have hk := of_decide_eq_true hk
  exact ⟨p.2, by rw [← hk]; exact hp⟩
theorem within_all {P : Prg} {a b : Int} (h : ∀ p ∈ P, a ≤ p.1 ∧ p.1 ≤ b) : within P a b = sortI (P.map (·.1)) := by
  unfold within
  refine List.filter_eq_self.mpr fun k hk => ?_
  obtain ⟨p, hp, rfl⟩ := List.mem_map.mp ((sortI_perm _).mem_iff.mp hk)
  simp [h p hp]
theorem lineOf_perm {P P' : Prg} (h : (P.map (·.1)).Nodup) (h' : (P'.map (·.1)).Nodup) (hp : P.Perm P') {k : Int} (hk : k ∈ P.map (·.1)) : lineOf P k = lineOf P' k := by
  obtain ⟨p, hm, rfl⟩ := List.mem_map.mp hk
  rw [lineOf_at (nodup_get h hm), lineOf_at (perm_get h' hp p hm)]
/-- the listings of two programs that bear the same lines are the same rows -/
theorem listing_perm {P P' : Prg} {a b : Int} (h : (P.map (·.1)).Nodup) (h' : (P'.map (·.1)).Nodup) (hp : P.Perm P') (hl : ∀ p ∈ P, a ≤ p.1 ∧ p.1 ≤ b) :
    listing P a b = (sortI (P'.map (·.1))).map fun k => rowOf k (lineOf P' k) := by
  unfold listing
  rw [within_all hl, sortI_eq (hp.map _)]
  refine List.map_congr_left fun k hk => ?_
  have hk' : k ∈ P.map (·.1) := (hp.map _).mem_iff.mpr ((sortI_perm _).mem_iff.mp hk)
  rw [lineOf_perm h h' hp hk']
theorem enter_app {ks : List (Int × Str)} : ∀ {acc : Prg}, ((acc ++ ks).map (·.1)).Nodup → (∀ q ∈ ks, Txt.rstripChars q.2 (Str.ofString " ") = q.2) → ks.foldl enter acc = acc ++ ks := by
  induction ks with
  | nil => intro acc _ _; simp
  | cons q ks ih =>
    intro acc hn hr
    have e : enter acc q = acc ++ [q] := by
      unfold enter put
      have hh : has acc q.1 = false := by
        unfold has
        rw [List.any_eq_false]
        intro p hp
        rw [List.map_append, List.nodup_append] at hn
        have := hn.2.2 p.1 (List.mem_map_of_mem hp) q.1 (by simp)
        simpa using this
      rw [if_neg (by rw [hh]; decide), hr q (.head _)]
    rw [List.foldl_cons, e, ih (by simpa using hn) (fun p hp => hr p (.tail _ hp))]
    simp
/-- what is read back from the listing bears the same lines -/
theorem back_perm {P : Prg} (h : (P.map (·.1)).Nodup) (hr : ∀ p ∈ P, Txt.rstripChars p.2 (Str.ofString " ") = p.2) :
    (((sortI (P.map (·.1))).map fun k => (k, lineOf P k)).foldl enter []).Perm P := by
  have e : (P.map (·.1)).map (fun k => (k, lineOf P k)) = P := by
    rw [List.map_map]
    conv => rhs; rw [← List.map_id P]
    refine List.map_congr_left fun p hp => ?_
    simp only [Function.comp, lineOf_at (nodup_get h hp), id]
  have hp : ((sortI (P.map (·.1))).map fun k => (k, lineOf P k)).Perm P := by
    have := (sortI_perm (P.map (·.1))).map (fun k => (k, lineOf P k))
    rwa [e] at this
  rw [enter_app (by rw [List.nil_append]; exact (hp.map (·.1)).nodup_iff.mpr h) (fun q hq => hr q (hp.mem_iff.mp hq)), List.nil_append]
  exact hp
end

section
open PySem PySem.W PyProof.Rows PySem.Calls
set_option Elab.async false
set_option maxRecDepth 100000
set_option maxHeartbeats 0
set_option linter.unusedVariables false
theorem fresh_F13 : True := by w_top off; trivial
local macro_rules | `(tactic| walk_at "subscriptTail") => `(tactic| (k_here; (with_reducible show wpAny _ _ (subscriptTail _ _ (Value.ref _) (Value.int _ _)) _ _ _); k_dflt (refine' kda_item (knd := PySem.intKind _ _) ?N ?m ?d (intKind_is _ _ _ _) ?l ?_; (case N => k_asm); (case m => k_mem); (case d => assumption); (case l => assumption); k_whole)))
/-- a line of the law's programs: its row can be read back -/
structure LineOk (p : Int × Str) : Prop where
  lo : 10 ≤ p.1
  hi : p.1 ≤ 99
  row : RowOk (rowOf p.1 p.2) p.1 p.2
  tight : Txt.rstripChars p.2 (Str.ofString " ") = p.2
  ok : PyData.strOk (rowOf p.1 p.2) = true
theorem rows_ok {P : Prg} (h : (P.map (·.1)).Nodup) (hl : ∀ p ∈ P, LineOk p) : RowsOk ((sortI (P.map (·.1))).map fun k => rowOf k (lineOf P k)) ((sortI (P.map (·.1))).map fun k => (k, lineOf P k)) := by
  have : ∀ l : List Int, (∀ k ∈ l, k ∈ P.map (·.1)) → RowsOk (l.map fun k => rowOf k (lineOf P k)) (l.map fun k => (k, lineOf P k)) := by
    intro l
    induction l with
    | nil => intro _; exact .nil
    | cons k l ih =>
      intro hk
      obtain ⟨p, hp, rfl⟩ := List.mem_map.mp (hk k (.head _))
      refine .cons ?_ (ih fun j hj => hk j (.tail _ hj))
      show RowOk (rowOf p.1 (lineOf P p.1)) p.1 (lineOf P p.1)
      rw [lineOf_at (nodup_get h hp)]
      exact (hl p hp).row
  exact this _ fun k hk => (sortI_perm _).mem_iff.mp hk
theorem strs_ok {P : Prg} (h : (P.map (·.1)).Nodup) (hl : ∀ p ∈ P, LineOk p) : ∀ x ∈ (sortI (P.map (·.1))).map (fun k => rowOf k (lineOf P k)), PyData.strOk x = true := by
  intro x hx
  obtain ⟨k, hk, rfl⟩ := List.mem_map.mp hx
  obtain ⟨p, hp, rfl⟩ := List.mem_map.mp ((sortI_perm _).mem_iff.mp hk)
  rw [lineOf_at (nodup_get h hp)]
  exact (hl p hp).ok
local macro_rules | `(tactic| walk_at "call ref") => `(tactic| (k_here; refine hold ?_))
local macro_rules | `(tactic| walk_at "compareOp NotEq ref ref") => `(tactic| (k_here; refine hold ?_))
local macro_rules | `(tactic| walk_at "compareOp Eq ref ref") => `(tactic| (k_here; refine hold ?_))
local macro_rules | `(tactic| walk_at "eval ListComp") => `(tactic| (k_here; refine hold ?_))
theorem law_same_spec (w : World) {mean : ExcName → Option Value} {mg mb : Str → Option Value} {dp un : Nat} {gd : Option (List Code)} {cn : Str} {cs : Scope} {a : Addr} {ccd : Value} {cl : List (Str × Addr)} {outer : List Env} {A₀ : Around} {base h₀ : Heap} {L : Addr} {m : Str → Option Value} {s : Shared} {Q E : Value → Shared → Prop} {news : List (Addr × Obj)} {d e : Addr} {o u : Obj} {P R : Prg} (B : Below A₀ base outer h₀) (F : Fr h₀ L s.heap m) (X : (Mine.hd.heap_1 w.params).In h₀) (T : Top Mine.view (looseW Mine.view [Str.ofString "BasicError"]) mean mg mb h₀) (hk : cs.kind = .function) (N : News h₀ L s.heap ((d, o) :: (e, u) :: news))
  (ho : DictIs w o P) (hu0 : DictIs w u R) (hp : P.Perm R) (hl : ∀ p ∈ P, LineOk p) (hlen : P.length < 60) (ld : (d == sysModules) = false) (le : (e == sysModules) = false) (hd : dp + 9 < recursionLimit) (hu : un + 200 < cLine)
  (hret : ∀ h' tk', Fr h₀ L h' m → News h₀ L h' ((d, o) :: (e, u) :: news) → Q (.bool true) { s with heap := h', toks := tk' }) :
  wpAny (model PySem.Challenge.rw_xm0026_01.row.prog w) (ktrTop dp un gd cn cs L a ccd cl outer) (call (.ref 134) [.ref d, .ref e]) Q E s := by
  have hoo := ho
  have huu := hu0
  obtain ⟨kd, hD, hRd⟩ := ho
  obtain ⟨ke, hE, hRe⟩ := hu0
  have hdk : (P.map (·.1)).Nodup := by obtain ⟨_, _, _, _, _, _, hk0⟩ := hD; exact hRd.keys ▸ hk0
  have hek : (R.map (·.1)).Nodup := by obtain ⟨_, _, _, _, _, _, hk0⟩ := hE; exact hRe.keys ▸ hk0
  have hlen' : kd.length < 60 := by rw [hRd.length]; exact hlen
  have hlenE : ke.length < 60 := by rw [hRe.length, ← hp.length_eq]; exact hlen
  revert X; k_fill; intro X
  refine wpAny_call ?_
  k_dflt cell_enter
  rename_i g' L' h' tk' FG' F' B' X' T' l1 o1 d1 N'
  k_steps
  unfold Hold
  k_dflt (refine' listed_rows_spec _ B' F' X' N' T' ?hk (.tail _ (.head _)) hoo hlen ?hlim ?htx ld ?hd ?hu ?_)
  case hk => exact rfl
  case hlim =>
    intro k hk
    obtain ⟨x, hx⟩ := has_mem hk
    have := hl _ hx
    exact ⟨Int.le_trans (by decide) this.lo, Int.le_trans this.hi (by decide)⟩
  case htx =>
    intro k x hg
    obtain ⟨y, hy⟩ := has_mem (P := P) (k := k) (by
      unfold get at hg
      unfold has
      cases hf : P.find? (fun p : Int × Str => decide (p.1 = k)) with
      | none => rw [hf] at hg; cases hg
      | some p => exact List.any_eq_true.mpr ⟨p, List.mem_of_find?_eq_some hf, List.find?_some (p := fun p : Int × Str => decide (p.1 = k)) hf⟩)
    have e1 := nodup_get hdk hy
    rw [hg] at e1
    cases e1
    exact (hl _ hy).row.rlen
  case hd => ktr_room
  case hu => ktr_units
  intro D ys nn h9 tk9 F9 N9 l9 S9
  have hbd : ∀ p ∈ P, (0 : Int) ≤ p.1 ∧ p.1 ≤ 65529 := fun p hm => ⟨Int.le_trans (by decide) (hl p hm).lo, Int.le_trans (hl p hm).hi (by decide)⟩
  have hls : listing P 0 65529 = (sortI (R.map (·.1))).map fun k => rowOf k (lineOf R k) := listing_perm hdk hek hp hbd
  have lDL : @LT.lt Nat _ (L' + 1) D := l9 (L' + 1, o1) (.head _)
  have lDd : @LT.lt Nat _ d D := l9 (d, o) (.tail _ (.head _))
  have lDe : @LT.lt Nat _ e D := l9 (e, u) (.tail _ (.tail _ (.head _)))
  dsimp only
  k_steps
  unfold Hold
  k_dflt (refine' kne_pairs (knd := PySem.intKind _ _) (r := true) ?N ?pa ?pb hD hE ld le ?hl ?hu (hits_of hRe hRd (perm_get hek hp)) ?_)
  case N => k_asm
  case pa => k_mem
  case pb => k_mem
  case hl => rw [hRd.length, hRe.length]; exact hp.length_eq
  case hu => ktr_units
  k_steps
  unfold Hold
  refine' comp_list (h₀ := g') (L := L') (fun v => true) (fun v y os => (∃ k t t', v = .int k t ∧ y = .str (rowOf k (lineOf R k)) t') ∧ os = []) ?hclos ?hcell ?hkind ?hnames ?hx ?hh ?goal
  case hclos => with_unfolding_all rfl
  case hcell => decide
  case hkind => rfl
  case hnames => decide
  case hx => rfl
  case hh => rfl
  case goal =>
    iterate 7 walk1
    rename IntsAre _ _ => I9
    rename News g' L' _ ((_, listOf _ _) :: (D, _) :: _) => N8
    rename Fr g' L' _ _ => F8
    refine ⟨_, _, _, _, _, _, _, rfl, rfl, F8, N8, .head _, ?_, ?_, ?_, ?_⟩
    · have := I9.length
      rw [this, (sortI_perm _).length_eq, List.length_map]; omega
    · intro C v h₃ tk₃ m₃ hv hn hm F₃ N₃
      k_steps
      exact keeps_toks
    · intro C v h₃ tk₃ m₃ hv hpv hn hm F₃ N₃
      obtain ⟨k, u', rfl, hk⟩ := ints_mem I9 hv
      obtain ⟨p, hpm, rfl⟩ := List.mem_map.mp ((sortI_perm _).mem_iff.mp hk)
      have hkm : p.1 ∈ R.map (·.1) := by rw [← hRe.keys]; exact List.mem_map_of_mem hpm
      obtain ⟨q, hq, hqe⟩ := List.mem_map.mp hkm
      have hL := hl q (hp.mem_iff.mpr hq)
      have hk3 : 0 ≤ p.1 := by have := hL.lo; omega
      have hk4 : p.1 ≤ 65529 := by have := hL.hi; omega
      have hg : get R p.1 = some (lineOf R p.1) := by rw [← hqe, lineOf_at (nodup_get hek hq)]; exact nodup_get hek hq
      obtain ⟨tx, hvk⟩ := hRe.some hg
      have hxl : (lineOf R p.1).length ≤ 1000 := by rw [← hqe, lineOf_at (nodup_get hek hq)]; exact hL.row.rlen
      clear N8 F8
      iterate 16 walk1
      exact ⟨[], ⟨⟨p.1, u', _, rfl, rfl⟩, rfl⟩, keeps_toks, fun q hq => nomatch hq⟩
    · intro D2 h' tk ys2 os n lD los F₄ N₄ hit
      obtain ⟨hA, rfl⟩ := items_all (fun v y o h => h.2) hit
      have S2 : StrsAre ys2 ((sortI (R.map (·.1))).map fun k => rowOf k (lineOf R k)) := by
        rw [← hRe.keys]
        exact strs_of (f := fun k => rowOf k (lineOf R k)) I9 (by rw [List.filter_eq_self.mpr (fun _ _ => rfl)] at hA; exact hA.imp fun v y h => h.1)
      clear N8 F8
      have lD2 : @LT.lt Nat _ D D2 := lD (D, _) (.tail _ (.head _))
      simp only [List.nil_append] at N₄
      k_steps
      unfold Hold
      rw [hls] at S9
      have hlR : ∀ p ∈ R, LineOk p := fun p hm => hl p (hp.mem_iff.mpr hm)
      have hso := strs_ok hek hlR
      have n1 := (N₄ _ (.tail _ (.tail _ (.head _)))).1
      have n2 := (N₄ _ (.head _)).1
      k_dflt (refine' ne_strsK ⟨_, n1, rfl, _, rfl⟩ S9 ⟨_, n2, rfl, _, rfl⟩ S2 hso hso ?hu ?_)
      case hu => ktr_units
      rw [decide_eq_true rfl]
      simp only [Bool.not_true]
      k_steps
      unfold Hold
      k_dflt (refine' program_of_rows_spec _ B' F₄ X' N₄ T' ?hk (.tail _ (.tail _ (.head _))) S9 (rows_ok hek hlR) ?z ?hd ?hu ?_)
      case hk => exact rfl
      case z => rw [List.length_map, (sortI_perm _).length_eq, List.length_map, ← hp.length_eq]; exact hlen
      case hd => ktr_room
      case hu => ktr_units
      intro D3 oD3 h3 tk3 F3 N3 l3 lo3 d3
      obtain ⟨k3, hD3, hR3⟩ := d3
      have hbp := back_perm hek (fun p hm => (hlR p hm).tight)
      k_steps
      unfold Hold
      k_dflt (refine' keq_pairs (knd := PySem.intKind _ _) (r := true) ?N ?pa ?pb hD3 hE lo3 le ?hl ?hu (hits_of hRe hR3 (perm_get hek hbp)) ?_)
      case N => k_asm
      case pa => k_mem
      case pb => k_mem
      case hl => rw [hR3.length, hRe.length]; exact hbp.length_eq
      case hu => ktr_units
      k_steps
      rename Fr h₀ L _ m => kF
      rename News h₀ L _ _ => kN
      exact hret _ _ kF (fun p hp => by
        rcases List.mem_cons.mp hp with rfl | hp
        · exact kN _ (.tail _ (.tail _ (.tail _ (.tail _ (.tail _ (.head _))))))
        · exact kN _ (.tail _ (.tail _ (.tail _ (.tail _ (.tail _ (.tail _ hp)))))))
end
end

section
open PySem PySem.W PyProof.Rows PySem.Calls
set_option Elab.async false
set_option maxRecDepth 100000
set_option maxHeartbeats 0
set_option linter.unusedVariables false
theorem fresh_F8 : True := by w_top off; trivial
local macro_rules | `(tactic| k_mem) => `(tactic| first | assumption | exact List.Mem.head _ | (refine' List.Mem.tail _ ?_; k_mem))
local macro_rules | `(tactic| walk_at "call ref") => `(tactic| (k_here; (with_reducible show wpAny _ _ (call (Value.ref 84) _) _ _ _); k_dflt (refine' numbers_within_spec _ ?B ?F ?X ?N ?T ?hk ?hm ?ho ?hl ?lo ?hd ?hu ?_; (case B => k_asm); (case F => k_asm); (case X => k_asm); (case N => k_asm); (case T => k_asm); (case hk => exact rfl); (case hm => k_mem); (case ho => assumption); (case hl => omega); (case lo => assumption); (case hd => ktr_room); (case hu => ktr_units)); intro D9 ys9 n9 h9 tk9 F9 N9 l9 I9; (have e9 := IntsAre.length I9); (try dsimp only)))
local macro_rules | `(tactic| walk_at "call builtin:len") => `(tactic| (k_here; (with_reducible show wpAny _ _ (call (Value.builtin "len") [Value.ref _]) _ _ _); k_dflt (refine' kst_len ?N ?m rfl ?f ?_; (case N => k_asm); (case m => k_mem); (case f => omega))))
local macro_rules | `(tactic| walk_at "exec For Name Name cons nil") => `(tactic| refine hold ?_)
local macro_rules | `(tactic| walk_at "exec For") => `(tactic| refine hold ?_)
theorem delete_lines_spec (w : World) {mean : ExcName → Option Value} {mg mb : Str → Option Value} {dp un : Nat} {gd : Option (List Code)} {cn : Str} {cs : Scope} {a : Addr} {ccd : Value} {cl : List (Str × Addr)} {outer : List Env} {A₀ : Around} {base h₀ : Heap} {L : Addr} {m : Str → Option Value} {s : Shared} {Q E : Value → Shared → Prop} {news : List (Addr × Obj)} {d : Addr} {o : Obj} {P : Prg} {a0 b0 : Int} {t t' : Tok} (B : Below A₀ base outer h₀) (F : Fr h₀ L s.heap m) (X : (Mine.hd.heap_1 w.params).In h₀) (T : Top Mine.view (looseW Mine.view [Str.ofString "BasicError"]) mean mg mb h₀) (hk : cs.kind = .function) (N : News h₀ L s.heap ((d, o) :: news))
  (hdn : ∀ p ∈ news, p.1 ≠ d) (ho : DictIs w o P) (hlen : P.length < 60) (lo : (d == sysModules) = false) (hw : within P a0 b0 ≠ []) (hd : dp + 3 < recursionLimit) (hu : un + 24 < cLine)
  (hret : ∀ o' h' tk, Fr h₀ L h' m → News h₀ L h' ((d, o') :: news) → DictIs w o' ((within P a0 b0).foldl del P) → Q .none { s with heap := h', toks := tk }) :
  wpAny (model PySem.Challenge.rw_xm0026_01.row.prog w) (ktrTop dp un gd cn cs L a ccd cl outer) (call (.ref 91) [.ref d, .int a0 t, .int b0 t']) Q E s := by
  have hoo := ho
  obtain ⟨kvs, hD, hR⟩ := ho
  have hdk : (kvs.map (·.1)).Nodup := by obtain ⟨_, _, _, _, _, _, hk0⟩ := hD; exact hk0
  have hlen' : kvs.length < 60 := by rw [hR.length]; exact hlen
  revert X; k_fill; intro X
  refine wpAny_call ?_
  k_dflt cell_enter
  have hw' : (within P a0 b0).length ≠ 0 := fun h => hw (List.eq_nil_of_length_eq_zero h)
  have hwl : (within P a0 b0).length ≤ P.length := by unfold within; refine Nat.le_trans (List.length_filter_le _ _) ?_; rw [(sortI_perm _).length_eq, List.length_map]; exact Nat.le_refl _
  k_steps
  · exfalso; omega
  · rename News _ _ _ ((_, listOf _ _) :: (d, _) :: news) => N9
    rename IntsAre _ _ => I9
    rename Fr _ _ _ _ => F9
    rename_i g' L' _ FG' B' X' T' D9 ys9 n9 _ _ l9 e9 h' tk hne
    have hdD : D9 ≠ d := Nat.ne_of_gt (l9 _ (.head _))
    have hnd : (within P a0 b0).Nodup := within_nodup (hR.keys ▸ hdk) a0 b0
    unfold Hold
    generalize hmB : (fun y => if y = Str.ofString "gone" then _ else _) = mB at F9
    have j0 : (∃ u, mB = upo mB "number" u) ∧ ∃ o', (D9, listOf ys9.toArray n9) :: (d, o) :: news = (D9, listOf ys9.toArray n9) :: (d, o') :: news ∧ DictIs w o' (((within P a0 b0).take 0).foldl del P) := ⟨⟨_, upo_self⟩, o, rfl, kvs, hD, hR⟩
    refine for_name (h₀ := g') (L := L') (l := D9) (vs := ys9) (lo := listOf ys9.toArray n9) rfl rfl (fun i m led => (∃ u, m = upo mB "number" u) ∧ ∃ o', led = (D9, listOf ys9.toArray n9) :: (d, o') :: news ∧ DictIs w o' (((within P a0 b0).take i).foldl del P)) F9 N9 j0 ?_ ?_ ?_ ?_
    · rintro i m led ⟨_, o', rfl, _⟩
      exact .head _
    · subst hmB
      k_steps
    · rintro i v m₁ led₁ I io h tk hv ⟨⟨u, rfl⟩, o', rfl, ho'⟩ hI F8 N8 PP hPP
      obtain ⟨k, tk8, rfl, hk8⟩ := ints_at I9 hv
      obtain ⟨kvs', hD', hR'⟩ := ho'
      have hI1 : D9 ≠ I := hI _ (.head _)
      have hI2 : d ≠ I := hI _ (.tail _ (.head _))
      have hI3 : ∀ p ∈ news, p.1 ≠ I := fun p hp => hI _ (.tail _ (.tail _ hp))
      have hlen8 : kvs'.length < 60 := by rw [hR'.length]; exact Nat.lt_of_le_of_lt (foldl_del_length _ _) hlen
      have hlt := nodup_take hnd hk8
      have hk9 := (within_mem (List.mem_of_getElem? hk8)).1
      have hv8 : (valueAt kvs' k).isSome = true := by rw [hR'.isSome, has_foldl hlt.1, hk9]
      clear N9 F9 hD hR j0
      subst hmB
      k_steps
      rename Obj.IsDictOf _ _ (without _ _) => d9
      rename Fr g' L' _ _ => F7
      rename News g' L' _ _ => N7
      exact hPP _ _ ⟨_, _, _, _, rfl, F7, N7, by rintro p (_ | ⟨_, _ | ⟨_, hp⟩⟩) <;> first | exact hI1 | exact hI2 | exact hI3 _ hp, ⟨_, upo_upo⟩, _, rfl, _, d9, hlt.2 ▸ by rw [List.foldl_append]; exact hR'.without k⟩
    · rintro h tk m led ⟨⟨u, rfl⟩, o', rfl, ho'⟩ F8 N8
      clear N9 F9 hD hR j0
      subst hmB
      k_steps
      rename News h₀ L _ _ => kN
      rename Fr h₀ L _ m => kF
      exact hret _ _ _ kF (fun p hp => kN p (.tail _ hp)) (by rw [e9, List.take_length] at ho'; exact ho')
end

section
open PySem PySem.W PyProof.Rows PySem.Calls
set_option Elab.async false
set_option maxRecDepth 100000
set_option maxHeartbeats 0
set_option linter.unusedVariables false
theorem dict_mapF (o : Obj) (f : Array Value → Array Value) : (o.mapFields f).dict = o.dict := by
  obtain ⟨_, _, dt, _⟩ := o
  cases dt <;> rfl
/-- an exception that flies: its class, its dict, its last traceback entry's mark -/
def TrE (h base : Heap) (e : Addr) (c : Value) (D : Addr) (fl : Value) : Prop :=
  ∃ oe vs T oT ts, h.get? e = some oe ∧ (oe.cls = c ∧ oe.dict = some D) ∧ oe.data = .fields vs ∧ vs[1]? = some (.ref T) ∧ base.get? T = none ∧ T ≠ e ∧ h.get? T = some oT ∧ oT.data = .fields ts ∧ ts[3]? = some fl
def LfE (base : Heap) (l : List Env) (e : Addr) (c : Value) (D : Addr) (fl : Value) (h h' : Heap) : Prop :=
  base.StaysIn h' ∧ h'.FunFrames base l ∧ TrE h' base e c D fl ∧ h.UpToSlots h'
section
variable {M : Model} {A : Around} {E : Value → Shared → Prop} {s : Shared}
theorem rec_ne {h : Heap} {e : Addr} {oe : Obj} {vs : Array Value} (he : h.get? e = some oe) (hd : oe.data = .fields vs) : ∀ b o, h.get? b = some o → (∀ vs, o.data ≠ .fields vs) → b ≠ e := fun b o hb hn q => by
  rw [q, he] at hb; cases hb; exact hn vs hd
theorem entryE {base : Heap} {env : Env} {outer : List Env} {L e D : Addr} {oe : Obj} {vs : Array Value} {head : Value} {hadNext : Bool} {Q : Unit → Shared → Prop}
    (hfr : A.frames = some (env :: outer)) (hl : s.heap.FunFrames base (env :: outer)) (hf : env.frame = some L)
    (he : s.heap.get? e = some oe) (hkb : base.StaysIn s.heap) (hen : base.get? e = none) (hd : oe.data = .fields vs) (hsz : 1 < vs.size) (h0 : oe.dict = some D)
    (h : ∀ h', LfE base (env :: outer) e oe.cls D (rawInt L) s.heap h' → Q () { s with heap := h' }) :
    wpAny M A (do let a ← frameOf env; let pl ← entryPlaceOf L hadNext; let b ← EntryCells.newEntry head a .none (rawInt L) .none pl; setField (.ref e) 1 b) Q E s := by
  have hene : e ∉ (env :: outer).filterMap (·.frame) := fun hm => by
    obtain ⟨_, o, ho, hnf⟩ := hl.mem hm
    exact rec_ne he hd _ _ ho hnf rfl
  refine wpAny_bind (wpAny_frameOf_fun hfr hl hf fun h₁ hs₁ => ?_)
  refine wpAny_bind (wpAny_entryPlaceOf fun pl hpl => ?_)
  unfold EntryCells.newEntry newFields
  refine wpAny_bind (wpAny_newObj_type ?_ (hpl.sizeOk5 _ _ _ _ _))
  have he₁ : h₁.get? e = some oe := (hs₁.2.1 e hene).trans he
  have kb₁ : base.StaysIn h₁ := fun b o hbo => (hs₁.2.1 b fun hm => by rw [(hl.mem hm).1] at hbo; cases hbo).trans (hkb b o hbo)
  have he₂ := Heap.get?_push_of_some (h := h₁) { cls := .type "traceback", dict := none, data := .fields ([head, .ref L, .none, rawInt L, .none] ++ (if pl.isEmpty then List.replicate 6 Value.none else pl)).toArray } he₁
  refine wpAny_setField he₂ hd hsz (h _ ?_)
  have hTe : h₁.objs.size ≠ e := Nat.ne_of_gt (Heap.lt_size he₁)
  have hd₃ := Obj.data_mapFields hd (·.setIfInBounds 1 (Value.ref h₁.objs.size))
  have he₃ := Heap.get?_update_self (Obj.mapFields (·.setIfInBounds 1 (Value.ref h₁.objs.size))) he₂ (Obj.isFreed_of_fields hd₃)
  have hT₃ := (Heap.get?_update_other (h₁.push { cls := .type "traceback", dict := none, data := .fields ([head, .ref L, .none, rawInt L, .none] ++ (if pl.isEmpty then List.replicate 6 Value.none else pl)).toArray })
    (Obj.mapFields (·.setIfInBounds 1 (Value.ref h₁.objs.size))) (Ne.symm hTe)).trans (Heap.get?_push_size h₁ rfl)
  have keep : ∀ b o, b ≠ e → h₁.get? b = some o →
      ((h₁.push { cls := .type "traceback", dict := none, data := .fields ([head, .ref L, .none, rawInt L, .none] ++ (if pl.isEmpty then List.replicate 6 Value.none else pl)).toArray }).update e (Obj.mapFields (·.setIfInBounds 1 (Value.ref h₁.objs.size)))).get? b = some o :=
    fun b o hbe hb => (Heap.get?_update_other _ _ (Ne.symm hbe)).trans (Heap.get?_push_of_some _ hb)
  have up : ∀ b o, s.heap.get? b = some o → (∀ vs, o.data ≠ .fields vs) → _ := fun b o hb hnf =>
    (hs₁.2.2 b o hb).imp fun sl hs => keep b _ (rec_ne he hd b o hb hnf) hs
  refine ⟨fun b o hbo => keep b o (fun q => by rw [q, hen] at hbo; cases hbo) (kb₁ b o hbo), hl.of_keeps fun b o hb hnf => ?_, ?_, up⟩
  · obtain ⟨sl, hs⟩ := up b o hb hnf
    exact ⟨_, hs, rfl⟩
  · exact ⟨_, _, h₁.objs.size, _, _, he₃, ⟨Obj.cls_mapFields _ _, (dict_mapF _ _).trans h0⟩, hd₃, by simp [hsz], kb₁.fresh, hTe, hT₃, rfl, by first | (simp; done) | (rcases hpl with rfl | ⟨_, _, _, _, _, _, _, rfl⟩ <;> simp)⟩
theorem flightE {base : Heap} {l : List Env} {e D : Addr} {c fl : Value} {Q : Unit → Shared → Prop} (hkb : base.StaysIn s.heap) (hl : s.heap.FunFrames base l) (ht : TrE s.heap base e c D fl)
    (h : ∀ h', LfE base l e c D .none s.heap h' → Q () { s with heap := h' }) : wpAny M A (setFlight (.ref e) none) Q E s := by
  obtain ⟨oe, vs, T, oT, ts, he, hcls, hd, h1, hnT, hTe, hT, hdT, h3⟩ := ht
  have hsz3 : 3 < ts.size := (Array.getElem?_eq_some_iff.mp h3).1
  have other : ∀ b, b ≠ T → (s.heap.update T (Obj.mapFields (·.setIfInBounds 3 ((none : Option Addr).elim Value.none fun f => rawInt f)))).get? b = s.heap.get? b :=
    fun b hb => Heap.get?_update_other _ _ (Ne.symm hb)
  have noRecord := rec_ne hT hdT
  unfold setFlight
  refine wpAny_bind (wpAny_field he hd h1 ?_)
  rw [if_pos (show (Value.ref T != Value.none) = true from by simp)]
  refine wpAny_setField hT hdT hsz3 (h _ ⟨fun b o hbo => (other b fun q => by rw [q, hnT] at hbo; cases hbo).trans (hkb b o hbo),
    hl.of_keeps fun b o hb hnf => ⟨o, (other b (noRecord b o hb hnf)).trans hb, rfl⟩, ?_, fun b o hb hnf => ⟨o.slots, (other b (noRecord b o hb hnf)).trans hb⟩⟩)
  exact ⟨oe, vs, T, _, _, (other e (Ne.symm hTe)).trans he, hcls, hd, h1, hnT, hTe, Heap.get?_update_self _ hT (Obj.isFreed_of_fields (Obj.data_mapFields hdT _)), Obj.data_mapFields hdT _, by simp [hsz3]⟩
theorem leaving_firstE {base : Heap} {env : Env} {outer : List Env} {L e D : Addr} {oe : Obj} {vs : Array Value} {Q : Unit → Shared → Prop}
    (hfr : A.frames = some (env :: outer)) (hl : s.heap.FunFrames base (env :: outer)) (hf : env.frame = some L)
    (he : s.heap.get? e = some oe) (hkb : base.StaysIn s.heap) (hen : base.get? e = none) (hd : oe.data = .fields vs) (h1 : vs[1]? = some .none) (h0 : oe.dict = some D)
    (h : ∀ h', LfE base (env :: outer) e oe.cls D .none s.heap h' → Q () { s with heap := h' }) : wpAny M A («leaving» env (.ref e)) Q E s := by
  unfold «leaving» noteFrame
  simp only [hf]
  refine wpAny_bind (wpAny_bind (wpAny_field he hd h1 ?_))
  rw [if_neg (by decide)]
  refine entryE hfr hl hf he hkb hen hd (Array.getElem?_eq_some_iff.mp h1).1 h0 fun h' ⟨k1, k2, k3, k4⟩ => ?_
  refine flightE k1 k2 k3 fun h'' ⟨j1, j2, j3, j4⟩ => h h'' ⟨j1, j2, j3, k4.trans j4⟩
theorem noteE {base : Heap} {env : Env} {outer : List Env} {L e D : Addr} {c : Value} {Q : Unit → Shared → Prop}
    (hfr : A.frames = some (env :: outer)) (hl : s.heap.FunFrames base (env :: outer)) (hf : env.frame = some L) (ht : TrE s.heap base e c D .none) (hkb : base.StaysIn s.heap) (hen : base.get? e = none)
    (h : ∀ h', LfE base (env :: outer) e c D (rawInt L) s.heap h' → Q () { s with heap := h' }) : wpAny M A (noteFrame (.ref e) env) Q E s := by
  obtain ⟨oe, vs, T, oT, ts, he, ⟨hcls, h0⟩, hd, h1, hnT, hTe, hT, hdT, h3⟩ := ht
  subst hcls
  unfold noteFrame
  simp only [hf]
  refine wpAny_bind (wpAny_field he hd h1 ?_)
  rw [if_pos (show (Value.ref T != Value.none) = true from by simp)]
  refine wpAny_bind (wpAny_field hT hdT h3 ?_)
  rw [if_neg (show ¬ ((Value.none == rawInt L) = true) from by simp [rawInt])]
  refine wpAny_bind (wpAny_setField hT hdT (Array.getElem?_eq_some_iff.mp h3).1 ?_)
  have other : ∀ b, b ≠ T → (s.heap.update T (Obj.mapFields (·.setIfInBounds 3 Value.none))).get? b = s.heap.get? b := fun b hb => Heap.get?_update_other _ _ (Ne.symm hb)
  have noRecord := rec_ne hT hdT
  refine entryE hfr (hl.of_keeps fun b o hb hnf => ⟨o, (other b (noRecord b o hb hnf)).trans hb, rfl⟩) hf ((other e (Ne.symm hTe)).trans he)
    (fun b o hbo => (other b fun q => by rw [q, hnT] at hbo; cases hbo).trans (hkb b o hbo)) hen hd (Array.getElem?_eq_some_iff.mp h1).1 h0
    fun h' ⟨x1, x2, x3, x4⟩ => h h' ⟨x1, x2, x3, fun b o hb hnf => x4 b o ((other b (noRecord b o hb hnf)).trans hb) hnf⟩
end
end

section
open PySem PySem.W PyProof.Rows PySem.Calls
set_option Elab.async false
set_option maxRecDepth 100000
set_option maxHeartbeats 0
set_option linter.unusedVariables false
theorem raise_own {w : World} {prog : Program} {A : Around} {E : Value → Shared → Prop} {s : Shared} {env : Env} {x : Expr} {pos : Pos} {Q : Flow → Shared → Prop} (hh : A.handled = none)
    (h : wpAny (model prog w) A (eval x env) (fun v s₁ => ∃ e oe t, v = .ref e ∧ (Mine.hd.heap_1 w.params).In s₁.heap ∧ s₁.heap.get? e = some oe ∧ oe.cls = .ref 34 ∧ oe.data = .fields #[.ref t, .none, .none, .none, .bool false, .none] ∧ E (.ref e) s₁) E s) :
    wpAny (model prog w) A (exec (.Raise (some x) none pos) env) Q E s := by
  have tail : ∀ y : Sem Value, wpAny (model prog w) A y (fun v s₁ => ∃ e oe t, v = .ref e ∧ (Mine.hd.heap_1 w.params).In s₁.heap ∧ s₁.heap.get? e = some oe ∧ oe.cls = .ref 34 ∧ oe.data = .fields #[.ref t, .none, .none, .none, .bool false, .none] ∧ E (.ref e) s₁) E s →
      wpAny (model prog w) A (raiseStmt env (some y) none) Q E s := by
    intro y hy
    unfold raiseStmt
    refine wpAny_bind (wpAny_mono hy (fun v s₁ h₁ => ?_) fun _ _ x => x)
    obtain ⟨e, oe, t, rfl, X, he, hc, hd, hE⟩ := h₁
    obtain ⟨hp, g, d, tk, os⟩ := s₁
    have hC := be_cls X
    have hcB : ([.ref 34, .type "Exception", .type "BaseException", .type "object"] : List Value).contains (.type "BaseException") = true := by decide
    obtain ⟨oc, od, oda, osl⟩ := oe
    dsimp only at hc hd
    subst hc hd
    repeat (first | with_reducible refine wpAny_loadPart_at he ?_ | with_reducible refine wpAny_loadPart_at hC ?_ | (with_reducible refine wpAny_isSubtype_exc hC ?_; rw [hcB]) | wp_step)
    exact wpAny_raiseNew_none hh hE
  rw [arm_exec_Raise]
  simp only [evalOpt, Option.map]
  exact wpAny_bind (wpAny_standAt (tail _ (wpAny_bind (wpAny_mono h (fun v s₁ h₁ => wpAny_bind (wpAny_standAt (wpAny_pure h₁))) fun _ _ x => x))))
def RaisedE (base g : Heap) (l : List Env) (e D : Addr) (news : List (Addr × Obj)) (h : Heap) : Prop :=
  ∃ B, base.StaysIn B ∧ (∀ b o, g.get? b = some o → b ∉ l.filterMap (·.frame) → B.get? b = some o) ∧ (∀ q ∈ news, B.get? q.1 = some q.2 ∧ g.get? q.1 = none ∧ base.get? q.1 = none) ∧
    B.StaysIn h ∧ B.get? e = none ∧ h.FunFrames B l ∧ TrE h B e (.ref 34) D .none
section
variable {M : Model} {A : Around} {E : Value → Shared → Prop} {s' : Shared} {base g : Heap} {outer : List Env} {L a e D : Addr} {m : Str → Option Value} {name : Str} {scope : Scope} {cd : Value} {Q : Unit → Shared → Prop} {news : List (Addr × Obj)} {oe : Obj} {t : Addr}
theorem leave_raiseE (K : Below A base outer g) (F : Fr g L s'.heap m) (N : News g L s'.heap ((e, oe) :: news)) (hne : ∀ p ∈ news, p.1 ≠ e) (hc : oe.cls = .ref 34) (hd : oe.data = .fields #[.ref t, .none, .none, .none, .bool false, .none]) (hD : oe.dict = some D)
    (hQ : ∀ h', RaisedE base g outer e D news h' → g.UpToSlots h' → Q () { s' with heap := h' }) (hk : scope.kind = .function := by rfl) :
    wpAny M (A.deeper (envOf name scope L a cd)) («leaving» (envOf name scope L a cd) (.ref e)) Q E s' := by
  have K' := K.push (name := name) (scope := scope) (a := a) (cd := cd) F hk
  have hin : ∀ env ∈ (envOf name scope L a cd :: outer), ∀ b, env.frame = some b → b ∈ (envOf name scope L a cd :: outer).filterMap (·.frame) ++ [e] := fun env he b hb => List.mem_append_left _ (List.mem_filterMap.mpr ⟨env, he, hb⟩)
  have he := N _ (.head _)
  have nb : base.get? e = none := fresh_of_stays K.stays he.2.2
  have st : base.StaysIn (hideAll s'.heap ((envOf name scope L a cd :: outer).filterMap (·.frame) ++ [e])) := fun b o q => hideAll_get _ (K'.stays b o q) fun hm => by
    rcases List.mem_append.mp hm with hm | hm
    · rw [(K'.frames.mem hm).1] at q; cases q
    · rw [List.mem_singleton.mp hm, nb] at q; cases q
  have sg : ∀ b o, g.get? b = some o → b ∉ outer.filterMap (·.frame) → (hideAll s'.heap ((envOf name scope L a cd :: outer).filterMap (·.frame) ++ [e])).get? b = some o := fun b o q nm => hideAll_get _ (F.keep b o q) fun hm => by
    rcases List.mem_append.mp hm with hm | hm
    · rcases kts_mem hm with z | z
      · rw [z, kts_self F] at q; cases q
      · exact nm z
    · rw [List.mem_singleton.mp hm, he.2.2] at q; cases q
  have hl : ∀ q ∈ news, (hideAll s'.heap ((envOf name scope L a cd :: outer).filterMap (·.frame) ++ [e])).get? q.1 = some q.2 ∧ g.get? q.1 = none ∧ base.get? q.1 = none := fun q hq => by
    have hq' := N q (.tail _ hq)
    refine ⟨hideAll_get _ hq'.1 fun hm => ?_, hq'.2.2, fresh_of_stays K.stays hq'.2.2⟩
    rcases List.mem_append.mp hm with hm | hm
    · obtain ⟨env, hen, hf⟩ := List.mem_filterMap.mp hm
      rcases List.mem_cons.mp hen with rfl | hen
      · exact hq'.2.1 (Option.some.inj hf).symm
      · obtain ⟨o, ho, _⟩ := (K.frames.mem (List.mem_filterMap.mpr ⟨env, hen, hf⟩)).2
        rw [hq'.2.2] at ho; cases ho
    · exact hne q hq (List.mem_singleton.mp hm)
  refine leaving_firstE (base := hideAll s'.heap ((envOf name scope L a cd :: outer).filterMap (·.frame) ++ [e])) K'.stack (funFrames_hide K'.frames hin) rfl he.1 (fun b o q => of_hideAll _ q) (hideAll_none _ (List.mem_append_right _ (.head _))) hd rfl hD fun h' ⟨k1, ⟨_, _, k2⟩, k3, k4⟩ => ?_
  exact hQ h' ⟨_, st, sg, hl, k1, hideAll_none _ (List.mem_append_right _ (.head _)), k2, hc ▸ k3⟩ ((Heap.UpToSlots.of_keeps F.keep).trans k4)
end
end

section
open PySem PySem.W PyProof.Rows PySem.Calls
set_option Elab.async false
set_option maxRecDepth 100000
set_option maxHeartbeats 0
set_option linter.unusedVariables false
section
variable {prog : Program} {w : World} {A₀ : Around} {E : Value → Shared → Prop} {s' : Shared} {base g g₀ G : Heap} {outer : List Env} {L a e De C : Addr} {m : Str → Option Value} {name : Str} {scope : Scope} {cd : Value}
  {n : Str} {b₀ : Stmt} {suite : List Stmt} {pos np : Pos} {rest : List ExceptHandler} {Q : Flow → Shared → Prop} {news : List (Addr × Obj)} {KF : Frag}
  {p : Program} {loose : List Str} {mean : ExcName → Option Value} {mg mb : Str → Option Value} {x : Str}
theorem caught_E (R : RaisedE base G (envOf name scope L a cd :: outer) e De news s'.heap) (F : Fr g L G m) (K : Below A₀ base outer g) (hsm : G.UpToSlots s'.heap) (XB : KF.In base) (TB : Top p loose mean mg mb base)
    (D : KtsDicts (outer.filterMap (·.frame)) g) (T0 : KtsTurn (outer.filterMap (·.frame)) g₀ g)
    (ex : nsIn KF mainGlobals x = some (some (.ref 34))) (q : ktsIn KF 34 "BaseException" = true)
    (k : ∀ h' g' tk oe, KtsTurn (outer.filterMap (·.frame)) g₀ g' → Fr g' L h' (fun y => if y = n then some (.ref e) else m y) → News g' L h' ((e, oe) :: news) → (oe.cls = .ref 34 ∧ oe.dict = some De ∧ ∃ vs, oe.data = .fields vs) → Below A₀ base outer g' → KF.In g' → Top p loose mean mg mb g' → KtsDicts (outer.filterMap (·.frame)) g' →
      wpAny (model prog w) ((A₀.deeper (envOf name scope L a cd)).mark (some (.ref e))) (execs (b₀ :: suite) (envOf name scope L a cd))
        (fun f s₄ => wpAny (model prog w) (A₀.deeper (envOf name scope L a cd)) (do bindName (envOf name scope L a cd) n .none; unbindBehindTheSuite (envOf name scope L a cd) n pos) (fun _ s₅ => Q f s₅) E s₄)
        (AsSuiteRaised (model prog w) ((A₀.deeper (envOf name scope L a cd)).mark (some (.ref e))) (envOf name scope L a cd) n pos (notedBy (model prog w) ((A₀.deeper (envOf name scope L a cd)).mark (some (.ref e))) (envOf name scope L a cd) (cameBackBy (model prog w) (A₀.deeper (envOf name scope L a cd)) (envOf name scope L a cd) E)))
        { s' with heap := h', toks := tk })
    (hk : scope.kind = .function := by rfl) (hlo : (envOf name scope L a cd).kindOf n = some .local := by rfl) (hx : (envOf name scope L a cd).kindOf x = some .globalImplicit := by rfl) (hd : (x == ("__debug__" : Str)) = false := by decide) :
    wpAny (model prog w) (A₀.deeper (envOf name scope L a cd)) (noteFrame (.ref e) (envOf name scope L a cd))
      (fun _ s₂ => wpAny (model prog w) (A₀.deeper (envOf name scope L a cd)) (setFlight (.ref e) none) (fun _ s₃ =>
        wpAny (model prog w) (A₀.deeper (envOf name scope L a cd)) (handleBy (.ref e) (envOf name scope L a cd) (.ExceptHandler (some (.Name x np)) (some n) (b₀ :: suite) pos :: rest)) Q E s₃) E s₂) E s' := by
  obtain ⟨B, hB, hBG, hl, hbs, hbe, hfr, htr⟩ := R
  have hL : B.get? L = none := by
    obtain ⟨_, ⟨L', _, hf, hn', _⟩, _⟩ := hfr
    obtain rfl : L = L' := Option.some.inj hf
    exact hn'
  refine noteE (Around.frames_deeper K.stack) hfr rfl htr hbs hbe fun h₄ ⟨b4, r4, t4, u4⟩ => ?_
  refine flightE b4 r4 t4 fun h₅ ⟨b5, r5, t5, u5⟩ => ?_
  have hsm₅ := hsm.trans (u4.trans u5)
  obtain ⟨g₅, T₅, F₅, K₅⟩ := kts_ground K F hBG b5 hsm₅
  have X₅ : KF.In g₅ := XB.keeps K₅.stays
  have P₅ : TopRead p loose mg mb g₅ := topRead_of (TB.keeps K₅.stays)
  obtain ⟨ob, hob, hobc⟩ : ∃ ob, h₅.get? e = some ob ∧ ob.cls = .ref 34 := by
    obtain ⟨oe, _, _, _, _, he, hc, _⟩ := t5; exact ⟨oe, he, hc.1⟩
  obtain ⟨nm, q', N, bs, bm, hdct, sn, sub, ab, col, dd, k0, k1, k2, k3, k5, newId, hC, hbase, hbT⟩ := kts_cls X₅ q
  have hC₅ := F₅.keep _ _ hC
  refine wpAny_handleBy_cons (codeAny_handlers_test (name_K F₅ X₅ P₅ ex ?_ hk hx hd)) (by intro q; cases q)
  refine wpAny_excMatches_sub_self hC₅ hob hobc hbase (codeAny_handlers_suite_as ?_)
  refine flightE b5 r5 t5 fun h₆ ⟨b6, r6, t6, u6⟩ => ?_
  have hsm₆ := hsm₅.trans u6
  obtain ⟨g₆, T₆, F₆, K₆⟩ := kts_ground K F hBG b6 hsm₆
  obtain ⟨oe, vs, _, _, _, hoe, ⟨hoec, hoeD⟩, hoed, _⟩ := t6
  have ne₆ : g₆.get? e = none := T₆.none_ _ (kts_fresh F hBG hbe fun o ho m => by
    obtain ⟨_, o', ho', hd⟩ := K.frames.mem m
    rw [ho] at ho'
    cases ho'
    obtain ⟨sl, hs⟩ := hsm₆ _ _ (F.keep _ _ ho) hd
    rw [hoe] at hs
    cases hs
    exact hd _ hoed)
  have Nl : News g₆ L h₆ news := fun q hq => ⟨b6 _ _ (hl q hq).1, (fun z => by have := (hl q hq).1; rw [z, hL] at this; cases this), T₆.none_ _ (kts_none F.keep (hl q hq).2.1)⟩
  have N₆ : News g₆ L h₆ ((e, oe) :: news) := News.more F₆ Nl hoe (fun es n q => by rw [hoed] at q; cases q) ne₆
  have X₆ : KF.In g₆ := XB.keeps K₆.stays
  have P₆ : Top p loose mean mg mb g₆ := TB.keeps K₆.stays
  have D₆ : KtsDicts (outer.filterMap (·.frame)) g₆ := D.turn T₆
  refine stN F₆ N₆ (fun h₇ F₇ N₇ => ?_) hk hlo
  exact k h₇ g₆ _ _ (T0.trans T₆) F₇ N₇ ⟨hoec, hoeD, _, hoed⟩ K₆ X₆ P₆ D₆
end
end

section
open PySem PySem.W PyProof.Rows PySem.Calls
set_option Elab.async false
set_option maxRecDepth 100000
set_option maxHeartbeats 0
set_option linter.unusedVariables false
theorem fresh_E8 : True := by w_top off; trivial
def CodeObj (o : Obj) (code : Str) : Prop := ∃ es ep, o.data = .dict es ep ∧ StrKeys es ∧ UniqKeys es ∧ ∃ told tc, ∀ y, nsFind es y = if y = "told" then some told else if y = "code" then some (.str code tc) else none
theorem codeObj_of {h : Heap} {D : Addr} {oD : Obj} {code : Str} {tc : Tok} {told : Value} (e : h.get? D = some oD) (n : h.Ns1 D (fun y => if y = "told" then some told else if y = "code" then some (.str code tc) else none)) : CodeObj oD code := by
  obtain ⟨o, es, ep, ho, hd, k1, k2, k3⟩ := n
  obtain rfl : o = oD := Option.some.inj (ho.symm.trans e)
  exact ⟨es, ep, hd, k1, k2, told, tc, k3⟩
theorem News.two {h₀ h : Heap} {L : Addr} {a b c d : Addr × Obj} {l : List (Addr × Obj)} (N : News h₀ L h (a :: b :: c :: d :: l)) : News h₀ L h (a :: b :: d :: l) := fun p hp => by
  rcases List.mem_cons.mp hp with rfl | hp
  · exact N _ (.head _)
  · rcases List.mem_cons.mp hp with rfl | hp
    · exact N _ (.tail _ (.head _))
    · exact N _ (.tail _ (.tail _ (.tail _ hp)))
local macro_rules | `(tactic| walk_at "exec Raise some none") => `(tactic| (refine raise_own rfl ?_))
local macro_rules | `(tactic| walk_at "call ref") => `(tactic| (k_here; (with_reducible show wpAny _ _ (call (Value.ref 34) _) _ _ _); k_dflt (refine' basic_error _ ?B ?F ?X ?T ?N ?hA ?hf ?hke ?hroom ?_; (case B => k_asm); (case F => k_asm); (case X => k_asm); (case T => k_asm); (case N => k_asm); (case hA => exact rfl); (case hf => exact rfl); (case hke => exact rfl); (case hroom => ktr_room)); intro h8 tk8 e8 D8 oe8 oD8 F8 N8 c8 d8 p8 f8 y8 n8; have z8 := And.intro f8 y8; obtain ⟨t1, d8⟩ := d8; (try dsimp only)))
theorem enter_row_raises (w : World) {mean : ExcName → Option Value} {mg mb : Str → Option Value} {dp un : Nat} {gd : Option (List Code)} {cn : Str} {cs : Scope} {a : Addr} {ccd : Value} {cl : List (Str × Addr)} {outer : List Env} {A₀ : Around} {base h₀ : Heap} {L : Addr} {m : Str → Option Value} {s : Shared} {Q E : Value → Shared → Prop} {news : List (Addr × Obj)} {d : Addr} {o : Obj} {P : Prg} {x : Str} {t : Tok} {n : Int} {rest : Str} (B : Below A₀ base outer h₀) (F : Fr h₀ L s.heap m) (X : (Mine.hd.heap_1 w.params).In h₀) (T : Top Mine.view (looseW Mine.view [Str.ofString "BasicError"]) mean mg mb h₀) (hk : cs.kind = .function) (N : News h₀ L s.heap ((d, o) :: news))
  (hdn : ∀ p ∈ news, p.1 ≠ d) (ho : DictIs w o P) (hlen : P.length ≤ 1000) (lo : (d == sysModules) = false)
  (hr : RowIs x n rest) (hrl : rest.length ≤ 1000) (hb : (Txt.stripChars rest (Str.ofString " ") != Str.ofString "") = false) (hno : has P n = false) (hd : dp + 5 < recursionLimit) (hu : un + 30 < cLine)
  (hE : ∀ e D oD h' tk' G, Fr h₀ L G m → Below A₀ base outer h₀ → RaisedE base G (envX cn cs L a ccd cl :: outer) e D ((D, oD) :: (d, o) :: news) h' → G.UpToSlots h' → CodeObj oD "UL" → E (.ref e) { s with heap := h', toks := tk' }) :
  wpAny (model PySem.Challenge.rw_xm0026_01.row.prog w) (ktrTop dp un gd cn cs L a ccd cl outer) (call (.ref 79) [.ref d, .str x t]) Q E s := by
  have hoo := ho
  obtain ⟨kvs, hD, hR⟩ := ho
  have hlen' : kvs.length ≤ 1000 := by rw [hR.length]; exact hlen
  revert X; k_fill; intro X
  refine wpAny_call ?_
  k_dflt cell_enter
  k_steps
  · exfalso
    rename Option.isSome _ = true => hz
    rw [hR.isSome, hno] at hz; cases hz
  · rename News _ _ _ ((_, _) :: (_, _) :: (_, _) :: (d, _) :: news) => N9
    exact (N9 _ (.head _)).1
  · rename News _ _ _ ((_, _) :: (_, _) :: (_, _) :: (d, _) :: news) => N9
    rename Fr h₀ L _ m => FG
    rename Below _ _ (_ :: outer) _ => BG
    rename Heap.Ns1 _ _ _ => n9
    rename _ = some _ => p9
    rename _ = Value.ref 34 => c9
    rename _ = Data.fields _ => d9
    rename Fr _ _ _ _ => F9
    have c := codeObj_of (N9 _ (.tail _ (.head _))).1 n9
    have N9' := News.two N9
    refine leave_raiseE BG F9 N9' ?_ c9 d9 p9 (fun h' R U => ?_)
    · rename _ ∧ _ => hz
      obtain ⟨hf, hy⟩ := hz
      intro p hp
      rcases List.mem_cons.mp hp with rfl | hp
      · exact hf
      · exact hy p (.tail _ hp)
    · exact hE _ _ _ _ _ _ FG B R U c
end
end

section
open PySem PySem.W PyProof.Rows PySem.Calls
set_option Elab.async false
set_option maxRecDepth 100000
set_option maxHeartbeats 0
set_option linter.unusedVariables false
theorem fresh_E9 : True := by w_top off; trivial
local macro_rules | `(tactic| k_mem) => `(tactic| first | assumption | exact List.Mem.head _ | (refine' List.Mem.tail _ ?_; k_mem))
local macro_rules | `(tactic| walk_at "call ref") => `(tactic| (k_here; (with_reducible show wpAny _ _ (call (Value.ref 84) _) _ _ _); k_dflt (refine' numbers_within_spec _ ?B ?F ?X ?N ?T ?hk ?hm ?ho ?hl ?lo ?hd ?hu ?_; (case B => k_asm); (case F => k_asm); (case X => k_asm); (case N => k_asm); (case T => k_asm); (case hk => exact rfl); (case hm => k_mem); (case ho => assumption); (case hl => omega); (case lo => assumption); (case hd => ktr_room); (case hu => ktr_units)); intro D9 ys9 n9 h9 tk9 F9 N9 l9 I9; (have e9 := IntsAre.length I9); (try dsimp only)))
local macro_rules | `(tactic| walk_at "call builtin:len") => `(tactic| (k_here; (with_reducible show wpAny _ _ (call (Value.builtin "len") [Value.ref _]) _ _ _); k_dflt (refine' kst_len ?N ?m rfl ?f ?_; (case N => k_asm); (case m => k_mem); (case f => omega))))
local macro_rules | `(tactic| walk_at "exec Raise some none") => `(tactic| (refine raise_own rfl ?_))
local macro_rules | `(tactic| walk_at "call ref") => `(tactic| (k_here; (with_reducible show wpAny _ _ (call (Value.ref 34) _) _ _ _); k_dflt (refine' basic_error _ ?B ?F ?X ?T ?N ?hA ?hf ?hke ?hroom ?_; (case B => k_asm); (case F => k_asm); (case X => k_asm); (case T => k_asm); (case N => k_asm); (case hA => exact rfl); (case hf => exact rfl); (case hke => exact rfl); (case hroom => ktr_room)); intro h8 tk8 e8 D8 oe8 oD8 F8 N8 c8 d8 p8 f8 y8 n8; have z8 := And.intro f8 y8; obtain ⟨t1, d8⟩ := d8; (try dsimp only)))
theorem delete_lines_raises (w : World) {mean : ExcName → Option Value} {mg mb : Str → Option Value} {dp un : Nat} {gd : Option (List Code)} {cn : Str} {cs : Scope} {a : Addr} {ccd : Value} {cl : List (Str × Addr)} {outer : List Env} {A₀ : Around} {base h₀ : Heap} {L : Addr} {m : Str → Option Value} {s : Shared} {Q E : Value → Shared → Prop} {news : List (Addr × Obj)} {d : Addr} {o : Obj} {P : Prg} {a0 b0 : Int} {t t' : Tok} (B : Below A₀ base outer h₀) (F : Fr h₀ L s.heap m) (X : (Mine.hd.heap_1 w.params).In h₀) (T : Top Mine.view (looseW Mine.view [Str.ofString "BasicError"]) mean mg mb h₀) (hk : cs.kind = .function) (N : News h₀ L s.heap ((d, o) :: news))
  (hdn : ∀ p ∈ news, p.1 ≠ d) (ho : DictIs w o P) (hlen : P.length < 60) (lo : (d == sysModules) = false) (hw : within P a0 b0 = []) (hd : dp + 5 < recursionLimit) (hu : un + 30 < cLine)
  (hE : ∀ e D oD h' tk' G, Fr h₀ L G m → Below A₀ base outer h₀ → RaisedE base G (envX cn cs L a ccd cl :: outer) e D ((D, oD) :: (d, o) :: news) h' → G.UpToSlots h' → CodeObj oD "FC" → E (.ref e) { s with heap := h', toks := tk' }) :
  wpAny (model PySem.Challenge.rw_xm0026_01.row.prog w) (ktrTop dp un gd cn cs L a ccd cl outer) (call (.ref 91) [.ref d, .int a0 t, .int b0 t']) Q E s := by
  have hoo := ho
  obtain ⟨kvs, hD, hR⟩ := ho
  have hlen' : kvs.length < 60 := by rw [hR.length]; exact hlen
  revert X; k_fill; intro X
  refine wpAny_call ?_
  k_dflt cell_enter
  have hw' : (within P a0 b0).length = 0 := by rw [hw]; rfl
  k_steps
  · rename News _ _ _ ((_, _) :: (_, _) :: (_, _) :: (d, _) :: news) => N9
    exact (N9 _ (.head _)).1
  · rename News _ _ _ ((_, _) :: (_, _) :: (_, _) :: (d, _) :: news) => N9
    rename Fr h₀ L _ m => FG
    rename Below _ _ (_ :: outer) _ => BG
    rename Heap.Ns1 _ _ _ => n9
    rename _ = some _ => p9
    rename _ = Value.ref 34 => c9
    rename _ = Data.fields _ => d9
    rename Fr _ _ _ _ => F9
    have c := codeObj_of (N9 _ (.tail _ (.head _))).1 n9
    have N9' := News.two N9
    refine leave_raiseE BG F9 N9' ?_ c9 d9 p9 (fun h' R U => ?_)
    · rename _ ∧ _ => hz
      obtain ⟨hf, hy⟩ := hz
      intro p hp
      rcases List.mem_cons.mp hp with rfl | hp
      · exact hf
      · exact hy p (.tail _ hp)
    · exact hE _ _ _ _ _ _ FG B R U c
  · exfalso; omega
end

section
open PySem PySem.W PyProof.Rows PySem.Calls
set_option Elab.async false
set_option maxRecDepth 100000
set_option maxHeartbeats 0
set_option linter.unusedVariables false
section
variable {prog : Program} {w : World} {A₀ A : Around} {s : Shared} {base h₀ : Heap} {L : Addr} {m : Str → Option Value} {env : Env} {news : List (Addr × Obj)} {K : Frag} {p : Program} {loose : List Str} {mean : ExcName → Option Value} {mg mb : Str → Option Value}
    {R : Result → Shared → Prop} {name qual : Str} {params : Arguments} {body : List Stmt} {scope : Scope} {dV kV doc pm cdv ct oc : Value} {an od : Option Addr} {osl : Array (Option Value)} {f : Addr} {args : Args} {binds : List (Str × Value)}
theorem code_S (B : Below A₀ base [] h₀) (F : Fr h₀ L s.heap m) (X₀ : K.In h₀) (N : News h₀ L s.heap news) (T : Top p loose mean mg mb h₀) (hA : A.frames = some [env]) (hf : env.frame = some L) (hke : env.scope.kind = .function)
    (ho : K.lookup f = some ⟨oc, od, .func (fnOf name qual params body scope dV kV doc pm an cdv ct), osl⟩) (hcd : codeIn K cdv qual = true) (hroom : A.depth < recursionLimit)
    (hbind : BindsTo s (fnOf name qual params body scope dV kV doc pm an cdv ct) args binds) (hloc : ∀ y ∈ binds, scope.names.lookup y.1 = some .local)
    (h : ∀ g L' h₁, Fr h₀ L g m → Fr g L' h₁ (fun y => binds.reverse.lookup y) → News g L' h₁ news → Below A base [env] g → K.In g → Top p loose mean mg mb g → KtsDicts ([env].filterMap (·.frame)) g → (∀ p ∈ news, p.1 < L') →
      wpAny (model prog w) (A.deeper (envOf qual scope L' f cdv)) (execs body (envOf qual scope L' f cdv))
        (fun fl s' => LeaveS0 ([env].filterMap (·.frame)) h₀ L m g R (match fl with | .ret v => v | _ => .none) s')
        (fun e s' => wpAny (model prog w) (A.deeper (envOf qual scope L' f cdv)) («leaving» (envOf qual scope L' f cdv) e) (fun _ s'' => R (.error e) s'') (fun e' s'' => R (.error e') s'') s')
        { s with heap := h₁, toks := s.toks + binds.length })
    (hco : scope.isCoroutine = false) (hgen : scope.isGenerator = false) (hk : scope.kind = .function)
    (hcell : ∀ x ∈ scope.names, x.2 ≠ .cell) : codeAny (model prog w) A (.call (.ref f) args) R s := by
  obtain ⟨FG, BG, st, -⟩ := groundX (R := R) B F N hA hf hke
  refine codeAny_call_def (fd := fnOf name qual params body scope dV kV doc pm an cdv ct) (body := body) (binds := binds) hroom ((X₀.keeps F.keep) _ _ ho) rfl (T.nolimit.keeps F.keep) (codeRec_of (X₀.keeps F.keep) hcd) rfl hbind hcell hloc (fun h₁ hns hk₁ => ?_) hco hgen hk
  obtain ⟨oL, es, ep, hLg, hLd, hLk, hLf⟩ := FG.ns
  have hfs : ∀ b, b ∈ ([env].filterMap (·.frame)) → b = L := fun b hb => by
    rw [List.filterMap_cons, hf, List.filterMap_nil] at hb
    exact List.mem_singleton.mp hb
  refine wpAny_mono (h _ s.heap.objs.size h₁ FG ⟨hns, fun b o e => hk₁ b o (of_hideAll _ e), Nat.le_of_eq (hideAll_size _ _)⟩
    (fun p hp => ⟨hk₁ _ _ (N p hp).1, Nat.ne_of_lt (Heap.lt_size (N p hp).1), hideAll_none _ (List.mem_map_of_mem hp)⟩) BG (X₀.keeps st) (T.keeps st) (fun b hb => ⟨oL, es, ep, hfs b hb ▸ hLg, hLd⟩) (fun p hp => Heap.lt_size (N p hp).1)) (fun fl s' hl => ?_) fun _ _ y => y
  obtain ⟨g', L', m', news', T', F', N', k⟩ := hl
  have nL₀ : h₀.get? L = none := kts_self F
  obtain ⟨sl, hs⟩ := T'.up hLg
  refine k ⟨⟨_, es, ep, F'.keep _ _ hs, hLd, hLk, hLf⟩, fun b o e => F'.keep b o (T'.other b o (st b o e) (fun q => by
    rw [hfs b q, nL₀] at e
    cases e)), F.above⟩ fun p hp => ⟨(N' p hp).1, fun q => ?_, ?_⟩
  · have := (N' p hp).2.2; rw [q, hs] at this; cases this
  · cases q : h₀.get? p.1 with
    | none => rfl
    | some o =>
      obtain ⟨sl', hs'⟩ := T'.up (st _ _ q)
      have := (N' p hp).2.2
      rw [hs'] at this
      cases this
end
end

section
open PySem PySem.W PyProof.Rows PySem.Calls
set_option Elab.async false
set_option maxRecDepth 100000
set_option maxHeartbeats 0
set_option linter.unusedVariables false
section
variable {prog : Program} {w : World} {A : Around} {E : Value → Shared → Prop} {h : Heap} {g : Array GenState} {d : Drawn} {t : Nat} {os : OsState}
variable {nm q : Str} {C N x dx : Addr} {bs : List Value} {sn : List Str} {sub : List Value} {ab : Bool} {col : Option Bool} {dd : Option Addr} {k0 k1 k2 k3 k5 : Option Value} {newId : String}
  {mN mA : Str → Option Value} {name : Str} {v : Value} {o : Obj}
abbrev bmE : List Value := [.type "Exception", .type "BaseException", .type "object"]
theorem lk_ge : typeLookup (.type "Exception") "__getattr__" = pure none := by rw [typeLookup_type, builtinLookup_eq_fast]; kernel_rfl
theorem load_exc {expr : Bool} {Q : Value → Shared → Prop}
    (hC : h.get? C = some (excClassObj nm q C N bs bmE true sn sub ab col dd k0 k1 k2 k3 k5 newId)) (hn : h.Ns N mN) (hng : mN "__getattribute__" = none) (hgt : mN "__getattr__" = none) (hna : mN name = none)
    (hB : typeLookup (.type "Exception") name = pure none) (hx : h.get? x = some o) (hc : o.cls = .ref C) (hnc : ∀ c, o.data ≠ .cls c) (hdx : o.dict = some dx) (hns : h.Ns dx mA) (hv : mA name = some v) (hh : handedOut v = pure v) (hq : Q v ⟨h, g, d, t + 1, os⟩) :
    wpAny (model prog w) A (getAttr (.ref x) name expr) Q E ⟨h, g, d, t, os⟩ := by
  have FE := PySem.F.excBase_Exception
  have ga := PySem.F.attr_Exception.ga
  have entry : ∀ (A : Around) (tk : Tok) (Q : Fin → Shared → Prop) (E : Value → Shared → Prop) (t : Nat), Q (.done (.ret v)) ⟨h, g, d, t, os⟩ →
      wpAny (model prog w) A (Builtin.«object.__getattribute__» ⟨[.ref x, .str name tk], []⟩) Q E ⟨h, g, d, t, os⟩ := by
    intro A tk Q E t hq
    unfold Builtin.«object.__getattribute__»
    repeat (first | (with_reducible refine wpAny_loadPart_at hx ?_; rw [hc]) | (with_reducible refine wpAny_typeLookup_exc hC hn FE.mroIs hB ?_; rw [hna]) | wp_step)
    split
    · rename_i c hcd
      exact absurd hcd (hnc c)
    unfold instanceDict
    repeat (first | (with_reducible refine wpAny_loadPart_at hx ?_; rw [hc]) | with_reducible refine wpAny_loadPart_at hC ?_ | wp_step)
    rw [hdx]
    repeat (first | (with_reducible refine wpAny_nsGet hns ?_; rw [hv]) | wp_step)
    exact hq
  have chk : ∀ {M : Model} (A : Around) (nameV : Value) (Q : Unit → Shared → Prop) (E : Value → Shared → Prop) (t : Nat), Q () ⟨h, g, d, t, os⟩ → wpAny M A (checkBuiltinCall "BaseException.__getattribute__" ⟨[.ref x, nameV], []⟩) Q E ⟨h, g, d, t, os⟩ := by
    intro M A nameV Q E t hq
    have hk : builtinKind "BaseException.__getattribute__" = some .slot := by decide +kernel
    have hsplit : splitId "BaseException.__getattribute__" = some ("BaseException", "__getattribute__") := by decide +kernel
    have hcB : (Value.ref C :: bmE).contains (.type "BaseException") = true := by rw [List.contains_cons]; simp
    have ha := PySem.F.args_bexc_ga (.ref x) nameV
    simp only [checkBuiltinCall, hk, hsplit]
    refine wpAny_bind ?_
    · unfold isInstance
      repeat (first | (with_reducible refine wpAny_loadPart_at hx ?_; rw [hc]) | (with_reducible refine wpAny_isSubtype_exc hC ?_; rw [hcB]) | wp_step)
      exact hq
  have f3 := ga.bind (.ref x)
  have hx0 : (expr && onTheHeap (Value.builtin "BaseException.__getattribute__")) = false := by cases expr <;> rfl
  have hx2 : (Value.builtin "BaseException.__getattribute__" == Value.builtin "object.__getattribute__") = false := by decide +kernel
  have hx1 : (onTheHeap (Value.ref C) && Value.builtin "BaseException.__getattribute__" == Value.builtin "object.__getattribute__") = false := by rw [hx2]; rfl
  unfold getAttr
  repeat (any_goals (first | assumption | (with_reducible refine wpAny_loadPart_at hx ?_; rw [hc]) | (with_reducible refine wpAny_typeLookup_exc hC hn FE.mroIs ga.lookup ?_; rw [hng]) | (with_reducible refine wpAny_typeLookup_exc hC hn FE.mroIs lk_ge ?_; rw [hgt]) | wp_step))
  refine codeAny_call_builtin ga.plain PySem.F.entry_bexc_ga (chk _ _ _ _ _ (entry _ _ _ _ _ ?_))
  repeat (any_goals (first | assumption | wp_step))
end
end

section
open PySem PySem.W PyProof.Rows PySem.Calls
set_option Elab.async false
set_option maxRecDepth 100000
set_option maxHeartbeats 0
set_option linter.unusedVariables false
theorem fresh_E11 : True := by w_top off; trivial
local macro_rules | `(tactic| walk_at "call ref") => `(tactic| (k_here; refine hold ?_))
local macro_rules | `(tactic| walk_at "noteFrame ref") => `(tactic| (k_here; refine hold ?_))
theorem drop2 {h₀ h : Heap} {L : Addr} {a b : Addr × Obj} {l : List (Addr × Obj)} (N : News h₀ L h (a :: b :: l)) : News h₀ L h l := fun p hp => N p (.tail _ (.tail _ hp))
/-- what a deed leaves of a program, and the code it answers -/
def deed (f n l : Int) (x : Str) (P : Prg) : Prg × Str :=
  if f < 2 then (if (Txt.stripChars x (Str.ofString " ") != Str.ofString "") = true then (put P n (Txt.rstripChars x (Str.ofString " ")), Str.ofString "") else if has P n = true then (del P n, Str.ofString "") else (P, Str.ofString "UL"))
  else if f = 2 then (if has P n = true then (del P n, Str.ofString "") else (P, Str.ofString "UL"))
  else if f = 3 then (if within P n l = [] then (P, Str.ofString "FC") else ((within P n l).foldl del P, Str.ofString ""))
  else if (Txt.stripChars x (Str.ofString " ") == Str.ofString "") = true then (P, Str.ofString "") else (put P n (Txt.stripChars x (Str.ofString " ")), Str.ofString "")
theorem law_do_spec (w : World) {mean : ExcName → Option Value} {mg mb : Str → Option Value} {dp un : Nat} {gd : Option (List Code)} {cn : Str} {cs : Scope} {a : Addr} {ccd : Value} {cl : List (Str × Addr)} {outer : List Env} {A₀ : Around} {base h₀ : Heap} {L : Addr} {m : Str → Option Value} {s : Shared} {Q E : Value → Shared → Prop} {news : List (Addr × Obj)} {d : Addr} {o : Obj} {P : Prg} {f n l : Int} {x : Str} {tf tn tl tx : Tok} (B : Below A₀ base [] h₀) (F : Fr h₀ L s.heap m) (X : (Mine.hd.heap_1 w.params).In h₀) (T : Top Mine.view (looseW Mine.view [Str.ofString "BasicError"]) mean mg mb h₀) (hk : cs.kind = .function)
  (XB : (Mine.hd.heap_1 w.params).In base) (TB : Top Mine.view (looseW Mine.view [Str.ofString "BasicError"]) mean mg mb base) (N : News h₀ L s.heap ((d, o) :: news))
  (hdn : ∀ p ∈ news, p.1 ≠ d) (ho : DictIs w o P) (hlen : P.length < 60) (lo : (d == sysModules) = false) (hn0 : 0 ≤ n) (hn1 : n ≤ 65529) (hxl : x.length ≤ 1000) (hr1 : f < 2 → RowIs (Str.ofString (toString n) ++ Str.ofString " " ++ x) n x) (hr2 : f = 2 → RowIs (Str.ofString (toString n)) n (Str.ofString ""))
  (hret : ∀ h' o' tk t P' c, deed f n l x P = (P', c) → Fr h₀ L h' m → News h₀ L h' ((d, o') :: news) → DictIs w o' P' → Q (.str c t) { s with heap := h', toks := tk })
  (hd : dp + 9 < recursionLimit) (hu : un + 50 < cLine) :
  wpAny (model PySem.Challenge.rw_xm0026_01.row.prog w) (ktrTop dp un gd cn cs L a ccd cl []) (call (.ref 124) [.ref d, .int f tf, .int n tn, .int l tl, .str x tx]) Q E s := by
  revert X XB; k_fill; intro X XB
  refine wpAny_call ?_
  refine' code_S (env := envX cn cs L a ccd cl) B F X N T rfl rfl hk ?k6 ?k7 ?k8 ?k9 ?kB ?_ ?c1 ?c2 ?c3 ?c4
  case k6 => exact rfl
  case k7 => exact rfl
  case k8 => ktr_room
  case k9 => exact BindsTo.of_eq (by with_unfolding_all rfl)
  case kB => exact locs rfl
  case c1 => rfl
  case c2 => rfl
  case c3 => rfl
  case c4 => decide
  intro g' L' h' FG' F' N' B' X' T' D' l1
  try dsimp only
  try k_fold
  k_steps
  · unfold Hold
    by_cases hb : (Txt.stripChars x (Str.ofString " ") != Str.ofString "") = true ∨ has P n = true
    · k_dflt (refine' enter_row_spec _ B' F' X' T' ?hk N' hdn ho ?z lo ?r ?rl hb ?hd ?hu ?_)
      case hk => exact rfl
      case z => omega
      case r => exact hr1 (by assumption)
      case rl => exact hxl
      case hd => ktr_room
      case hu => ktr_units
      intro h8 o8 tk8 F8 N8 d8
      k_steps
      refine hret _ _ _ _ _ _ ?_ (by assumption) (by assumption) d8
      rename f < 2 => hf
      unfold deed
      rw [if_pos hf]
      by_cases hz : (Txt.stripChars x (Str.ofString " ") != Str.ofString "") = true
      · rw [if_pos hz, if_pos hz]
      · rw [if_neg hz, if_neg hz, if_pos (hb.resolve_left hz)]
    · have hb' : (Txt.stripChars x (Str.ofString " ") != Str.ofString "") = false ∧ has P n = false := by
        rw [not_or] at hb
        exact ⟨Bool.eq_false_iff.mpr hb.1, Bool.eq_false_iff.mpr hb.2⟩
      k_dflt (refine' enter_row_raises _ B' F' X' T' ?hk N' hdn ho ?z lo ?r ?rl hb'.1 hb'.2 ?hd ?hu ?_)
      case hk => exact rfl
      case z => omega
      case r => exact hr1 (by assumption)
      case rl => exact hxl
      case hd => ktr_room
      case hu => ktr_units
      intro e D oD h8 tk8 G FG BG R U c
      k_dflt (refine' caught_E R FG BG U XB TB D' KtsTurn.refl ?ex ?q ?_)
      case ex => k_is
      case q => kernel_rfl
      intro h9 g9 tk9 oe T9 F9 N9 c9 K9 X9 P9 D9
      obtain ⟨es, ep, hes, hk1, -, told, tc, hk3⟩ := c
      obtain ⟨c91, c92, vs9, c93⟩ := c9
      k_steps
      obtain ⟨mN, hn9, -, -, hng, hgt, hcode, -⟩ := be_ns (X9.keeps F9.keep)
      k_dflt (refine' load_exc (be_cls (X9.keeps F9.keep)) hn9 hng hgt hcode (by rw [typeLookup_type, builtinLookup_eq_fast]; kernel_rfl) (N9 _ (.head _)).1 c91 (fun q hq => by rw [c93] at hq; cases hq) c92 ⟨oD, es, ep, (N9 _ (.tail _ (.head _))).1, hes, hk1, fun y => rfl⟩ (hk3 _) rfl ?_)
      dsimp only
      k_steps
      refine hret _ _ _ _ _ _ ?_ (by assumption) (drop2 (by assumption)) ho
      rename f < 2 => hf
      unfold deed
      rw [if_pos hf, if_neg (by rw [hb'.1]; decide), if_neg (by rw [hb'.2]; decide)]
  · unfold Hold
    have hf2 : f = 2 := by omega
    have hb0 : (Txt.stripChars (Str.ofString "") (Str.ofString " ") != Str.ofString "") = false := by decide +kernel
    by_cases hb : has P n = true
    · k_dflt (refine' enter_row_spec _ B' F' X' T' ?hk N' hdn ho ?z lo ?r ?rl (.inr hb) ?hd ?hu ?_)
      case hk => exact rfl
      case z => omega
      case r => exact hr2 hf2
      case rl => exact Nat.zero_le _
      case hd => ktr_room
      case hu => ktr_units
      intro h8 o8 tk8 F8 N8 d8
      rw [if_neg (by rw [hb0]; decide)] at d8
      k_steps
      refine hret _ _ _ _ _ _ ?_ (by assumption) (by assumption) d8
      unfold deed
      rw [if_neg (by omega), if_pos hf2, if_pos hb]
    · k_dflt (refine' enter_row_raises _ B' F' X' T' ?hk N' hdn ho ?z lo ?r ?rl hb0 (Bool.eq_false_iff.mpr hb) ?hd ?hu ?_)
      case hk => exact rfl
      case z => omega
      case r => exact hr2 hf2
      case rl => exact Nat.zero_le _
      case hd => ktr_room
      case hu => ktr_units
      intro e D oD h8 tk8 G FG BG R U c
      k_dflt (refine' caught_E R FG BG U XB TB D' KtsTurn.refl ?ex ?q ?_)
      case ex => k_is
      case q => kernel_rfl
      intro h9 g9 tk9 oe T9 F9 N9 c9 K9 X9 P9 D9
      obtain ⟨es, ep, hes, hk1, -, told, tc, hk3⟩ := c
      obtain ⟨c91, c92, vs9, c93⟩ := c9
      k_steps
      obtain ⟨mN, hn9, -, -, hng, hgt, hcode, -⟩ := be_ns (X9.keeps F9.keep)
      k_dflt (refine' load_exc (be_cls (X9.keeps F9.keep)) hn9 hng hgt hcode (by rw [typeLookup_type, builtinLookup_eq_fast]; kernel_rfl) (N9 _ (.head _)).1 c91 (fun q hq => by rw [c93] at hq; cases hq) c92 ⟨oD, es, ep, (N9 _ (.tail _ (.head _))).1, hes, hk1, fun y => rfl⟩ (hk3 _) rfl ?_)
      dsimp only
      k_steps
      refine hret _ _ _ _ _ _ ?_ (by assumption) (drop2 (by assumption)) ho
      unfold deed
      rw [if_neg (by omega), if_pos hf2, if_neg hb]
  · unfold Hold
    have hf2 : f = 3 := by omega
    by_cases hb : within P n l = []
    · k_dflt (refine' delete_lines_raises _ B' F' X' T' ?hk N' hdn ho hlen lo hb ?hd ?hu ?_)
      case hk => exact rfl
      case hd => ktr_room
      case hu => ktr_units
      intro e D oD h8 tk8 G FG BG R U c
      k_dflt (refine' caught_E R FG BG U XB TB D' KtsTurn.refl ?ex ?q ?_)
      case ex => k_is
      case q => kernel_rfl
      intro h9 g9 tk9 oe T9 F9 N9 c9 K9 X9 P9 D9
      obtain ⟨es, ep, hes, hk1, -, told, tc, hk3⟩ := c
      obtain ⟨c91, c92, vs9, c93⟩ := c9
      k_steps
      obtain ⟨mN, hn9, -, -, hng, hgt, hcode, -⟩ := be_ns (X9.keeps F9.keep)
      k_dflt (refine' load_exc (be_cls (X9.keeps F9.keep)) hn9 hng hgt hcode (by rw [typeLookup_type, builtinLookup_eq_fast]; kernel_rfl) (N9 _ (.head _)).1 c91 (fun q hq => by rw [c93] at hq; cases hq) c92 ⟨oD, es, ep, (N9 _ (.tail _ (.head _))).1, hes, hk1, fun y => rfl⟩ (hk3 _) rfl ?_)
      dsimp only
      k_steps
      refine hret _ _ _ _ _ _ ?_ (by assumption) (drop2 (by assumption)) ho
      unfold deed
      rw [if_neg (by omega), if_neg (by omega), if_pos hf2, if_pos hb]
    · k_dflt (refine' delete_lines_spec _ B' F' X' T' ?hk N' hdn ho hlen lo hb ?hd ?hu ?_)
      case hk => exact rfl
      case hd => ktr_room
      case hu => ktr_units
      intro o8 h8 tk8 F8 N8 d8
      k_steps
      refine hret _ _ _ _ _ _ ?_ (by assumption) (by assumption) d8
      unfold deed
      rw [if_neg (by omega), if_neg (by omega), if_pos hf2, if_neg hb]
  · unfold Hold
    k_dflt (refine' auto_row_spec _ B' F' X' T' ?hk N' hdn ho ?z lo ⟨hn0, hn1⟩ hxl ?hd ?hu ?_)
    case hk => exact rfl
    case z => omega
    case hd => ktr_room
    case hu => ktr_units
    intro v8 h8 o8 tk8 F8 N8 d8
    k_steps
    refine hret _ _ _ _ _ _ ?_ (by assumption) (by assumption) d8
    unfold deed
    rw [if_neg (by omega), if_neg (by omega), if_neg (by omega)]
    by_cases hz : (Txt.stripChars x (Str.ofString " ") == Str.ofString "") = true
    · rw [if_pos hz, if_pos hz]
    · rw [if_neg hz, if_neg hz]
end

section
open PySem PySem.W PyProof.Rows PySem.Calls
set_option Elab.async false
set_option maxRecDepth 100000
set_option maxHeartbeats 0
set_option linter.unusedVariables false
theorem get_find {P : Prg} {k : Int} {x : Str} (h : (P.map (·.1)).Nodup) : get P k = some x ↔ (k, x) ∈ P := by
  constructor
  · intro hg
    unfold get at hg
    cases hf : P.find? (fun p : Int × Str => decide (p.1 = k)) with
    | none => rw [hf] at hg; cases hg
    | some q =>
      rw [hf] at hg
      cases hg
      have h1 := List.mem_of_find?_eq_some hf
      have h2 : q.1 = k := of_decide_eq_true (List.find?_some (p := fun p : Int × Str => decide (p.1 = k)) hf)
      rw [← h2]; exact h1
  · intro hm; exact nodup_get h hm
theorem has_get {P : Prg} {k : Int} : has P k = (get P k).isSome := by
  unfold has get
  induction P with
  | nil => rfl
  | cons a P ih =>
    rw [List.any_cons, List.find?_cons]
    by_cases e : a.1 = k
    · simp [e]
    · simp only [e, decide_false, Bool.false_or]; exact ih
theorem get_none {P : Prg} {k : Int} (h : has P k = false) : get P k = none := by
  rw [has_get] at h
  cases e : get P k with
  | none => rfl
  | some x => rw [e] at h; cases h
theorem get_del {P : Prg} {j k : Int} : get (del P j) k = if k = j then none else get P k := by
  unfold get del
  induction P with
  | nil => simp
  | cons a P ih =>
    rw [List.filter_cons]
    by_cases e : a.1 = j
    · rw [if_neg (by simp [e]), ih]
      by_cases e2 : k = j
      · simp [e2]
      · rw [if_neg e2, if_neg e2, List.find?_cons]
        have : ¬ a.1 = k := fun q => e2 (q.symm.trans e)
        simp [this]
    · rw [if_pos (by simp [e]), List.find?_cons, List.find?_cons]
      by_cases e2 : a.1 = k
      · have : ¬ k = j := fun q => e (e2.trans q)
        simp [e2, this]
      · simp only [e2, decide_false]; exact ih
theorem get_map {P : Prg} {j k : Int} {x : Str} : get (P.map fun p => if p.1 = j then (p.1, x) else p) k = if k = j ∧ has P j = true then some x else get P k := by
  unfold get has
  induction P with
  | nil => simp
  | cons a P ih =>
    rw [List.map_cons, List.find?_cons, List.find?_cons, List.any_cons]
    by_cases e : a.1 = j
    · by_cases e2 : a.1 = k
      · have : k = j := e2.symm.trans e
        simp [e, this]
      · have : ¬ k = j := fun q => e2 (e.trans q.symm)
        simp only [if_pos e, e2, decide_false, this, false_and, if_false]
        simpa [this] using ih
    · by_cases e2 : a.1 = k
      · have : ¬ k = j := fun q => e (e2.trans q)
        simp [e, e2, this]
      · simp only [e, if_false, e2, decide_false, Bool.false_or]; exact ih
theorem get_put {P : Prg} {j k : Int} {x : Str} : get (put P j x) k = if k = j then some x else get P k := by
  unfold put
  by_cases h : has P j = true
  · rw [if_pos h, get_map]; simp [h]
  · rw [if_neg h]
    have hn := get_none (Bool.eq_false_iff.mpr h)
    unfold get at hn ⊢
    rw [List.find?_append]
    by_cases e : k = j
    · subst e
      have : P.find? (fun p : Int × Str => decide (p.1 = k)) = none := Option.map_eq_none_iff.mp hn
      rw [this]; simp
    · have e' : ¬ j = k := fun q => e q.symm
      simp [e, e']
theorem keys_put {P : Prg} {j : Int} {x : Str} (h : (P.map (·.1)).Nodup) : ((put P j x).map (·.1)).Nodup := by
  unfold put
  by_cases hh : has P j = true
  · rw [if_pos hh]
    have : (P.map fun p => if p.1 = j then (p.1, x) else p).map (·.1) = P.map (·.1) := by
      rw [List.map_map]
      refine List.map_congr_left fun p _ => ?_
      simp only [Function.comp]
      split <;> rfl
    rw [this]; exact h
  · rw [if_neg hh, List.map_append, List.nodup_append]
    refine ⟨h, by simp, fun a ha b hb => ?_⟩
    obtain ⟨p, hp, rfl⟩ := List.mem_map.mp ha
    simp only [List.map_cons, List.map_nil, List.mem_singleton] at hb
    subst hb
    intro e
    exact hh (List.any_eq_true.mpr ⟨p, hp, decide_eq_true e⟩)
theorem keys_del {P : Prg} {j : Int} (h : (P.map (·.1)).Nodup) : ((del P j).map (·.1)).Nodup := by
  unfold del
  exact h.sublist ((List.filter_sublist).map _)
theorem perm_of_get {P Q : Prg} (h : (P.map (·.1)).Nodup) (h' : (Q.map (·.1)).Nodup) (hg : ∀ k, get P k = get Q k) : P.Perm Q := by
  have n1 : P.Nodup := (List.pairwise_map.mp h).imp (fun hab e => hab (congrArg _ e))
  have n2 : Q.Nodup := (List.pairwise_map.mp h').imp (fun hab e => hab (congrArg _ e))
  refine (List.perm_ext_iff_of_nodup n1 n2).mpr fun a => ?_
  rw [show a = (a.1, a.2) from rfl, ← get_find h, ← get_find h', hg]
theorem get_foldl {k : Int} : ∀ {l : List Int} {P : Prg}, get (l.foldl del P) k = if k ∈ l then none else get P k
  | [], _ => by simp
  | j :: l, P => by
    rw [List.foldl_cons, get_foldl, get_del]
    by_cases h : k ∈ l
    · simp [h]
    · by_cases e : k = j <;> simp [h, e]
theorem keys_foldl : ∀ {l : List Int} {P : Prg}, (P.map (·.1)).Nodup → ((l.foldl del P).map (·.1)).Nodup
  | [], _, h => h
  | j :: l, P, h => keys_foldl (l := l) (keys_del h)
theorem mem_foldl {p : Int × Str} : ∀ {l : List Int} {P : Prg}, p ∈ l.foldl del P → p ∈ P
  | [], _, h => h
  | j :: l, P, h => (List.mem_filter.mp (mem_foldl (l := l) h)).1
theorem mem_put {P : Prg} {j : Int} {x : Str} {p : Int × Str} (h : p ∈ put P j x) : p ∈ P ∨ p = (j, x) := by
  unfold put at h
  split at h
  · obtain ⟨q, hq, e⟩ := List.mem_map.mp h
    by_cases c : q.1 = j
    · rw [if_pos c, c] at e; exact .inr e.symm
    · rw [if_neg c] at e; exact .inl (e ▸ hq)
  · rcases List.mem_append.mp h with h | h
    · exact .inl h
    · exact .inr (List.mem_singleton.mp h)
theorem within_one {P : Prg} {n : Int} (h : (P.map (·.1)).Nodup) : within P n n = if has P n = true then [n] else [] := by
  have hn := within_nodup h n n
  have hm : ∀ k ∈ within P n n, k = n := fun k hk => by have := within_mem hk; omega
  by_cases hh : has P n = true
  · rw [if_pos hh]
    have hin : n ∈ within P n n := by
      unfold within
      refine List.mem_filter.mpr ⟨(sortI_perm _).mem_iff.mpr ?_, by simp⟩
      obtain ⟨x, hx⟩ := has_mem hh
      exact List.mem_map.mpr ⟨_, hx, rfl⟩
    cases e : within P n n with
    | nil => rw [e] at hin; cases hin
    | cons a l =>
      rw [e] at hm hn
      have ha := hm a (.head _)
      subst ha
      cases l with
      | nil => rfl
      | cons b l =>
        have hb := hm b (.tail _ (.head _))
        subst hb
        exact absurd (.head _) (List.nodup_cons.mp hn).1
  · rw [if_neg hh]
    cases e : within P n n with
    | nil => rfl
    | cons a l =>
      have ha : a ∈ within P n n := by rw [e]; exact .head _
      have := (within_mem ha).1
      rw [hm a ha] at this
      exact absurd this hh
theorem bne_beq {x y : Str} : (x != y) = true ↔ ¬ (x == y) = true := by
  cases h : x == y <;> simp [bne, h]
theorem own_del {f n l : Int} {x : Str} {P : Prg} (hc : f = 2 ∨ f = 3 ∨ f < 2 ∧ (Txt.stripChars x (Str.ofString " ") == Str.ofString "") = true) :
    own f n l x P = ((within P n (if f = 3 then l else n)).foldl del P, within P n (if f = 3 then l else n), if within P n (if f = 3 then l else n) = [] then (if f = 3 then Str.ofString "FC" else Str.ofString "UL") else Str.ofString "") := by
  unfold own
  exact if_pos hc
theorem own_one {f n l : Int} {x : Str} {P : Prg} (h : (P.map (·.1)).Nodup) (hc : f = 2 ∨ f = 3 ∨ f < 2 ∧ (Txt.stripChars x (Str.ofString " ") == Str.ofString "") = true) (n3 : ¬ f = 3) :
    (if has P n = true then (del P n, Str.ofString "") else (P, Str.ofString "UL")) = ((own f n l x P).1, (own f n l x P).2.2) := by
  rw [own_del hc, if_neg n3, if_neg n3, within_one h]
  by_cases hh : has P n = true
  · rw [if_pos hh, if_pos hh, if_neg (by simp)]; rfl
  · rw [if_neg hh, if_neg hh, if_pos rfl]; rfl
/-- the deed and what the law expects of it agree -/
theorem deed_own {f n l : Int} {x : Str} {P : Prg} (h : (P.map (·.1)).Nodup) : deed f n l x P = ((own f n l x P).1, (own f n l x P).2.2) := by
  unfold deed
  by_cases f2 : f < 2
  · rw [if_pos f2]
    have n2 : ¬ f = 2 := by omega
    have n3 : ¬ f = 3 := by omega
    by_cases hb : (Txt.stripChars x (Str.ofString " ") == Str.ofString "") = true
    · rw [if_neg (fun q => (bne_beq.mp q) hb)]
      exact own_one h (Or.inr (Or.inr ⟨f2, hb⟩)) n3
    · rw [if_pos (bne_beq.mpr hb), own_put1 (by rintro (q | q | q); exact n2 q; exact n3 q; exact hb q.2) (Bool.eq_false_iff.mpr hb) f2]
  · rw [if_neg f2]
    by_cases e2 : f = 2
    · rw [if_pos e2]
      exact own_one h (Or.inl e2) (by omega)
    · rw [if_neg e2]
      by_cases e3 : f = 3
      · rw [if_pos e3, own_del (Or.inr (Or.inl e3)), if_pos e3, if_pos e3]
        by_cases hw : within P n l = []
        · rw [if_pos hw, if_pos hw, hw]; rfl
        · rw [if_neg hw, if_neg hw]
      · rw [if_neg e3]
        have hc : ¬ (f = 2 ∨ f = 3 ∨ f < 2 ∧ (Txt.stripChars x (Str.ofString " ") == Str.ofString "") = true) := by rintro (q | q | q); exact e2 q; exact e3 q; exact f2 q.1
        by_cases hb : (Txt.stripChars x (Str.ofString " ") == Str.ofString "") = true
        · rw [if_pos hb, own_nil hc hb]
        · rw [if_neg hb, own_put2 hc (Bool.eq_false_iff.mpr hb) f2]
/-- one turn: what changed, and where -/
structure Step (P P' : Prg) (l : List Int) : Prop where
  keys : (P'.map (·.1)).Nodup
  same : ∀ k, k ∉ l → get P' k = get P k
  some : ∀ k ∈ l, has P k = true ∨ has P' k = true
  nodup : l.Nodup
theorem own_step {f n l : Int} {x : Str} {P : Prg} (h : (P.map (·.1)).Nodup) : Step P (own f n l x P).1 (own f n l x P).2.1 := by
  unfold own
  split
  · refine ⟨keys_foldl h, fun k hk => ?_, fun k hk => .inl (within_mem hk).1, within_nodup h _ _⟩
    rw [get_foldl, if_neg hk]
  · split
    · exact ⟨h, fun _ _ => rfl, (fun k hk => by cases hk), .nil⟩
    · refine ⟨keys_put h, fun k hk => ?_, fun k hk => .inr ?_, by simp⟩
      · rw [get_put, if_neg (fun e => hk (by simp [e]))]
      · rw [List.mem_singleton.mp hk, has_get, get_put, if_pos rfl]; rfl
theorem own_mem {f n l : Int} {x : Str} {P : Prg} {p : Int × Str} (h : p ∈ (own f n l x P).1) :
    p ∈ P ∨ (p.1 = n ∧ (Txt.stripChars x (Str.ofString " ") == Str.ofString "") = false ∧ (p.2 = Txt.rstripChars x (Str.ofString " ") ∨ p.2 = Txt.stripChars x (Str.ofString " "))) := by
  unfold own at h
  split at h
  · exact .inl (mem_foldl h)
  · split at h
    · exact .inl h
    · rename_i hb
      rcases mem_put h with h | h
      · exact .inl h
      · refine .inr ⟨by rw [h], Bool.eq_false_iff.mpr hb, ?_⟩
        rw [h]
        dsimp only
        split
        · exact .inl rfl
        · exact .inr rfl
theorem own_lines {f n l : Int} {x : Str} {P : Prg} {k : Int} (h : k ∈ (own f n l x P).2.1) : has P k = true ∨ k = n := by
  unfold own at h
  split at h
  · exact .inl (within_mem h).1
  · split at h
    · cases h
    · exact .inr (List.mem_singleton.mp h)
theorem own_length {f n l : Int} {x : Str} {P : Prg} : (own f n l x P).1.length ≤ P.length + 1 := by
  unfold own
  split
  · exact Nat.le_succ_of_le (foldl_del_length _ _)
  · split
    · exact Nat.le_succ _
    · exact put_length _ _ _
end

section
open PySem PySem.W PyProof.Rows PySem.Calls
set_option Elab.async false
set_option maxRecDepth 100000
set_option maxHeartbeats 0
set_option linter.unusedVariables false
/-- the numbers and the texts that the law's programs bear -/
def nums : List Int := [10, 20, 30, 40]
def txts : List Str := [Str.ofString "X = 1", Str.ofString "REM  Z", Str.ofString " END", Str.ofString "END"]
/-- the texts that the law types -/
def raws : List Str := [Str.ofString "X = 1", Str.ofString "REM  Z  ", Str.ofString " END", Str.ofString "   "]
/-- a line whose row, and whose number alone, can be entered again -/
structure Fine (p : Int × Str) : Prop extends LineOk p where
  enter : RowIs (rowOf p.1 p.2) p.1 p.2
  full : (Txt.stripChars p.2 (Str.ofString " ") != Str.ofString "") = true
theorem fine_all : ∀ k ∈ nums, ∀ x ∈ txts, Fine (k, x) := by
  intro k hk x hx
  simp only [nums, List.mem_cons, List.not_mem_nil, or_false] at hk
  simp only [txts, List.mem_cons, List.not_mem_nil, or_false] at hx
  rcases hk with rfl | rfl | rfl | rfl <;> rcases hx with rfl | rfl | rfl | rfl <;>
    exact ⟨⟨by decide +kernel, by decide +kernel, ⟨by decide +kernel, ⟨by decide +kernel, by decide +kernel, by decide +kernel, by decide +kernel, by decide +kernel, by decide +kernel, by decide +kernel, by decide +kernel, by decide +kernel⟩, by decide +kernel, by decide +kernel, by decide +kernel⟩, by decide +kernel, by decide +kernel⟩,
      ⟨by decide +kernel, by decide +kernel, by decide +kernel, by decide +kernel, by decide +kernel, by decide +kernel, by decide +kernel, by decide +kernel, by decide +kernel⟩, by decide +kernel⟩
theorem row_alone : ∀ k ∈ nums, RowIs (Str.ofString (toString k)) k (Str.ofString "") := by
  intro k hk
  simp only [nums, List.mem_cons, List.not_mem_nil, or_false] at hk
  rcases hk with rfl | rfl | rfl | rfl <;>
    exact ⟨by decide +kernel, by decide +kernel, by decide +kernel, by decide +kernel, by decide +kernel, by decide +kernel, by decide +kernel, by decide +kernel, by decide +kernel⟩
theorem row_raw : ∀ k ∈ nums, ∀ x ∈ raws, RowIs (Str.ofString (toString k) ++ Str.ofString " " ++ x) k x := by
  intro k hk x hx
  simp only [nums, List.mem_cons, List.not_mem_nil, or_false] at hk
  simp only [raws, List.mem_cons, List.not_mem_nil, or_false] at hx
  rcases hk with rfl | rfl | rfl | rfl <;> rcases hx with rfl | rfl | rfl | rfl <;>
    exact ⟨by decide +kernel, by decide +kernel, by decide +kernel, by decide +kernel, by decide +kernel, by decide +kernel, by decide +kernel, by decide +kernel, by decide +kernel⟩
theorem raw_txt : ∀ x ∈ raws, (Txt.stripChars x (Str.ofString " ") == Str.ofString "") = false → Txt.rstripChars x (Str.ofString " ") ∈ txts ∧ Txt.stripChars x (Str.ofString " ") ∈ txts := by
  intro x hx hb
  simp only [raws, List.mem_cons, List.not_mem_nil, or_false] at hx
  rcases hx with rfl | rfl | rfl | rfl
  · exact ⟨by decide +kernel, by decide +kernel⟩
  · exact ⟨by decide +kernel, by decide +kernel⟩
  · exact ⟨by decide +kernel, by decide +kernel⟩
  · exact absurd hb (by decide +kernel)
theorem raw_len : ∀ x ∈ raws, x.length ≤ 1000 := by
  intro x hx
  simp only [raws, List.mem_cons, List.not_mem_nil, or_false] at hx
  rcases hx with rfl | rfl | rfl | rfl <;> decide +kernel
/-- a program of the law -/
structure Good (P : Prg) : Prop where
  keys : (P.map (·.1)).Nodup
  lines : ∀ p ∈ P, p.1 ∈ nums ∧ p.2 ∈ txts
theorem Good.fine {P : Prg} (h : Good P) : ∀ p ∈ P, Fine p := fun p hp => fine_all p.1 (h.lines p hp).1 p.2 (h.lines p hp).2
theorem Good.length {P : Prg} (h : Good P) : P.length ≤ 4 := by
  have : (P.map (·.1)).length ≤ nums.length := List.Nodup.length_le_of_subset h.keys (fun k hk => by
    obtain ⟨p, hp, rfl⟩ := List.mem_map.mp hk
    exact (h.lines p hp).1)
  simpa [nums] using this
theorem own_good {f n l : Int} {x : Str} {P : Prg} (h : Good P) (hn : n ∈ nums) (hx : x ∈ raws) : Good (own f n l x P).1 := by
  refine ⟨(own_step h.keys).keys, fun p hp => ?_⟩
  rcases own_mem hp with hp | ⟨h1, h2, h3⟩
  · exact h.lines p hp
  · rw [h1]
    have := raw_txt x hx h2
    rcases h3 with h3 | h3 <;> rw [h3]
    · exact ⟨hn, this.1⟩
    · exact ⟨hn, this.2⟩
theorem own_nums {f n l : Int} {x : Str} {P : Prg} (h : Good P) (hn : n ∈ nums) {k : Int} (hk : k ∈ (own f n l x P).2.1) : k ∈ nums := by
  rcases own_lines hk with h1 | rfl
  · obtain ⟨y, hy⟩ := has_mem h1
    exact (h.lines _ hy).1
  · exact hn
/-- the row that takes the line k back to what P has -/
def back (P : Prg) (k : Int) : Str := if has P k = true then rowOf k (lineOf P k) else Str.ofString (toString k)
theorem has_line {P : Prg} {k : Int} (hg : Good P) (h : has P k = true) : (k, lineOf P k) ∈ P := (get_find hg.keys).mp (get_has h)
theorem put_good {P : Prg} {k : Int} {x : Str} (h : Good P) (hk : k ∈ nums) (hx : x ∈ txts) : Good (put P k x) := ⟨keys_put h.keys, fun p hp => by
  rcases mem_put hp with hp | rfl
  · exact h.lines p hp
  · exact ⟨hk, hx⟩⟩
theorem del_good {P : Prg} {k : Int} (h : Good P) : Good (del P k) := ⟨keys_del h.keys, fun p hp => h.lines p (List.mem_filter.mp hp).1⟩
theorem nums_lim {k : Int} (h : k ∈ nums) : 10 ≤ k ∧ k ≤ 40 := by
  simp only [nums, List.mem_cons, List.not_mem_nil, or_false] at h
  omega
theorem undo_row_spec (w : World) {mean : ExcName → Option Value} {mg mb : Str → Option Value} {dp un : Nat} {gd : Option (List Code)} {cn : Str} {cs : Scope} {a : Addr} {ccd : Value} {cl : List (Str × Addr)} {outer : List Env} {A₀ : Around} {base h₀ : Heap} {L : Addr} {m : Str → Option Value} {s : Shared} {Q E : Value → Shared → Prop} {news : List (Addr × Obj)} {d : Addr} {o : Obj} {P R : Prg} {k : Int} {t : Tok} (B : Below A₀ base outer h₀) (F : Fr h₀ L s.heap m) (X : (Mine.hd.heap_1 w.params).In h₀) (T : Top Mine.view (looseW Mine.view [Str.ofString "BasicError"]) mean mg mb h₀) (hk : cs.kind = .function) (N : News h₀ L s.heap ((d, o) :: news))
  (hdn : ∀ p ∈ news, p.1 ≠ d) (ho : DictIs w o R) (gP : Good P) (gR : Good R) (hkn : k ∈ nums) (hb : has P k = true ∨ has R k = true) (lo : (d == sysModules) = false) (hd : dp + 3 < recursionLimit) (hu : un + 24 < cLine)
  (hret : ∀ (h' : Heap) (o' : Obj) (tk' : Nat) (R' : Prg), Good R' → (∀ j, get R' j = if j = k then get P k else get R j) → Fr h₀ L h' m → News h₀ L h' ((d, o') :: news) → DictIs w o' R' → Q .none { s with heap := h', toks := tk' }) :
  wpAny (model PySem.Challenge.rw_xm0026_01.row.prog w) (ktrTop dp un gd cn cs L a ccd cl outer) (call (.ref 79) [.ref d, .str (back P k) t]) Q E s := by
  have hlen : R.length ≤ 1000 := Nat.le_trans gR.length (by decide)
  by_cases hP : has P k = true
  · have hm := has_line gP hP
    have fn := gP.fine _ hm
    have hx := (gP.lines _ hm).2
    unfold back
    rw [if_pos hP]
    refine enter_row_spec w B F X T hk N hdn ho hlen lo fn.enter fn.row.rlen (.inl fn.full) hd hu (fun h' o' tk' F' N' d' => ?_)
    rw [if_pos fn.full, fn.tight] at d'
    refine hret h' o' tk' _ (put_good gR hkn hx) (fun j => ?_) F' N' d'
    rw [get_put, get_has hP]
  · have hR : has R k = true := hb.resolve_left hP
    have hb0 : (Txt.stripChars (Str.ofString "") (Str.ofString " ") != Str.ofString "") = false := by decide +kernel
    unfold back
    rw [if_neg hP]
    refine enter_row_spec w B F X T hk N hdn ho hlen lo (row_alone k hkn) (Nat.zero_le _) (.inr hR) hd hu (fun h' o' tk' F' N' d' => ?_)
    rw [if_neg (by rw [hb0]; decide)] at d'
    refine hret h' o' tk' _ (del_good gR) (fun j => ?_) F' N' d'
    rw [get_del, get_none (Bool.eq_false_iff.mpr hP)]
end

section
open PySem PySem.W PyProof.Rows PySem.Calls
set_option Elab.async false
set_option maxRecDepth 100000
set_option maxHeartbeats 0
set_option linter.unusedVariables false
section
variable {prog : Program} {w : World} {A : Around} {E : Value → Shared → Prop} {s : Shared} {h₀ : Heap} {L d : Addr} {m : Str → Option Value} {news : List (Addr × Obj)} {o : Obj} {kvs : List (Int × Value)} {Q : Value → Shared → Prop}
theorem kcopy (F : Fr h₀ L s.heap m) (N : News h₀ L s.heap news) (hbig : h₀.NoLimit) (hp : (d, o) ∈ news) (hd : o.IsDictOf (PySem.intKind prog w) kvs) (lo : (d == sysModules) = false) (hsz : kvs.length ≤ sizeLine)
    (k : ∀ D h' o', Fr h₀ L h' m → News h₀ L h' ((D, o') :: news) → (∀ p ∈ news, p.1 < D) → (D == sysModules) = false → o'.IsDictOf (PySem.intKind prog w) kvs → Q (.ref D) { s with heap := h' }) :
    wpAny (model prog w) A (call (.type "dict") [.ref d]) Q E s := by
  have hbig' : sysModules < h₀.objs.size := modules_low hbig
  refine kt_call_dict lo (Heap.dictOf_iff.mpr ⟨o, (N _ hp).1, hd⟩) hsz fun h' hm hs => ?_
  obtain ⟨o', ho', hd'⟩ := Heap.dictOf_iff.mp hm
  have N1 := News.push F N { cls := .type "dict", data := .dict #[] }
  exact k _ h' o' ((F.push _).change hs (N1 _ (.head _)).2.1 (N1.fresh (.head _))) (N1.setHead N.apart hs ho') (fun p hp => Heap.lt_size (N p hp).1) (F.notModules hbig') hd'
end
end

section
open PySem PySem.W PyProof.Rows PySem.Calls
set_option Elab.async false
set_option maxRecDepth 100000
set_option maxHeartbeats 0
set_option linter.unusedVariables false
theorem keys_miss {prog : Program} {w : World} {A : Around} {E : Value → Shared → Prop} {s : Shared} {a : Addr} {xs : Array Value} {k : Nat} {sl : Array (Option Value)} {Q : Option Value → Shared → Prop}
    (hx : s.heap.get? a = some { cls := .type "list", dict := none, data := .seq xs k, slots := sl }) (hA : A.handled = none)
    (h : ∀ h' tk, (∀ b o, s.heap.get? b = some o → h'.get? b = some o) → Q none { s with heap := h', toks := tk }) : wpAny (model prog w) A (getAttr? (.ref a) "keys") Q E s := by
  obtain ⟨hp, g, d, tk, os⟩ := s
  have hmiss : typeLookup (.type "list") "keys" = pure none := by rw [typeLookup_type, builtinLookup_eq_fast]; kernel_rfl
  have hT : ∀ tk', (⟨hp, g, d, tk', os⟩ : Shared).TypeIs (.ref a) "list" := fun _ => ⟨_, hx, rfl⟩
  have f1 := sub_AttributeError
  have f3 := F.slot_list_getattribute.lookup
  have f4 := F.slot_list_getattribute.bind (.ref a)
  have f5 := am_list_getattr_none
  unfold getAttr? getAttrBy? getAttrBy
  repeat (any_goals (first | assumption | exact hT _ | ((with_reducible show wpAny _ _ (call (Value.builtin "list.__getattribute__") _ _) _ _ _); refine call_meets F.slot_list_getattribute (hT _) am_entry_list_getattribute (F.args_list_getattribute_2 _ _) (meets_getattribute_miss_list a xs k sl "keys" _ hmiss (by decide +kernel) (by size_fits)) ⟨hx, hA, fun h' tk' e hx' => ?_⟩) | wp_step))
  obtain ⟨t', u', he⟩ := hx'.there
  show wpAny _ _ (getattributeRaised _ _ _ _ _ _ _) _ _ _
  unfold getattributeRaised
  repeat (any_goals (first | assumption | wp_step))
  exact h _ _ hx'.keeps
end

section
open PySem PySem.W PyProof.Rows PySem.Calls
set_option Elab.async false
set_option maxRecDepth 100000
set_option maxHeartbeats 0
set_option linter.unusedVariables false
theorem en_loop : entryFor table "dict.update.loop" = some Builtin.«dict.update.loop» := entryFor_of_tree (by kernel_rfl)
section
variable {prog : Program} {w : World} {A : Around}
def PairAt (h : Heap) (v : Value) (p : Int × Value) : Prop := ∃ a o n tk, v = .ref a ∧ h.get? a = some o ∧ o.cls = .type "tuple" ∧ o.data = .seq #[.int p.1 tk, p.2] n
theorem upd_loop {R : Result → Shared → Prop} {I l D : Addr} {lo : Obj} {n0 : Nat} {vs : List Value} {ps : List (Int × Value)} (hh : A.handled = none) (hlc : lo.cls = .type "list") (hld : lo.data = .seq vs.toArray n0) (hIl : I ≠ l) (hID : I ≠ D) (hDl : D ≠ l) (hlen : vs.length = ps.length) :
    ∀ (r i : Nat) (acc : List (Int × Value)) (s : Shared), i + r = vs.length → (∃ io, s.heap.get? I = some io ∧ io.cls = .type "list_iterator" ∧ io.data = .fields #[.ref l, .int (i : Nat) 0]) → s.heap.get? l = some lo →
      (∀ (j : Nat) v p, vs[j]? = some v → ps[j]? = some p → PairAt s.heap v p) → s.heap.DictOf (PySem.intKind prog w) D acc → acc.length + r ≤ sizeLine →
      (∀ h' tk, h'.DictOf (PySem.intKind prog w) D ((ps.drop i).foldl (fun a p => stored a p.1 p.2) acc) → (∀ b o, b ≠ I → b ≠ D → s.heap.get? b = some o → h'.get? b = some o) → R (.ok (.ret .none)) { s with heap := h', toks := tk }) →
      codeAny (model prog w) A (.builtin "dict.update.loop" ⟨[.ref D, .ref I, rawInt (i : Nat), .none], []⟩) R s := by
  intro r
  induction r with
  | zero =>
    intro i acc s hi hI hl hp hD hsz hR
    refine codeAny_builtin en_loop ?_
    unfold Builtin.«dict.update.loop»
    dsimp only [rawInt]
    have hi' : i = vs.length := by omega
    subst hi'
    refine wpAny_bind (wpAny_pyNext_list_end (it := I) (l := l) (i := vs.length) (items := vs.toArray) hh hI ⟨lo, hl, hlc, n0, hld⟩ (by simp) fun h' hsb => ?_)
    show wpAny _ _ (Builtin.Dict.addKeywords D [] >>= _) _ _ _
    refine wpAny_bind (wpAny_pure (wpAny_pure ?_))
    refine hR h' s.toks ?_ fun b o hb _ e => hsb b o hb e
    rw [List.drop_eq_nil_of_le (by omega)]
    exact hD.extBut hsb hID.symm
  | succ r ih =>
    intro i acc s hi hI hl hp hD hsz hR
    have hlt : i < vs.length := by omega
    have hltp : i < ps.length := by omega
    obtain ⟨a, o, n, tk, ev, ho, hoc, hod⟩ := hp i vs[i] ps[i] (List.getElem?_eq_getElem hlt) (List.getElem?_eq_getElem hltp)
    refine codeAny_builtin en_loop ?_
    unfold Builtin.«dict.update.loop»
    dsimp only [rawInt]
    refine wpAny_bind (wpAny_pyNext_list_item (it := I) (l := l) (i := i) (items := vs.toArray) (x := vs[i]) hI ⟨lo, hl, hlc, n0, hld⟩ (by simp [hlt]) fun h' hit hsb => ?_)
    have haI : a ≠ I := by
      rintro rfl
      obtain ⟨io, e1, _, e2⟩ := hI
      rw [ho] at e1; cases e1; rw [hod] at e2; cases e2
    have haD : a ≠ D := by
      rintro rfl
      obtain ⟨od, es, ep, e1, _, e2, _⟩ := hD
      rw [ho] at e1; cases e1; rw [hod] at e2; cases e2
    have ho' := (hsb.2 a haI).trans ho
    rw [ev]
    dsimp only
    refine wpAny_bind (wpAny_holding ?_)
    refine wpAny_bind (wpAny_tryCatch ?_)
    unfold Builtin.Dict.pairItems
    refine wpAny_bind (wpAny_typeOf (T := "tuple") ⟨_, ho', hoc⟩ ?_)
    rw [if_pos (by decide)]
    refine wpAny_bind (wpAny_seqItems ho' hod (wpAny_pure ?_))
    have hD' : h'.DictOf (PySem.intKind prog w) D acc := hD.sameBut hsb hID.symm
    show wpAny _ _ (holding _ (dictSet D (.int ps[i].1 tk) ps[i].2)) _ _ _
    refine wpAny_holding (wpAny_dictSet_pairs (hsz := by omega) (intKind_is _ _ _ _) hD' fun h₂ hm₂ hs₂ => ?_)
    refine wpAny_pure ⟨Code.quiet_builtin _ (by decide +kernel), ?_⟩
    have key : ∀ b o, b ≠ I → b ≠ D → s.heap.get? b = some o → h₂.get? b = some o := fun b o hb hb' e => (hs₂.2 b hb').trans ((hsb.2 b hb).trans e)
    refine ih (i + 1) _ _ (by omega) ?_ (key l lo hIl.symm hDl.symm hl) (fun j v p hv hpj => ?_) hm₂ (by have e := stored_length_le acc ps[i].1 ps[i].2; omega) (fun h₃ tk₃ hm₃ k₃ => ?_)
    · obtain ⟨io, e1, e2, e3⟩ := hit
      exact ⟨io, (hs₂.2 I hID).trans e1, e2, e3⟩
    · obtain ⟨a', o', n', tk', e1, e2, e3, e4⟩ := hp j v p hv hpj
      refine ⟨a', o', n', tk', e1, key _ _ ?_ ?_ e2, e3, e4⟩
      · rintro rfl
        obtain ⟨io, f1, _, f2⟩ := hI
        rw [e2] at f1; cases f1; rw [e4] at f2; cases f2
      · rintro rfl
        obtain ⟨od, es, ep, f1, _, f2, _⟩ := hD
        rw [e2] at f1; cases f1; rw [e4] at f2; cases f2
    · refine hR h₃ tk₃ ?_ fun b o hb hb' e => k₃ b o hb hb' (key b o hb hb' e)
      rw [List.drop_eq_getElem_cons hltp]
      exact hm₃
theorem kt_call_pairs {E : Value → Shared → Prop} {s : Shared} {l : Addr} {n0 : Nat} {vs : List Value} {ps : List (Int × Value)} {Q : Value → Shared → Prop} (hh : A.handled = none) (hl : s.heap.get? l = some (listOf vs.toArray n0)) (hlen : vs.length = ps.length) (hsz : vs.length ≤ sizeLine)
    (hp : ∀ (j : Nat) v p, vs[j]? = some v → ps[j]? = some p → PairAt s.heap v p)
    (h : ∀ h' tk, h'.DictOf (PySem.intKind prog w) s.heap.objs.size (ps.foldl (fun a p => stored a p.1 p.2) []) → (∀ b o, s.heap.get? b = some o → h'.get? b = some o) → Q (.ref s.heap.objs.size) { s with heap := h', toks := tk }) :
    wpAny (model prog w) A (call (.type "dict") [.ref l]) Q E s := by
  refine callType_codes (Q₁ := fun obj s₁ => obj = .ref s.heap.objs.size ∧ s₁ = { s with heap := s.heap.push { cls := .type "dict", data := .dict #[] } }) PySem.F.kt_called_dict (PySem.F.kt_typeCall_dict_1 _) PySem.F.entry_dict_init (kt_code_dict_new _ ⟨rfl, rfl⟩) ?_
  rintro obj s₁ ⟨rfl, rfl⟩
  have hnew : (s.heap.push { cls := .type "dict", data := .dict #[] }).DictOf (PySem.intKind prog w) s.heap.objs.size [] := Heap.DictOf.new s.heap
  have hl' : (s.heap.push { cls := .type "dict", data := .dict #[] }).get? l = some (listOf vs.toArray n0) := Heap.get?_push_of_some _ hl
  refine ⟨hnew.typeIs, PySem.F.args_dict_init_2 _ _, ?_⟩
  unfold Builtin.«dict.__init__»
  refine wpAny_bind ?_
  unfold Builtin.Dict.selfAndRest
  refine wpAny_bind (wpAny_notOrdered_dict hnew.typeIs ?_)
  show wpAny _ _ (pure (s.heap.objs.size, [Value.ref l])) _ _ _
  refine wpAny_pure ?_
  show wpAny _ _ (Builtin.Dict.updateFrom "dict.__init__" s.heap.objs.size (.ref l) [] .none) _ _ _
  unfold Builtin.Dict.updateFrom
  refine wpAny_bind (wpAny_typeOf (T := "list") ⟨_, hl', rfl⟩ ?_)
  rw [if_pos (by decide)]
  refine wpAny_bind (keys_miss hl' (by exact hh) fun h₁ tk₁ k₁ => ?_)
  rw [if_pos (show (none : Option Value).isNone = true from rfl)]
  refine wpAny_bind (wpAny_rule ?_)
  have hl₁ := k₁ _ _ hl'
  refine wpAny_bind (wpAny_pyIter_list (items := vs.toArray) ⟨_, hl₁, rfl, n0, rfl⟩ ?_)
  refine wpAny_pure ⟨Code.quiet_builtin _ (by decide +kernel), ?_⟩
  have key : ∀ b o, s.heap.get? b = some o → h₁.get? b = some o := fun b o e => k₁ b o (Heap.get?_push_of_some _ e)
  have hD₁ : h₁.DictOf (PySem.intKind prog w) s.heap.objs.size [] := hnew.extBut (b := h₁.objs.size) (fun b o _ e => k₁ b o e) (Nat.ne_of_lt (by
    obtain ⟨od, _, _, ho, _⟩ := hnew
    exact Heap.lt_size (k₁ _ _ ho)))
  have hlI : l < h₁.objs.size := Heap.lt_size hl₁
  have hlD : l < s.heap.objs.size := Heap.lt_size hl
  have hDI : s.heap.objs.size < h₁.objs.size := by
    obtain ⟨od, _, _, ho, _⟩ := hD₁
    exact Heap.lt_size ho
  refine upd_loop (lo := listOf vs.toArray n0) (by exact hh) rfl rfl (Nat.ne_of_gt hlI) (Nat.ne_of_gt hDI) (Nat.ne_of_gt hlD) hlen vs.length 0 [] _ (by omega) ⟨_, Heap.get?_push_size _ rfl, rfl, rfl⟩ (Heap.get?_push_of_some _ hl₁) (fun j v p hv hpj => ?_) (hD₁.push _) (by simpa using hsz) (fun h₂ tk₂ hm₂ k₂ => ?_)
  · obtain ⟨a, o, n, tk, e1, e2, e3, e4⟩ := hp j v p hv hpj
    exact ⟨a, o, n, tk, e1, Heap.get?_push_of_some _ (key _ _ e2), e3, e4⟩
  · refine ⟨rfl, h h₂ tk₂ hm₂ fun b o e => ?_⟩
    exact k₂ b o (Nat.ne_of_lt (Heap.lt_size (key _ _ e))) (Nat.ne_of_lt (Heap.lt_size e)) (Heap.get?_push_of_some _ (key _ _ e))
end
end

section
open PySem PySem.W PyProof.Rows PySem.Calls
set_option Elab.async false
set_option maxRecDepth 100000
set_option maxHeartbeats 0
set_option linter.unusedVariables false
section
variable {prog : Program} {w : World} {A : Around} {env : Env} {E : Value → Shared → Prop} {s : Shared} {h₀ : Heap} {L : Addr}
theorem owned_noneT {target : Expr} {I : Addr} {v : Value} {io : Obj} {l : Addr} {i : Int} {M : Model} {Q : Unit → Shared → Prop} (ho : s.heap.get? I = some io) (hc : io.cls = .type "tuple_iterator") (hd : io.data = .fields #[.ref l, .int i 0]) (h : Q () s) :
    wpAny M A (letOwnedTupleGo target (.ref I) v) Q E s := by
  unfold letOwnedTupleGo
  split
  · cases v with
    | ref a =>
      refine wpAny_bind (wpAny_load ho ?_)
      rw [hc, hd]
      have e : ["enumerate", "zip", "dict_itemiterator", "dict_reverseitemiterator", "odict_iterator", "itertools.zip_longest", "itertools.pairwise"].contains "tuple_iterator" = false := by decide +kernel
      dsimp only
      rw [e]
      exact wpAny_pure h
    | _ => exact wpAny_pure h
  · cases v with
    | ref a =>
      refine wpAny_bind (wpAny_load ho ?_)
      rw [hc, hd]
      have e : ["enumerate", "zip", "dict_itemiterator", "dict_reverseitemiterator", "odict_iterator", "itertools.zip_longest", "itertools.pairwise"].contains "tuple_iterator" = false := by decide +kernel
      dsimp only
      rw [e]
      exact wpAny_pure h
    | _ => exact wpAny_pure h
  · exact wpAny_pure h
theorem for_tup {target iter : Expr} {body : List Stmt} {pos : Pos} {Q : Flow → Shared → Prop} {l : Addr} {vs : List Value} {lo : Obj} {n : Nat} (hlc : lo.cls = .type "tuple") (hld : lo.data = .seq vs.toArray n)
    (J : Nat → (Str → Option Value) → Led → Prop)
    (hev : wpAny (model prog w) A (eval iter env) (fun v s₁ => v = .ref l ∧ ∃ h tk m led, s₁ = { s with heap := h, toks := tk } ∧ Fr h₀ L h m ∧ News h₀ L h led ∧ J 0 m led) (fun _ _ => False) s)
    (hmem : ∀ i m led, J i m led → (l, lo) ∈ led)
    (turn : ∀ i v m₁ led₁ I io h tk, vs[i]? = some v → J i m₁ led₁ → (∀ p ∈ led₁, p.1 ≠ I) → Fr h₀ L h m₁ → News h₀ L h ((I, io) :: led₁) → ∀ PP : Flow → Shared → Prop, (∀ f s₃, ForPost h₀ L s (J (i + 1)) I io Q f s₃ → PP f s₃) →
      wpAny (model prog w) A (assign target env v) (fun _ s₂ => wpAny (model prog w) A (execs body env) PP (fun _ _ => False) s₂) (fun _ _ => False) { s with heap := h, toks := tk })
    (done : ∀ h tk m led, J vs.length m led → Fr h₀ L h m → News h₀ L h led → Q .next { s with heap := h, toks := tk })
    (hh : A.handled = none := by rfl) (hs : ∀ x, foldedSetIterable iter env x = pure x := by intro _; rfl) :
    wpAny (model prog w) A (exec (.For target iter body [] pos) env) Q E s := by
  refine wpAny_For (wpAny_mono hev (fun v s₁ q => ?_) fun _ _ h => h.elim) hs
  obtain ⟨rfl, h1, tk1, m1, led1, rfl, F1, N1, j1⟩ := q
  have hl1 := (N1 _ (hmem _ _ _ j1)).1
  refine wpAny_pyIter_tuple ⟨lo, hl1, hlc, n, hld⟩ ?_
  refine codeAny_forLoop_any (fun k s' => ∃ i h tk m led io, s' = { s with heap := h, toks := tk } ∧ k = vs.length + 1 - i ∧ i ≤ vs.length ∧ Fr h₀ L h m ∧ News h₀ L h ((h1.objs.size, io) :: led) ∧ (∀ p ∈ led, p.1 ≠ h1.objs.size) ∧ J i m led ∧ io.cls = .type "tuple_iterator" ∧ io.data = .fields #[.ref l, .int (i : Nat) 0]) ?_ (vs.length + 1) ⟨0, _, tk1, m1, led1, _, rfl, rfl, Nat.zero_le _, F1.push _, N1.push F1 _, fun p hp => Nat.ne_of_lt (Heap.lt_size (N1 p hp).1), j1, rfl, rfl⟩
  rintro k s' ⟨i, h, tk, m, led, io, rfl, rfl, hi, F, N, ne, j, ic, id⟩
  have hI := N _ (.head _)
  have hl := (N _ (.tail _ (hmem _ _ _ j))).1
  by_cases hlt : i < vs.length
  · refine wpAny_pyNext_tuple_item (it := h1.objs.size) (t := l) (i := i) (items := vs.toArray) (x := vs[i]) ⟨io, hI.1, ic, id⟩ ⟨lo, hl, hlc, n, hld⟩ (by simp [hlt]) fun h' hit hsb => ?_
    obtain ⟨io', ho', ic', id'⟩ := hit
    have F' : Fr h₀ L h' m := F.change hsb hI.2.1 hI.2.2
    have N' : News h₀ L h' ((h1.objs.size, io') :: led) := News.setIn (own := []) N (fun _ h => nomatch h) ne hsb ho'
    refine owned_noneT ho' ic' id' ?_
    refine wpAny_mono (turn i vs[i] m led h1.objs.size io' h' tk (by simp [hlt]) j ne F' N' _ (fun _ _ q => q)) (fun _ s₂ q => ?_) fun _ _ h => h.elim
    refine wpAny_mono q (fun f s₃ r => ?_) fun _ _ h => h.elim
    cases f with
    | next =>
      obtain ⟨h'', tk', m', led', e, F2, N2, ne2, j2⟩ := r
      exact ⟨_, by omega, i + 1, h'', tk', m', led', io', e, rfl, hlt, F2, N2, ne2, j2, ic', id'⟩
    | cont =>
      obtain ⟨h'', tk', m', led', e, F2, N2, ne2, j2⟩ := r
      exact ⟨_, by omega, i + 1, h'', tk', m', led', io', e, rfl, hlt, F2, N2, ne2, j2, ic', id'⟩
    | brk => exact r
    | ret v => exact r
  · obtain rfl : i = vs.length := by omega
    refine wpAny_pyNext_tuple_end (it := h1.objs.size) (t := l) (i := vs.length) (items := vs.toArray) hh ⟨io, hI.1, ic, id⟩ ⟨lo, hl, hlc, n, hld⟩ (by simp) fun h' hsb => ?_
    have keep : ∀ b o, b ≠ h1.objs.size → h.get? b = some o → h'.get? b = some o := fun b o hb e => hsb b o hb e
    have F' : Fr h₀ L h' m := by
      obtain ⟨oL, es, ep, hL, r⟩ := F.ns
      exact ⟨⟨oL, es, ep, keep _ _ (Ne.symm hI.2.1) hL, r⟩, fun b o e => keep _ _ (by rintro rfl; rw [hI.2.2] at e; cases e) (F.keep b o e), F.above⟩
    have N' : News h₀ L h' led := fun p hp => ⟨keep _ _ (ne p hp) (N p (.tail _ hp)).1, (N p (.tail _ hp)).2⟩
    exact wpAny_execs_nil (done h' tk m led j F' N')
abbrev rIter (i n : Nat) : Obj := { cls := .type "range_iterator", data := .fields #[rawInt (i : Nat), rawInt ((n : Int) - (i : Nat)), rawInt 1] }
theorem owned_noneR {target : Expr} {I : Addr} {v : Value} {i n : Nat} {M : Model} {Q : Unit → Shared → Prop} (ho : s.heap.get? I = some (rIter i n)) (h : Q () s) :
    wpAny M A (letOwnedTupleGo target (.ref I) v) Q E s := by
  have e : ["enumerate", "zip", "dict_itemiterator", "dict_reverseitemiterator", "odict_iterator", "itertools.zip_longest", "itertools.pairwise"].contains "range_iterator" = false := by decide +kernel
  unfold letOwnedTupleGo
  split
  · cases v with
    | ref a =>
      refine wpAny_bind (wpAny_load ho ?_)
      dsimp only
      rw [e]
      exact wpAny_pure h
    | _ => exact wpAny_pure h
  · cases v with
    | ref a =>
      refine wpAny_bind (wpAny_load ho ?_)
      dsimp only
      rw [e]
      exact wpAny_pure h
    | _ => exact wpAny_pure h
  · exact wpAny_pure h
theorem for_rng {target iter : Expr} {body : List Stmt} {pos : Pos} {Q : Flow → Shared → Prop} {n : Nat} (hsm : Builtin.Range.small 0 n 1 = true) (hrs : Builtin.Range.rangeSize 0 n 1 = n)
    (J : Nat → (Str → Option Value) → Led → Prop)
    (hev : wpAny (model prog w) A (eval iter env) (fun v s₁ => ∃ l h tk m led t u v0, v = .ref l ∧ s₁ = { s with heap := h, toks := tk } ∧ IsRange h l 0 n 1 t u v0 ∧ Fr h₀ L h m ∧ News h₀ L h led ∧ J 0 m led) (fun _ _ => False) s)
    (turn : ∀ (i : Nat) v tk' m₁ led₁ I io h tk, i < n → v = .int (i : Nat) tk' → J i m₁ led₁ → (∀ p ∈ led₁, p.1 ≠ I) → Fr h₀ L h m₁ → News h₀ L h ((I, io) :: led₁) → ∀ PP : Flow → Shared → Prop, (∀ f s₃, ForPost h₀ L s (J (i + 1)) I io Q f s₃ → PP f s₃) →
      wpAny (model prog w) A (assign target env v) (fun _ s₂ => wpAny (model prog w) A (execs body env) PP (fun _ _ => False) s₂) (fun _ _ => False) { s with heap := h, toks := tk })
    (done : ∀ h tk m led, J n m led → Fr h₀ L h m → News h₀ L h led → Q .next { s with heap := h, toks := tk })
    (hh : A.handled = none := by rfl) (hs : ∀ x, foldedSetIterable iter env x = pure x := by intro _; rfl) :
    wpAny (model prog w) A (exec (.For target iter body [] pos) env) Q E s := by
  refine wpAny_For (wpAny_mono hev (fun v s₁ q => ?_) fun _ _ h => h.elim) hs
  obtain ⟨l, h1, tk1, m1, led1, t, u, v0, rfl, rfl, hr, F1, N1, j1⟩ := q
  refine wpAny_pyIter_range hr hsm ?_
  rw [hrs]
  refine codeAny_forLoop_any (fun k s' => ∃ i h tk m led, s' = { s with heap := h, toks := tk } ∧ k = n + 1 - i ∧ i ≤ n ∧ Fr h₀ L h m ∧ News h₀ L h ((h1.objs.size, rIter i n) :: led) ∧ (∀ p ∈ led, p.1 ≠ h1.objs.size) ∧ J i m led) ?_ (n + 1) ⟨0, _, tk1, m1, led1, rfl, rfl, Nat.zero_le _, F1.push _, by have q := N1.push F1 (rIter 0 n); simpa [rIter] using q, fun p hp => Nat.ne_of_lt (Heap.lt_size (N1 p hp).1), j1⟩
  rintro k s' ⟨i, h, tk, m, led, rfl, rfl, hi, F, N, ne, j⟩
  have hI := N _ (.head _)
  by_cases hlt : i < n
  · refine wpAny_pyNext_range_item (it := h1.objs.size) (x := (i : Nat)) (left := (n : Int) - (i : Nat)) (step := 1) hI.1 (by omega) fun h' hit hsb => ?_
    have F' : Fr h₀ L h' m := F.change hsb hI.2.1 hI.2.2
    have hit' : h'.get? h1.objs.size = some (rIter (i + 1) n) := by
      have e1 : ((i : Nat) : Int) + 1 = ((i + 1 : Nat) : Int) := by omega
      have e2 : (n : Int) - (i : Nat) - 1 = (n : Int) - ((i + 1 : Nat) : Int) := by omega
      rw [e1, e2] at hit; exact hit
    have N' : News h₀ L h' ((h1.objs.size, rIter (i + 1) n) :: led) := News.setIn (own := []) N (fun _ h => nomatch h) ne hsb hit'
    refine owned_noneR hit' ?_
    refine wpAny_mono (turn i _ _ m led h1.objs.size (rIter (i + 1) n) h' _ hlt rfl j ne F' N' _ (fun _ _ q => q)) (fun _ s₂ q => ?_) fun _ _ h => h.elim
    refine wpAny_mono q (fun f s₃ r => ?_) fun _ _ h => h.elim
    cases f with
    | next =>
      obtain ⟨h'', tk', m', led', e, F2, N2, ne2, j2⟩ := r
      exact ⟨_, by omega, i + 1, h'', tk', m', led', e, rfl, hlt, F2, N2, ne2, j2⟩
    | cont =>
      obtain ⟨h'', tk', m', led', e, F2, N2, ne2, j2⟩ := r
      exact ⟨_, by omega, i + 1, h'', tk', m', led', e, rfl, hlt, F2, N2, ne2, j2⟩
    | brk => exact r
    | ret v => exact r
  · obtain rfl : i = n := by omega
    refine wpAny_pyNext_range_end (it := h1.objs.size) (x := (i : Nat)) (left := (i : Int) - (i : Nat)) (step := 1) hh hI.1 (by omega) fun h' hsb => ?_
    have keep : ∀ b o, b ≠ h1.objs.size → h.get? b = some o → h'.get? b = some o := fun b o hb e => hsb b o hb e
    have F' : Fr h₀ L h' m := by
      obtain ⟨oL, es, ep, hL, r⟩ := F.ns
      exact ⟨⟨oL, es, ep, keep _ _ (Ne.symm hI.2.1) hL, r⟩, fun b o e => keep _ _ (by rintro rfl; rw [hI.2.2] at e; cases e) (F.keep b o e), F.above⟩
    have N' : News h₀ L h' led := fun p hp => ⟨keep _ _ (ne p hp) (N p (.tail _ hp)).1, (N p (.tail _ hp)).2⟩
    exact wpAny_execs_nil (done h' tk m led j F' N')
example : Builtin.Range.small 0 (6 : Nat) 1 = true := by decide +kernel
example : Builtin.Range.rangeSize 0 (6 : Nat) 1 = (6 : Nat) := by decide +kernel
end
end

section
open PySem PySem.W PyProof.Rows PySem.Calls
set_option Elab.async false
set_option maxRecDepth 100000
set_option maxHeartbeats 0
set_option linter.unusedVariables false
theorem rowOk_10 : RowOk (Str.ofString "10 X = 1") 10 (Str.ofString "X = 1") :=
  ⟨by decide +kernel, ⟨by decide +kernel, by decide +kernel, by decide +kernel, by decide +kernel, by decide +kernel, by decide +kernel, by decide +kernel, by decide +kernel, by decide +kernel⟩, by decide +kernel, by decide +kernel, by decide +kernel⟩
theorem rowOk_30 : RowOk (Str.ofString "30 END") 30 (Str.ofString "END") :=
  ⟨by decide +kernel, ⟨by decide +kernel, by decide +kernel, by decide +kernel, by decide +kernel, by decide +kernel, by decide +kernel, by decide +kernel, by decide +kernel, by decide +kernel⟩, by decide +kernel, by decide +kernel, by decide +kernel⟩
theorem rows_init : RowsOk [Str.ofString "10 X = 1", Str.ofString "30 END"] [(10, Str.ofString "X = 1"), (30, Str.ofString "END")] := .cons rowOk_10 (.cons rowOk_30 .nil)
def DictIs' (prog : Program) (w : World) (o : Obj) (P : Prg) : Prop := ∃ kvs, o.IsDictOf (PySem.intKind prog w) kvs ∧ Rep kvs P
/-- the program at the start -/
def P0 : Prg := [(10, Str.ofString "X = 1"), (30, Str.ofString "END")]
theorem P0_enter : [((10 : Int), Str.ofString "X = 1"), (30, Str.ofString "END")].foldl enter [] = P0 := by
  rw [enter_app (by decide +kernel) (by intro q hq; simp only [List.mem_cons, List.not_mem_nil, or_false] at hq; rcases hq with rfl | rfl <;> decide +kernel)]
  rfl
theorem P0_good : Good P0 := ⟨by decide +kernel, by decide +kernel⟩
section
variable {prog : Program} {w : World} {A : Around} {E : Value → Shared → Prop} {s : Shared} {h₀ : Heap} {L l : Addr} {m : Str → Option Value} {news : List (Addr × Obj)} {vs : List Value} {n0 : Nat} {ps : List (Int × Value)} {Q : Value → Shared → Prop}
theorem kpairs (hh : A.handled = none) (F : Fr h₀ L s.heap m) (N : News h₀ L s.heap news) (hbig : h₀.NoLimit) (hm : (l, listOf vs.toArray n0) ∈ news) (hlen : vs.length = ps.length) (hsz : vs.length ≤ sizeLine)
    (hp : ∀ (j : Nat) v p, vs[j]? = some v → ps[j]? = some p → PairAt s.heap v p)
    (k : ∀ D h' tk o', Fr h₀ L h' m → News h₀ L h' ((D, o') :: news) → (∀ p ∈ news, p.1 < D) → (D == sysModules) = false → o'.IsDictOf (PySem.intKind prog w) (ps.foldl (fun a p => stored a p.1 p.2) []) → Q (.ref D) { s with heap := h', toks := tk }) :
    wpAny (model prog w) A (call (.type "dict") [.ref l]) Q E s := by
  have hbig' : sysModules < h₀.objs.size := modules_low hbig
  refine kt_call_pairs hh (N _ hm).1 hlen hsz hp fun h' tk hd kp => ?_
  obtain ⟨o', ho', hd'⟩ := Heap.dictOf_iff.mp hd
  obtain ⟨oL, es, ep, hL, r⟩ := F.ns
  have hLs : L < s.heap.objs.size := Heap.lt_size hL
  have fresh : h₀.get? s.heap.objs.size = none := by
    cases e : h₀.get? s.heap.objs.size with
    | none => rfl
    | some o => exact absurd (Heap.lt_size (F.keep _ _ e)) (Nat.lt_irrefl _)
  refine k _ h' tk o' ⟨⟨oL, es, ep, kp _ _ hL, r⟩, fun b o e => kp b o (F.keep b o e), F.above⟩ (fun p hp => ?_) (fun p hp => Heap.lt_size (N p hp).1) (F.notModules hbig') hd'
  rcases List.mem_cons.mp hp with rfl | hp
  · exact ⟨ho', Nat.ne_of_gt hLs, fresh⟩
  · exact ⟨kp _ _ (N p hp).1, (N p hp).2⟩
/-- two literal pairs -/
theorem kpairs2 {l t1 t2 : Addr} {a b : Int} {x y : Str} {ta tb tx ty : Tok} {n1 n2 : Nat} (hh : A.handled = none) (F : Fr h₀ L s.heap m) (N : News h₀ L s.heap news) (hbig : h₀.NoLimit) (hm : (l, listOf #[.ref t1, .ref t2] n0) ∈ news)
    (h1 : (t1, { cls := .type "tuple", data := .seq #[.int a ta, .str x tx] n1 }) ∈ news) (h2 : (t2, { cls := .type "tuple", data := .seq #[.int b tb, .str y ty] n2 }) ∈ news) (hab : a ≠ b)
    (k : ∀ D h' tk o', Fr h₀ L h' m → News h₀ L h' ((D, o') :: news) → (∀ p ∈ news, p.1 < D) → (D == sysModules) = false → DictIs' prog w o' [(a, x), (b, y)] → Q (.ref D) { s with heap := h', toks := tk }) :
    wpAny (model prog w) A (call (.type "dict") [.ref l]) Q E s := by
  refine kpairs (vs := [.ref t1, .ref t2]) (ps := [(a, .str x tx), (b, .str y ty)]) hh F N hbig hm rfl (by rw [sizeLine_eq]; simp) (fun j v p hv hp => ?_) (fun D h' tk o' F' N' l lo hd => k D h' tk o' F' N' l lo ⟨_, hd, ?_⟩)
  · match j with
    | 0 => cases hv; cases hp; exact ⟨t1, _, _, _, rfl, (N _ h1).1, rfl, rfl⟩
    | 1 => cases hv; cases hp; exact ⟨t2, _, _, _, rfl, (N _ h2).1, rfl, rfl⟩
    | j + 2 => simp at hv
  · have e : ([(a, Value.str x tx), (b, Value.str y ty)] : List (Int × Value)).foldl (fun q p => stored q p.1 p.2) [] = [(a, .str x tx), (b, .str y ty)] := by
      simp [stored, hab]
    rw [e]
    exact .cons (.mk _ _ _) (.cons (.mk _ _ _) .nil)
end
end

section
open PySem PySem.W PyProof.Rows PySem.Calls
set_option Elab.async false
set_option maxRecDepth 100000
set_option maxHeartbeats 0
set_option linter.unusedVariables false
theorem sub_nil {cur : Led} : ∀ p ∈ ([] : Led), p ∈ cur := fun _ h => nomatch h
theorem sub_cons {x : Addr × Obj} {l cur : Led} (h1 : x ∈ cur) (h2 : ∀ p ∈ l, p ∈ cur) : ∀ p ∈ x :: l, p ∈ cur := fun p hp => by
  rcases List.mem_cons.mp hp with rfl | hp
  · exact h1
  · exact h2 p hp
theorem sub_app {l r cur : Led} (h1 : ∀ p ∈ l, p ∈ cur) (h2 : ∀ p ∈ r, p ∈ cur) : ∀ p ∈ l ++ r, p ∈ cur := fun p hp => (List.mem_append.mp hp).elim (h1 p) (h2 p)
theorem ne_nil {d : Addr} : ∀ p ∈ ([] : Led), p.1 ≠ d := fun _ h => nomatch h
theorem ne_cons {d a : Addr} {o : Obj} {l : Led} (h1 : a ≠ d) (h2 : ∀ p ∈ l, p.1 ≠ d) : ∀ p ∈ (a, o) :: l, p.1 ≠ d := fun p hp => by
  rcases List.mem_cons.mp hp with rfl | hp
  · exact h1
  · exact h2 p hp
theorem gt_ne {d D : Addr} {l : Led} (hd : @LT.lt Nat _ d D) (h : ∀ p ∈ l, D < p.1) : ∀ p ∈ l, p.1 ≠ d := fun p hp => Nat.ne_of_gt (Nat.lt_trans hd (h p hp))
theorem lt_ne {d : Addr} {l : Led} (h : ∀ p ∈ l, p.1 < d) : ∀ p ∈ l, p.1 ≠ d := fun p hp => Nat.ne_of_lt (h p hp)
theorem sub_lt {d : Addr} {l cur : Led} (hs : ∀ p ∈ l, p ∈ cur) (h : ∀ p ∈ cur, p.1 < d) : ∀ p ∈ l, p.1 < d := fun p hp => h p (hs p hp)
theorem sub_ne {d : Addr} {l cur : Led} (hs : ∀ p ∈ l, p ∈ cur) (h : ∀ p ∈ cur, p.1 ≠ d) : ∀ p ∈ l, p.1 ≠ d := fun p hp => h p (hs p hp)
theorem app_ne {d : Addr} {l r : Led} (h1 : ∀ p ∈ l, p.1 ≠ d) (h2 : ∀ p ∈ r, p.1 ≠ d) : ∀ p ∈ l ++ r, p.1 ≠ d := fun p hp => (List.mem_append.mp hp).elim (h1 p) (h2 p)
abbrev tupOf (its : Array Value) (n : Nat) : Obj := { cls := .type "tuple", data := .seq its n }
section
variable {prog : Program} {w : World} {A : Around} {E : Value → Shared → Prop} {s : Shared} {h₀ : Heap} {L l : Addr} {m : Str → Option Value} {news : List (Addr × Obj)} {vs : List Value} {n : Nat}
theorem kget {value slice : Expr} {i : Int} {u : Tok} {v : Value} {Q : Value → Shared → Prop} (N : News h₀ L s.heap news) (hm : (l, listOf vs.toArray n) ∈ news) (h0 : 0 ≤ i) (h1 : i ≤ 1000) (hx : vs[i.toNat]? = some v) (h : Q v s)
    (hs : subscripted slice false (.ref l) (.int i u) = operate [.ref l, .int i u] (getItem (.ref l) (.int i u)) := by with_unfolding_all rfl) :
    wpAny (model prog w) A (subscriptTail value slice (.ref l) (.int i u)) Q E s :=
  tail_any (Heap.IsList.typeIs (s := s) ⟨_, (N _ hm).1, rfl, n, rfl⟩) PySem.F.slot_list_getitem.lookup (wpAny_getItem_list (items := vs.toArray) ⟨_, (N _ hm).1, rfl, n, rfl⟩ h0 (by omega) (by simpa using hx) h) hs
theorem kgetn {value slice : Expr} {i : Int} {u : Tok} {v : Value} {Q : Value → Shared → Prop} (N : News h₀ L s.heap news) (hm : (l, listOf vs.toArray n) ∈ news) (h0 : i = -1) (hx : vs.getLast? = some v) (h : Q v s)
    (hs : subscripted slice false (.ref l) (.int i u) = operate [.ref l, .int i u] (getItem (.ref l) (.int i u)) := by with_unfolding_all rfl) :
    wpAny (model prog w) A (subscriptTail value slice (.ref l) (.int i u)) Q E s := by
  subst h0
  have hne : vs ≠ [] := by rintro rfl; cases hx
  have hlen : 0 < vs.length := List.length_pos_iff.mpr hne
  refine kde_neg (vs := vs) (j := vs.length - 1) ⟨_, (N _ hm).1, rfl, n, rfl⟩ (by decide) (by decide) ?_ ?_ h hs
  · unfold PySem.seqIndex?
    have e1 : (if (-1 : Int) < 0 then (-1 : Int) + vs.length else -1) = ((vs.length - 1 : Nat) : Int) := by rw [if_pos (by decide)]; omega
    rw [e1]
    simp
    omega
  · rw [← List.getLast?_eq_getElem?]; exact hx
theorem kapp {v : Value} {Q : Value → Shared → Prop} (F : Fr h₀ L s.heap m) (N : News h₀ L s.heap ((l, listOf vs.toArray n) :: news)) (hn : ∀ p ∈ news, p.1 ≠ l) (hsz : vs.length ≤ 1000)
    (k : ∀ h', Fr h₀ L h' m → News h₀ L h' ((l, listOf (vs ++ [v]).toArray (n + 1)) :: news) → Q .none { s with heap := h' }) :
    wpAny (model prog w) A (call (.builtin "list.append") [.ref l, v]) Q E s := by
  have z := N _ (.head _)
  refine append_at (hsz := by rw [sizeLine_eq]; simp; omega) z.1 fun h' hs ho' => k h' (F.change hs z.2.1 z.2.2) (N.setHead hn hs ?_)
  rw [ho']; simp
end
/-- the dicts and the lists of rows that a run of turns leaves -/
inductive Pairs (R : Led) (P : Prg) : List Value → List Int → Prop
  | nil : Pairs R P [] []
  | cons {t : Addr} {k : Int} {tk ts : Tok} {n : Nat} {vs : List Value} {l : List Int} : (t, tupOf #[.int k tk, .str (back P k) ts] n) ∈ R → Pairs R P vs l → Pairs R P (.ref t :: vs) (k :: l)
theorem Pairs.mono {R R' : Led} {P : Prg} {vs l} (h : Pairs R P vs l) (hs : ∀ p ∈ R, p ∈ R') : Pairs R' P vs l := by
  induction h with
  | nil => exact .nil
  | cons hm _ ih => exact .cons (hs _ hm) ih
theorem Pairs.at {R : Led} {P : Prg} {vs l} (h : Pairs R P vs l) : ∀ {i : Nat} {v : Value}, vs[i]? = some v → ∃ t k tk ts n, v = .ref t ∧ l[i]? = some k ∧ (t, tupOf #[.int k tk, .str (back P k) ts] n) ∈ R := by
  induction h with
  | nil => intro i v h; simp at h
  | cons hm _ ih =>
    intro i v h
    cases i with
    | zero => simp at h; subst h; exact ⟨_, _, _, _, _, rfl, rfl, hm⟩
    | succ i => simp at h; obtain ⟨t, k, tk, ts, n, e1, e2, e3⟩ := ih h; exact ⟨t, k, tk, ts, n, e1, by simpa using e2, e3⟩
theorem Pairs.length {R : Led} {P : Prg} {vs l} (h : Pairs R P vs l) : vs.length = l.length := by
  induction h with
  | nil => rfl
  | cons _ _ ih => simp [ih]
inductive Hist (w : World) (R : Led) : List Value → List Value → Nat → Prg → Prop
  | nil {a o P} : (a, o) ∈ R → DictIs w o P → (a == sysModules) = false → Good P → (∀ k, get P k = get P0 k) → Hist w R [.ref a] [] 0 P
  | snoc {W K i P P' a o b ys n l} : Hist w R W K i P → Good P' → Step P P' l → (∀ k ∈ l, k ∈ nums) → (b, listOf (List.toArray ys) n) ∈ R → Pairs R P ys l → ys.length ≤ 60 → (a, o) ∈ R → DictIs w o P' → (a == sysModules) = false →
      Hist w R (W ++ [.ref a]) (K ++ [.ref b]) (i + 1) P'
theorem Hist.mono {w : World} {R R' : Led} {W K i P} (h : Hist w R W K i P) (hs : ∀ p ∈ R, p ∈ R') : Hist w R' W K i P := by
  induction h with
  | nil hm d l g e => exact .nil (hs _ hm) d l g e
  | snoc _ g st hn hb hp hy ha d l ih => exact .snoc ih g st hn (hs _ hb) (hp.mono hs) hy (hs _ ha) d l
theorem Hist.good {w : World} {R : Led} {W K i P} (h : Hist w R W K i P) : Good P := by
  cases h with
  | nil _ _ _ g _ => exact g
  | snoc _ g => exact g
theorem Hist.lenW {w : World} {R : Led} {W K i P} (h : Hist w R W K i P) : W.length = i + 1 := by
  induction h with
  | nil => rfl
  | snoc _ _ _ _ _ _ _ _ _ _ ih => simp [ih]
theorem Hist.lenK {w : World} {R : Led} {W K i P} (h : Hist w R W K i P) : K.length = i := by
  induction h with
  | nil => rfl
  | snoc _ _ _ _ _ _ _ _ _ _ ih => simp [ih]
theorem Hist.last {w : World} {R : Led} {W K i P} (h : Hist w R W K i P) : ∃ a o, W.getLast? = some (.ref a) ∧ (a, o) ∈ R ∧ DictIs w o P ∧ (a == sysModules) = false := by
  cases h with
  | nil hm d l g e => exact ⟨_, _, rfl, hm, d, l⟩
  | snoc _ g st hn hb hp hy ha d l => exact ⟨_, _, by simp, ha, d, l⟩
/-- all that is known of a run of turns -/
structure Run (w : World) (R : Led) (W K : List Value) (i : Nat) (Pc : Prg) (P : Nat → Prg) (l : Nat → List Int) : Prop where
  now : P i = Pc
  base : ∀ k, get (P 0) k = get P0 k
  dict : ∀ j, j ≤ i → Good (P j) ∧ ∃ a o, W[j]? = some (.ref a) ∧ (a, o) ∈ R ∧ DictIs w o (P j) ∧ (a == sysModules) = false
  step : ∀ j, j < i → Step (P j) (P (j + 1)) (l j) ∧ (∀ k ∈ l j, k ∈ nums) ∧ ∃ b ys n, K[j]? = some (.ref b) ∧ (b, listOf (List.toArray ys) n) ∈ R ∧ Pairs R (P j) ys (l j) ∧ ys.length ≤ 60
theorem Hist.run {w : World} {R : Led} {W K i Pc} (h : Hist w R W K i Pc) : ∃ P l, Run w R W K i Pc P l := by
  induction h with
  | @nil a o P hm d lo g e =>
    refine ⟨fun _ => P, fun _ => [], rfl, e, fun j hj => ?_, fun j hj => by omega⟩
    have hj0 : j = 0 := by omega
    subst hj0
    exact ⟨g, a, o, rfl, hm, d, lo⟩
  | @snoc W K i P P' a o b ys n l h g st hn hb hp hy ha d lo ih =>
    obtain ⟨p, q, r⟩ := ih
    have hW := h.lenW
    have hK := h.lenK
    refine ⟨fun j => if j = i + 1 then P' else p j, fun j => if j = i then l else q j, by simp, ?_, fun j hj => ?_, fun j hj => ?_⟩
    · have : ¬ (0 = i + 1) := by omega
      simp only [this, if_false]
      exact r.base
    · by_cases e : j = i + 1
      · subst e
        simp only [if_true]
        exact ⟨g, a, o, by rw [List.getElem?_append_right (by omega), hW]; simp, ha, d, lo⟩
      · simp only [e, if_false]
        obtain ⟨g1, a1, o1, e1, r1⟩ := r.dict j (by omega)
        exact ⟨g1, a1, o1, by rw [List.getElem?_append_left (by omega)]; exact e1, r1⟩
    · have n1 : ¬ (j = i + 1) := by omega
      by_cases e : j = i
      · subst e
        simp only [if_true, n1, if_false]
        rw [r.now]
        exact ⟨st, hn, b, ys, n, by rw [List.getElem?_append_right (by omega), hK]; simp, hb, hp, hy⟩
      · have n2 : ¬ (j + 1 = i + 1) := by omega
        simp only [e, n1, n2, if_false]
        obtain ⟨s1, s2, b1, ys1, m1, e1, r1⟩ := r.step j (by omega)
        exact ⟨s1, s2, b1, ys1, m1, by rw [List.getElem?_append_left (by omega)]; exact e1, r1⟩
end

section
open PySem PySem.W PyProof.Rows PySem.Calls
set_option Elab.async false
set_option maxRecDepth 100000
set_option maxHeartbeats 0
set_option linter.unusedVariables false
/-- the map of the law's frame, with what its loops bind -/
def upn (ns : List Str) (mB f : Str → Option Value) : Str → Option Value := ns.foldr (fun n m => upo m n (f n)) mB
theorem upn_self {ns : List Str} {mB : Str → Option Value} : mB = upn ns mB mB := by
  unfold upn
  induction ns with
  | nil => rfl
  | cons n ns ih => rw [List.foldr_cons, ← ih]; exact upo_self
theorem upn_in {ns : List Str} {mB f : Str → Option Value} {y : Str} : y ∈ ns → upn ns mB f y = f y := by
  unfold upn
  induction ns with
  | nil => intro h; cases h
  | cons n ns ih =>
    intro h
    rw [List.foldr_cons]
    show (if y = n then f n else _) = _
    by_cases e : y = n
    · rw [if_pos e, e]
    · rw [if_neg e]; exact ih ((List.mem_cons.mp h).resolve_left e)
theorem upn_out {ns : List Str} {mB f : Str → Option Value} {y : Str} : y ∉ ns → upn ns mB f y = mB y := by
  unfold upn
  induction ns with
  | nil => intro _; rfl
  | cons n ns ih =>
    intro h
    rw [List.foldr_cons]
    show (if y = n then f n else _) = _
    have hne : ¬ y = n := by rintro rfl; exact h (.head _)
    rw [if_neg hne]
    exact ih fun q => h (.tail _ q)
theorem upn_of {ns : List Str} {mB m : Str → Option Value} (h : ∀ y, y ∉ ns → m y = mB y) : m = upn ns mB m := by
  funext y
  by_cases e : y ∈ ns
  · exact (upn_in e).symm
  · rw [upn_out e]; exact h y e
theorem upn_put {ns : List Str} {mB : Str → Option Value} {x : Str} {v : Option Value} {m : Str → Option Value} (hx : x ∈ ns) (h : ∀ y, y ∉ ns → m y = mB y) : ∀ y, y ∉ ns → (fun y => if y = x then v else m y) y = mB y := fun y hy => by
  show (if y = x then v else m y) = _
  have hne : ¬ y = x := by rintro rfl; exact hy hx
  rw [if_neg hne]; exact h y hy
/-- the names that the first loop binds -/
def fwdNames : List Str := [Str.ofString "turn", Str.ofString "form", Str.ofString "number", Str.ofString "which", Str.ofString "code", Str.ofString "lines", Str.ofString "code_due"]
inductive FwdJ (w : World) (mB : Str → Option Value) (bag sl d e wr bk c1 : Addr) (fx : Led) (i : Nat) (m : Str → Option Value) (led : Led) : Prop
  | mk (hm : ∃ f, m = upn fwdNames mB f) (spot : Int) (t : Tok) (nb : Nat) (o u : Obj) (W K : List Value) (nW nK : Nat) (oA : Obj) (ca : Option Value) (rest : Led) (P : Prg)
    (h1 : led = (bag, listOf #[.ref sl, .int spot t] nb) :: (d, o) :: (e, u) :: (wr, listOf (List.toArray W) nW) :: (bk, listOf (List.toArray K) nK) :: (c1, oA) :: rest)
    (h2 : oA.data = .cell ca) (h3 : 0 ≤ spot) (h4 : spot ≤ 3 * (i : Int)) (h5 : DictIs w o P) (h6 : DictIs w u P) (h7 : Hist w rest W K i P) (h8 : ∀ p ∈ fx, p ∈ rest)
    (r1 : ∀ p ∈ rest, p.1 ≠ bag) (r2 : ∀ p ∈ rest, p.1 ≠ d) (r3 : ∀ p ∈ rest, p.1 ≠ e) (r4 : ∀ p ∈ rest, p.1 ≠ wr) (r5 : ∀ p ∈ rest, p.1 ≠ bk) (r6 : ∀ p ∈ rest, p.1 ≠ c1)
section
variable {prog : Program} {w : World} {A : Around} {env : Env} {E : Value → Shared → Prop} {s : Shared} {h₀ : Heap} {L : Addr}
theorem for_rng0 {target iter : Expr} {body : List Stmt} {pos : Pos} {Q : Flow → Shared → Prop} {n : Nat} (hsm : Builtin.Range.small 0 n 1 = true) (hrs : Builtin.Range.rangeSize 0 n 1 = n)
    (J : Nat → (Str → Option Value) → Led → Prop) {m0 : Str → Option Value} {led0 : Led} (F0 : Fr h₀ L s.heap m0) (N0 : News h₀ L s.heap led0) (j0 : J 0 m0 led0)
    (hev : wpAny (model prog w) A (eval iter env) (fun v s₁ => ∃ l h tk t u v0, v = .ref l ∧ s₁ = { s with heap := h, toks := tk } ∧ IsRange h l 0 n 1 t u v0 ∧ ∀ b o, s.heap.get? b = some o → h.get? b = some o) (fun _ _ => False) s)
    (turn : ∀ (i : Nat) v tk' m₁ led₁ I io h tk, i < n → v = .int (i : Nat) tk' → J i m₁ led₁ → (∀ p ∈ led₁, p.1 ≠ I) → Fr h₀ L h m₁ → News h₀ L h ((I, io) :: led₁) → ∀ PP : Flow → Shared → Prop, (∀ f s₃, ForPost h₀ L s (J (i + 1)) I io Q f s₃ → PP f s₃) →
      wpAny (model prog w) A (assign target env v) (fun _ s₂ => wpAny (model prog w) A (execs body env) PP (fun _ _ => False) s₂) (fun _ _ => False) { s with heap := h, toks := tk })
    (done : ∀ h tk m led, J n m led → Fr h₀ L h m → News h₀ L h led → Q .next { s with heap := h, toks := tk })
    (hh : A.handled = none := by rfl) (hs : ∀ x, foldedSetIterable iter env x = pure x := by intro _; rfl) :
    wpAny (model prog w) A (exec (.For target iter body [] pos) env) Q E s := by
  refine for_rng hsm hrs J (wpAny_mono hev (fun v s₁ q => ?_) fun _ _ h => h) turn done hh hs
  obtain ⟨l, h, tk, t, u, v0, rfl, rfl, hr, kp⟩ := q
  exact ⟨l, h, tk, m0, led0, t, u, v0, rfl, rfl, hr, F0.keeps kp, N0.grown kp, j0⟩
theorem for_tup0 {target iter : Expr} {body : List Stmt} {pos : Pos} {Q : Flow → Shared → Prop} {l : Addr} {vs : List Value} {lo : Obj} {n : Nat} (hlc : lo.cls = .type "tuple") (hld : lo.data = .seq vs.toArray n)
    (J : Nat → (Str → Option Value) → Led → Prop) {m0 : Str → Option Value} {led0 : Led} (F0 : Fr h₀ L s.heap m0) (N0 : News h₀ L s.heap led0) (j0 : J 0 m0 led0)
    (hmem : ∀ i m led, J i m led → (l, lo) ∈ led)
    (hev : wpAny (model prog w) A (eval iter env) (fun v s₁ => v = .ref l ∧ s₁ = s) (fun _ _ => False) s)
    (turn : ∀ i v m₁ led₁ I io h tk, vs[i]? = some v → J i m₁ led₁ → (∀ p ∈ led₁, p.1 ≠ I) → Fr h₀ L h m₁ → News h₀ L h ((I, io) :: led₁) → ∀ PP : Flow → Shared → Prop, (∀ f s₃, ForPost h₀ L s (J (i + 1)) I io Q f s₃ → PP f s₃) →
      wpAny (model prog w) A (assign target env v) (fun _ s₂ => wpAny (model prog w) A (execs body env) PP (fun _ _ => False) s₂) (fun _ _ => False) { s with heap := h, toks := tk })
    (done : ∀ h tk m led, J vs.length m led → Fr h₀ L h m → News h₀ L h led → Q .next { s with heap := h, toks := tk })
    (hh : A.handled = none := by rfl) (hs : ∀ x, foldedSetIterable iter env x = pure x := by intro _; rfl) :
    wpAny (model prog w) A (exec (.For target iter body [] pos) env) Q E s :=
  for_tup hlc hld J (wpAny_mono hev (fun v s₁ q => ⟨q.1, s.heap, s.toks, m0, led0, q.2, F0, N0, j0⟩) fun _ _ h => h) hmem turn done hh hs
end
theorem text_at {t1 t2 t3 t4 : Tok} : ∀ i : Int, 0 ≤ i → i < 4 → ∃ x t, [Value.str (Str.ofString "X = 1") t1, Value.str (Str.ofString "REM  Z  ") t2, Value.str (Str.ofString " END") t3, Value.str (Str.ofString "   ") t4][i.toNat]? = some (.str x t) ∧ x ∈ raws := by
  intro i h0 h4
  have h : i = 0 ∨ i = 1 ∨ i = 2 ∨ i = 3 := by omega
  rcases h with rfl | rfl | rfl | rfl
  · exact ⟨_, _, rfl, .head _⟩
  · exact ⟨_, _, rfl, .tail _ (.head _)⟩
  · exact ⟨_, _, rfl, .tail _ (.tail _ (.head _))⟩
  · exact ⟨_, _, rfl, .tail _ (.tail _ (.tail _ (.head _)))⟩
theorem num_of {r : Int} (h0 : 0 ≤ r) (h4 : r < 4) : 10 + 10 * r ∈ nums := by
  have h : r = 0 ∨ r = 1 ∨ r = 2 ∨ r = 3 := by omega
  rcases h with rfl | rfl | rfl | rfl <;> decide
theorem ints_split : ∀ {vs us : List Value} {ns : List Int}, IntsAre (vs ++ us) ns → ∃ n1 n2, ns = n1 ++ n2 ∧ IntsAre vs n1 ∧ IntsAre us n2
  | [], us, ns, h => ⟨[], ns, rfl, .nil, h⟩
  | v :: vs, us, ns, h => by
    rw [List.cons_append] at h
    cases h with
    | cons a t h =>
      obtain ⟨n1, n2, rfl, h1, h2⟩ := ints_split h
      exact ⟨a :: n1, n2, rfl, .cons _ _ h1, h2⟩
theorem pairs_snoc {R : Led} {P : Prg} {t : Addr} {k : Int} {tk ts : Tok} {n : Nat} {vs : List Value} {l : List Int} (h : Pairs R P vs l) (hm : (t, tupOf #[.int k tk, .str (back P k) ts] n) ∈ R) : Pairs R P (vs ++ [.ref t]) (l ++ [k]) := by
  induction h with
  | nil => exact .cons hm .nil
  | cons h1 _ ih => exact .cons h1 ih
theorem nums_len {l : List Int} (h : l.Nodup) (hn : ∀ k ∈ l, k ∈ nums) : l.length ≤ 4 := List.Nodup.length_le_of_subset (l₂ := nums) h hn
theorem txt_len : ∀ x ∈ txts, x.length ≤ 1000 := by
  intro x hx
  simp only [txts, List.mem_cons, List.not_mem_nil, or_false] at hx
  rcases hx with rfl | rfl | rfl | rfl <;> decide +kernel
theorem back_yes {P : Prg} {k : Int} {x : Str} (q : get P k = some x) (h : has P k = true) : Str.ofString (toString k) ++ (Str.ofString " " ++ x) = back P k := by
  unfold back rowOf
  rw [if_pos h, lineOf_at q, PySem.Str.append_assoc]
theorem back_no {P : Prg} {k : Int} (h : has P k = false) : Str.ofString (toString k) ++ Str.ofString "" = back P k := by
  unfold back
  rw [if_neg (by rw [h]; decide)]
  have e : Str.ofString "" = PySem.Str.empty := by decide +kernel
  rw [e]; exact PySem.Str.append_empty _
theorem pairs_of {P : Prg} : ∀ {vs : List Value} {ns : List Int} {ys : List Value} {os : Led}, IntsAre vs ns →
    Items (fun v y os => ∃ k tk T tk' ts, v = .int k tk ∧ y = .ref T ∧ os = [(T, tupOf #[.int k tk', .str (back P k) ts] 0)]) vs ys os → Pairs os P ys ns := by
  intro vs ns ys os hI h
  induction h generalizing ns with
  | nil => cases hI; exact .nil
  | @snoc vs ys os v y o h g ih =>
    obtain ⟨k, tk, T, tk', ts, rfl, rfl, rfl⟩ := g
    obtain ⟨n1, n2, rfl, h1, h2⟩ : ∃ n1 n2, ns = n1 ++ n2 ∧ IntsAre vs n1 ∧ IntsAre [Value.int k tk] n2 := ints_split hI
    cases h2 with
    | cons _ _ h3 =>
      cases h3
      exact pairs_snoc ((ih h1).mono fun p hp => List.mem_append_right _ hp) (.head _)
def PairPost (P : Prg) (k : Int) (s : Shared) (vs : List Value) (s₁ : Shared) : Prop := ∃ t1 t2 tk, vs = [.int k t1, .str (back P k) t2] ∧ s₁ = { s with toks := tk }
theorem tup_pair {prog : Program} {w : World} {A : Around} {env : Env} {s : Shared} {P : Prg} {k : Int} {u : Tok} {elts : List Expr} {n : Nat} {pos : Pos}
    (h : wpAny (model prog w) A (spliced (backTo pos (starEach elts env))) (PairPost P k s) (fun _ _ => False) s) :
    wpAny (model prog w) A (eval (.Tuple elts n pos) env) (fun y s₄ => ∃ os, (∃ k' tk T tk' ts, Value.int k u = .int k' tk ∧ y = .ref T ∧ os = [(T, tupOf #[.int k' tk', .str (back P k') ts] 0)]) ∧ Keeps s s₄ ∧ ∀ q ∈ os, s₄.heap.get? q.1 = some q.2 ∧ s.heap.objs.size ≤ q.1) (fun _ _ => False) s := by
  refine wpAny_Tuple (wpAny_mono h (fun vs s₁ q => ?_) fun _ _ h => h)
  obtain ⟨t1, t2, tk, rfl, rfl⟩ := q
  refine ⟨by rw [sizeLine_eq]; exact Nat.le_of_ble_eq_true rfl, _, ⟨k, u, _, t1, t2, rfl, rfl, rfl⟩, ⟨_, tk, rfl, fun b o e => Heap.get?_push_of_some _ e⟩, fun q hq => ?_⟩
  rw [List.mem_singleton] at hq
  subst hq
  exact ⟨Heap.get?_push_size _ rfl, Nat.le_refl _⟩
theorem fwd_map {mB f : Str → Option Value} {a b c d e g h : Option Value} : ∃ f', (fun y => if y = Str.ofString "code_due" then a else if y = Str.ofString "lines" then b else if y = Str.ofString "code" then c else if y = Str.ofString "form" then d else if y = Str.ofString "number" then e else if y = Str.ofString "which" then g else if y = Str.ofString "turn" then h else upn fwdNames mB f y) = upn fwdNames mB f' :=
  ⟨_, upn_of (upn_put (by decide +kernel) (upn_put (by decide +kernel) (upn_put (by decide +kernel) (upn_put (by decide +kernel) (upn_put (by decide +kernel) (upn_put (by decide +kernel) (upn_put (by decide +kernel) (fun y hy => upn_out hy))))))))⟩
theorem fwd_next {w : World} {mB m : Str → Option Value} {bag sl d e wr bk c1 : Addr} {fx rest : Led} {i nb nW nK : Nat} {spot : Int} {t : Tok} {o u oA : Obj} {W K : List Value} {ca : Option Value} {P : Prg}
    (hm : ∃ f, m = upn fwdNames mB f) (dA : oA.data = .cell ca) (s0 : 0 ≤ spot) (s1 : spot ≤ 3 * (i : Int)) (dP : DictIs w o P) (dU : DictIs w u P) (hH : Hist w rest W K i P) (hfx : ∀ p ∈ fx, p ∈ rest)
    (r1 : ∀ p ∈ rest, p.1 ≠ bag) (r2 : ∀ p ∈ rest, p.1 ≠ d) (r3 : ∀ p ∈ rest, p.1 ≠ e) (r4 : ∀ p ∈ rest, p.1 ≠ wr) (r5 : ∀ p ∈ rest, p.1 ≠ bk) (r6 : ∀ p ∈ rest, p.1 ≠ c1) :
    FwdJ w mB bag sl d e wr bk c1 fx i m ((bag, listOf #[.ref sl, .int spot t] nb) :: (d, o) :: (e, u) :: (wr, listOf (List.toArray W) nW) :: (bk, listOf (List.toArray K) nK) :: (c1, oA) :: rest) :=
  ⟨hm, spot, t, nb, o, u, W, K, nW, nK, oA, ca, rest, P, rfl, dA, s0, s1, dP, dU, hH, hfx, r1, r2, r3, r4, r5, r6⟩
end

section
open PySem PySem.W PyProof.Rows PySem.Calls
set_option Elab.async false
set_option maxRecDepth 100000
set_option maxHeartbeats 0
set_option linter.unusedVariables false
theorem dict_not_cell {w : World} {o : Obj} {P : Prg} {v : Option Value} (h : DictIs w o P) : o.data ≠ .cell v := by
  obtain ⟨kvs, ⟨es, ep, _, e, _⟩, _⟩ := h
  rw [e]; intro q; cases q
theorem Pairs.keep {R R' : Led} {P : Prg} {vs l} (h : Pairs R P vs l) (hs : ∀ p ∈ R, (∀ v, p.2.data ≠ .cell v) → p ∈ R') : Pairs R' P vs l := by
  induction h with
  | nil => exact .nil
  | cons hm _ ih => exact .cons (hs _ hm (fun v q => by cases q)) ih
theorem Hist.keep {w : World} {R R' : Led} {W K i P} (h : Hist w R W K i P) (hs : ∀ p ∈ R, (∀ v, p.2.data ≠ .cell v) → p ∈ R') : Hist w R' W K i P := by
  induction h with
  | nil hm d l g e => exact .nil (hs _ hm fun v => dict_not_cell d) d l g e
  | snoc _ g st hn hb hp hy ha d l ih => exact .snoc ih g st hn (hs _ hb (fun v q => by cases q)) (hp.keep hs) hy (hs _ ha fun v => dict_not_cell d) d l
/-- a ledger without two cells -/
theorem News.without2 {h₀ h : Heap} {L c1 c2 : Addr} {o1 o2 : Obj} {v1 v2 : Option Value} {led : Led} (N : News h₀ L h led) (m1 : (c1, o1) ∈ led) (m2 : (c2, o2) ∈ led) (d1 : o1.data = .cell v1) (d2 : o2.data = .cell v2) :
    ∃ led' : Led, News h₀ L h led' ∧ (∀ p ∈ led', p ∈ led) ∧ (∀ p ∈ led', p.1 ≠ c1) ∧ (∀ p ∈ led', p.1 ≠ c2) ∧ ∀ p ∈ led, (∀ v, p.2.data ≠ .cell v) → p ∈ led' := by
  refine ⟨led.filter fun p => decide (p.1 ≠ c1 ∧ p.1 ≠ c2), fun p hp => N p (List.mem_filter.mp hp).1, fun p hp => (List.mem_filter.mp hp).1, fun p hp => (of_decide_eq_true (List.mem_filter.mp hp).2).1, fun p hp => (of_decide_eq_true (List.mem_filter.mp hp).2).2, fun p hp hc => ?_⟩
  refine List.mem_filter.mpr ⟨hp, decide_eq_true ⟨fun e => ?_, fun e => ?_⟩⟩
  · have q := (N p hp).1
    rw [e, (N _ m1).1] at q
    cases q
    exact hc _ d1
  · have q := (N p hp).1
    rw [e, (N _ m2).1] at q
    cases q
    exact hc _ d2
theorem Pairs.into {R R' : Led} {P : Prg} {vs l} (h : Pairs R P vs l) (hs : ∀ p ∈ R, p ∈ R') : Pairs R' P vs l := h.mono hs
theorem Run.mono {w : World} {R R' : Led} {W K : List Value} {i : Nat} {Pc : Prg} {P : Nat → Prg} {l : Nat → List Int} (h : Run w R W K i Pc P l) (hs : ∀ p ∈ R, p ∈ R') : Run w R' W K i Pc P l where
  now := h.now
  base := h.base
  dict := fun j hj => by
    obtain ⟨g, a, o, e, m, d, lo⟩ := h.dict j hj
    exact ⟨g, a, o, e, hs _ m, d, lo⟩
  step := fun j hj => by
    obtain ⟨s, n, b, ys, k, e, m, p, z⟩ := h.step j hj
    exact ⟨s, n, b, ys, k, e, hs _ m, p.mono hs, z⟩
def undoNames : List Str := fwdNames ++ [Str.ofString "row"]
/-- the loop that takes the deeds back -/
inductive UndoJ (w : World) (mB : Str → Option Value) (pd c3 : Addr) (fx : Led) (Q : Nat → Prg) (l : Addr) (lo : Obj) (i : Nat) (m : Str → Option Value) (led : Led) : Prop
  | mk (hm : ∃ f, m = upn undoNames mB f) (o oN : Obj) (cv : Option Value) (R : Prg) (h1 : led = (l, lo) :: (pd, o) :: (c3, oN) :: fx) (h2 : l ≠ pd) (h3 : l ≠ c3) (h4 : oN.data = .cell cv) (h5 : DictIs w o R) (h6 : Good R) (h7 : ∀ k, get R k = get (Q (6 - i)) k)
theorem down6 {i : Nat} {k : Int} (h : [(5 : Int), 4, 3, 2, 1, 0][i]? = some k) : i < 6 ∧ k = ((5 - i : Nat) : Int) := by
  match i with
  | 0 => cases h; decide
  | 1 => cases h; decide
  | 2 => cases h; decide
  | 3 => cases h; decide
  | 4 => cases h; decide
  | 5 => cases h; decide
  | i + 6 => simp at h
/-- the loop over the rows of one deed -/
inductive RowsJ (w : World) (mB : Str → Option Value) (pd c3 : Addr) (fx : Led) (lt : List Int) (A B : Prg) (j : Nat) (m : Str → Option Value) (led : Led) : Prop
  | mk (hm : ∃ u, m = upo mB (Str.ofString "row") u) (o oN : Obj) (cv : Option Value) (R : Prg) (h1 : led = (pd, o) :: (c3, oN) :: fx) (h2 : oN.data = .cell cv) (h3 : DictIs w o R) (h4 : Good R) (h5 : ∀ k, get R k = if k ∈ lt.take j then get A k else get B k)
theorem ints_nth {vs : List Value} {ns : List Int} (h : IntsAre vs ns) : ∀ {i : Nat} {v : Value}, vs[i]? = some v → ∃ k t, v = .int k t ∧ ns[i]? = some k := by
  induction h with
  | nil => intro i v h; simp at h
  | cons a t _ ih =>
    intro i v h
    cases i with
    | zero => simp at h; subst h; exact ⟨_, _, rfl, rfl⟩
    | succ i => simp at h; obtain ⟨k, t, e1, e2⟩ := ih h; exact ⟨k, t, e1, by simpa using e2⟩
section
variable {prog : Program} {w : World} {A : Around} {env : Env} {E : Value → Shared → Prop} {s : Shared} {h₀ : Heap} {L : Addr}
def IntsPost (ns : List Int) (s : Shared) (vs : List Value) (s₁ : Shared) : Prop := IntsAre vs ns ∧ ∃ tk, s₁ = { s with toks := tk }
/-- a for over a literal tuple of ints -/
theorem for_ints {target : Expr} {elts : List Expr} {ek : Nat} {tpos : Pos} {body : List Stmt} {pos : Pos} {Q : Flow → Shared → Prop} (ns : List Int)
    (J : Addr → Obj → Nat → (Str → Option Value) → Led → Prop) {m0 : Str → Option Value} {led0 : Led} (F0 : Fr h₀ L s.heap m0) (N0 : News h₀ L s.heap led0)
    (hev : wpAny (model prog w) A (spliced (backTo tpos (starEach elts env))) (IntsPost ns s) (fun _ _ => False) s)
    (hlen : ns.length ≤ 1000) (j0 : ∀ l lo, (∀ p ∈ led0, p.1 < l) → J l lo 0 m0 ((l, lo) :: led0))
    (hmem : ∀ l lo i m led, J l lo i m led → (l, lo) ∈ led)
    (turn : ∀ l lo i k t m₁ led₁ I io h tk, ns[i]? = some k → J l lo i m₁ led₁ → (∀ p ∈ led₁, p.1 ≠ I) → Fr h₀ L h m₁ → News h₀ L h ((I, io) :: led₁) → ∀ PP : Flow → Shared → Prop, (∀ f s₃, ForPost h₀ L s (J l lo (i + 1)) I io Q f s₃ → PP f s₃) →
      wpAny (model prog w) A (assign target env (.int k t)) (fun _ s₂ => wpAny (model prog w) A (execs body env) PP (fun _ _ => False) s₂) (fun _ _ => False) { s with heap := h, toks := tk })
    (done : ∀ l lo h tk m led, J l lo ns.length m led → Fr h₀ L h m → News h₀ L h led → Q .next { s with heap := h, toks := tk })
    (hh : A.handled = none := by rfl) (hs : ∀ x, foldedSetIterable (.Tuple elts ek tpos) env x = pure x := by intro _; rfl) :
    wpAny (model prog w) A (exec (.For target (.Tuple elts ek tpos) body [] pos) env) Q E s := by
  refine wpAny_For (wpAny_Tuple (wpAny_mono hev (fun vs s₁ q => ?_) fun _ _ h => h.elim)) hs
  obtain ⟨hI, tk1, rfl⟩ := q
  have hvl := hI.length
  refine ⟨by rw [sizeLine_eq]; omega, ?_⟩
  have hl1 : (s.heap.push { cls := .type "tuple", data := .seq vs.toArray }).get? s.heap.objs.size = some { cls := .type "tuple", data := .seq vs.toArray } := Heap.get?_push_size _ rfl
  have F1 := F0.push (h := s.heap) { cls := .type "tuple", data := .seq vs.toArray }
  have N1 := N0.push F0 { cls := .type "tuple", data := .seq vs.toArray }
  have j1 := j0 s.heap.objs.size { cls := .type "tuple", data := .seq vs.toArray } (fun p hp => Heap.lt_size (N0 p hp).1)
  have hlc : ({ cls := .type "tuple", data := .seq vs.toArray } : Obj).cls = .type "tuple" := rfl
  have hld : ({ cls := .type "tuple", data := .seq vs.toArray } : Obj).data = .seq vs.toArray 0 := rfl
  generalize hlo : ({ cls := .type "tuple", data := .seq vs.toArray } : Obj) = lo at *
  generalize s.heap.push lo = h1 at *
  generalize s.heap.objs.size = l at *
  refine wpAny_pyIter_tuple ⟨lo, hl1, hlc, 0, hld⟩ ?_
  refine codeAny_forLoop_any (fun k s' => ∃ i h tk m led io, s' = { s with heap := h, toks := tk } ∧ k = vs.length + 1 - i ∧ i ≤ vs.length ∧ Fr h₀ L h m ∧ News h₀ L h ((h1.objs.size, io) :: led) ∧ (∀ p ∈ led, p.1 ≠ h1.objs.size) ∧ J l lo i m led ∧ io.cls = .type "tuple_iterator" ∧ io.data = .fields #[.ref l, .int (i : Nat) 0]) ?_ (vs.length + 1) ⟨0, _, tk1, m0, _, _, rfl, rfl, Nat.zero_le _, F1.push _, N1.push F1 _, fun p hp => Nat.ne_of_lt (Heap.lt_size (N1 p hp).1), j1, rfl, rfl⟩
  rintro k s' ⟨i, h, tk, m, led, io, rfl, rfl, hi, F, N, ne, j, ic, id⟩
  have hI' := N _ (.head _)
  have hl := (N _ (.tail _ (hmem _ _ _ _ _ j))).1
  by_cases hlt : i < vs.length
  · refine wpAny_pyNext_tuple_item (it := h1.objs.size) (t := l) (i := i) (items := vs.toArray) (x := vs[i]) ⟨io, hI'.1, ic, id⟩ ⟨lo, hl, hlc, 0, hld⟩ (by simp [hlt]) fun h' hit hsb => ?_
    obtain ⟨io', ho', ic', id'⟩ := hit
    have F' : Fr h₀ L h' m := F.change hsb hI'.2.1 hI'.2.2
    have N' : News h₀ L h' ((h1.objs.size, io') :: led) := News.setIn (own := []) N (fun _ h => nomatch h) ne hsb ho'
    refine owned_noneT ho' ic' id' ?_
    obtain ⟨k0, t0, e0, ek0⟩ := ints_nth hI (i := i) (v := vs[i]) (by simp [hlt])
    rw [e0]
    refine wpAny_mono (turn l lo i k0 t0 m led h1.objs.size io' h' tk ek0 j ne F' N' _ (fun _ _ q => q)) (fun _ s₂ q => ?_) fun _ _ h => h.elim
    refine wpAny_mono q (fun f s₃ r => ?_) fun _ _ h => h.elim
    cases f with
    | next =>
      obtain ⟨h'', tk', m', led', e, F2, N2, ne2, j2⟩ := r
      exact ⟨_, by omega, i + 1, h'', tk', m', led', io', e, rfl, hlt, F2, N2, ne2, j2, ic', id'⟩
    | cont =>
      obtain ⟨h'', tk', m', led', e, F2, N2, ne2, j2⟩ := r
      exact ⟨_, by omega, i + 1, h'', tk', m', led', io', e, rfl, hlt, F2, N2, ne2, j2, ic', id'⟩
    | brk => exact r
    | ret v => exact r
  · obtain rfl : i = vs.length := by omega
    refine wpAny_pyNext_tuple_end (it := h1.objs.size) (t := l) (i := vs.length) (items := vs.toArray) hh ⟨io, hI'.1, ic, id⟩ ⟨lo, hl, hlc, 0, hld⟩ (by simp) fun h' hsb => ?_
    have keep : ∀ b o, b ≠ h1.objs.size → h.get? b = some o → h'.get? b = some o := fun b o hb e => hsb b o hb e
    have F' : Fr h₀ L h' m := by
      obtain ⟨oL, es, ep, hL, r⟩ := F.ns
      exact ⟨⟨oL, es, ep, keep _ _ (Ne.symm hI'.2.1) hL, r⟩, fun b o e => keep _ _ (by rintro rfl; rw [hI'.2.2] at e; cases e) (F.keep b o e), F.above⟩
    have N' : News h₀ L h' led := fun p hp => ⟨keep _ _ (ne p hp) (N p (.tail _ hp)).1, (N p (.tail _ hp)).2⟩
    exact wpAny_execs_nil (done l lo h' tk m led (by rw [← hvl]; exact j) F' N')
end
theorem not_mem_take {l : List Int} (h : l.Nodup) : ∀ {j : Nat} {k : Int}, l[j]? = some k → k ∉ l.take j := by
  intro j k hj hm
  obtain ⟨i, hi, e⟩ := List.getElem_of_mem hm
  rw [List.length_take] at hi
  have hjl : j < l.length := by
    rcases Nat.lt_or_ge j l.length with q | q
    · exact q
    · rw [List.getElem?_eq_none q] at hj; cases hj
  rw [List.getElem_take] at e
  rw [List.getElem?_eq_getElem hjl] at hj
  cases hj
  exact List.pairwise_iff_getElem.mp h i j (by omega) hjl (by omega) e
theorem mem_take_succ {l : List Int} {j : Nat} {k x : Int} (hj : l[j]? = some k) : x ∈ l.take (j + 1) ↔ x ∈ l.take j ∨ x = k := by
  rw [List.take_add_one, hj]; simp
theorem rows_step {A B R R' : Prg} {lt : List Int} {j : Nat} {k : Int} (hj : lt[j]? = some k) (hR : ∀ x, get R x = if x ∈ lt.take j then get A x else get B x) (hR' : ∀ x, get R' x = if x = k then get A k else get R x) :
    ∀ x, get R' x = if x ∈ lt.take (j + 1) then get A x else get B x := by
  intro x
  rw [hR', hR]
  by_cases e : x = k
  · subst e
    rw [if_pos rfl, if_pos ((mem_take_succ hj).mpr (.inr rfl))]
  · rw [if_neg e]
    by_cases q : x ∈ lt.take j
    · rw [if_pos q, if_pos ((mem_take_succ hj).mpr (.inl q))]
    · rw [if_neg q, if_neg (fun z => ((mem_take_succ hj).mp z).elim q e)]
theorem rows_done {A B R : Prg} {lt : List Int} {n : Nat} (s : Step A B lt) (hn : n = lt.length) (hR : ∀ x, get R x = if x ∈ lt.take n then get A x else get B x) : ∀ x, get R x = get A x := by
  intro x
  rw [hR, hn, List.take_length]
  by_cases e : x ∈ lt
  · rw [if_pos e]
  · rw [if_neg e, s.same x e]
theorem rows_same {A R : Prg} {lt : List Int} {j : Nat} (hR : ∀ x, get R x = if x ∈ lt.take j then get A x else get A x) : ∀ x, get R x = get A x := fun x => by rw [hR]; exact ite_self _
theorem back_has {A : Prg} {k : Int} (h : (back A k != Str.ofString (toString k)) = true) : has A k = true := by
  cases e : has A k with
  | true => rfl
  | false =>
    unfold back at h
    rw [if_neg (by rw [e]; decide)] at h
    simp at h
section
variable {w : World} {A : Around} {E : Value → Shared → Prop} {s : Shared} {h₀ : Heap} {L a b : Addr} {oa ob : Obj} {P R : Prg} {news : List (Addr × Obj)} {Q : Value → Shared → Prop}
theorem kne_same (N : News h₀ L s.heap news) (pa : (a, oa) ∈ news) (pb : (b, ob) ∈ news) (da : DictIs w oa P) (db : DictIs w ob R) (la : (a == sysModules) = false) (lb : (b == sysModules) = false) (hp : P.Perm R) (hu : A.units < cLine) (h : Q (.bool false) s) :
    wpAny (model PySem.Challenge.rw_xm0026_01.row.prog w) A (compareOp .NotEq (.ref a) (.ref b)) Q E s := by
  obtain ⟨ka, hA, hRa⟩ := da
  obtain ⟨kb, hB, hRb⟩ := db
  have hbk : (R.map (·.1)).Nodup := by obtain ⟨_, _, _, _, _, _, hk0⟩ := hB; exact hRb.keys ▸ hk0
  exact kne_pairs (knd := PySem.intKind _ _) (r := true) N pa pb hA hB la lb (by rw [hRa.length, hRb.length]; exact hp.length_eq) hu (hits_of hRb hRa (perm_get hbk hp)) h
theorem keq_same (N : News h₀ L s.heap news) (pa : (a, oa) ∈ news) (pb : (b, ob) ∈ news) (da : DictIs w oa P) (db : DictIs w ob R) (la : (a == sysModules) = false) (lb : (b == sysModules) = false) (hp : P.Perm R) (hu : A.units < cLine) (h : Q (.bool true) s) :
    wpAny (model PySem.Challenge.rw_xm0026_01.row.prog w) A (compareOp .Eq (.ref a) (.ref b)) Q E s := by
  obtain ⟨ka, hA, hRa⟩ := da
  obtain ⟨kb, hB, hRb⟩ := db
  have hbk : (R.map (·.1)).Nodup := by obtain ⟨_, _, _, _, _, _, hk0⟩ := hB; exact hRb.keys ▸ hk0
  exact keq_pairs (knd := PySem.intKind _ _) (r := true) N pa pb hA hB la lb (by rw [hRa.length, hRb.length]; exact hp.length_eq) hu (hits_of hRb hRa (perm_get hbk hp)) h
end
theorem undo_map {mB f : Str → Option Value} {a u u' : Option Value} : ∃ f', upo (upo (fun y => if y = Str.ofString "turn" then a else upn undoNames mB f y) (Str.ofString "row") u) (Str.ofString "row") u' = upn undoNames mB f' :=
  ⟨_, upn_of (upn_put (by decide +kernel) (upn_put (by decide +kernel) (upn_put (by decide +kernel) (fun y hy => upn_out hy))))⟩
theorem rows_idem {A R R' : Prg} {lt : List Int} {j : Nat} {k : Int} (hR : ∀ x, get R x = get A x) (hR' : ∀ x, get R' x = if x = k then get A k else get R x) : ∀ x, get R' x = if x ∈ lt.take j then get A x else get A x := by
  intro x
  rw [hR', hR, ite_self]
  by_cases e : x = k
  · rw [if_pos e, e]
  · rw [if_neg e]
theorem rows_map {mB : Str → Option Value} {u a : Option Value} : ∃ u', (fun y => if y = Str.ofString "row" then a else upo mB (Str.ofString "row") u y) = upo mB (Str.ofString "row") u' := ⟨a, upo_upo⟩
theorem rows_next {w : World} {mB m : Str → Option Value} {pd c3 : Addr} {fx : Led} {lt : List Int} {A B R : Prg} {j : Nat} {o oN : Obj} {cv : Option Value} (hm : ∃ u, m = upo mB (Str.ofString "row") u) (dN : oN.data = .cell cv) (dR : DictIs w o R) (gR : Good R)
    (hR : ∀ k, get R k = if k ∈ lt.take j then get A k else get B k) : RowsJ w mB pd c3 fx lt A B j m ((pd, o) :: (c3, oN) :: fx) := ⟨hm, o, oN, cv, R, rfl, dN, dR, gR, hR⟩
end

section
open PySem PySem.W PyProof.Rows PySem.Calls
set_option Elab.async false
set_option maxRecDepth 100000
set_option maxHeartbeats 0
set_option linter.unusedVariables false
theorem ints_join : ∀ {vs us : List Value} {a b : List Int}, IntsAre vs a → IntsAre us b → IntsAre (vs ++ us) (a ++ b)
  | [], us, _, b, .nil, h => h
  | _ :: vs, us, _, b, .cons k t h1, h => .cons k t (ints_join h1 h)
section
variable {prog : Program} {w : World} {A : Around} {E : Value → Shared → Prop} {env : Env} {R : Result → Shared → Prop}
theorem kpopI {s : Shared} {h₀ : Heap} {L D : Addr} {m : Str → Option Value} {news : Led} {vs : List Value} {rem : List Int} {n : Nat} {i : Int} {u : Tok} {Q : Value → Shared → Prop} (F : Fr h₀ L s.heap m) (N : News h₀ L s.heap ((D, listOf vs.toArray n) :: news)) (hn : ∀ p ∈ news, p.1 ≠ D)
    (hI : IntsAre vs rem) (h0 : 0 ≤ i) (h1 : i < (rem.length : Int)) (hlen : rem.length ≤ 100)
    (k : ∀ h' x t vs' r1 r2, rem = r1 ++ x :: r2 → IntsAre vs' (r1 ++ r2) → Fr h₀ L h' m → News h₀ L h' ((D, listOf (List.toArray vs') (n + 1)) :: news) → Q (.int x t) { s with heap := h' }) :
    wpAny (model prog w) A (call (.builtin "list.pop") [.ref D, .int i u]) Q E s := by
  have hvl := hI.length
  obtain ⟨p, y, q, rfl, hp⟩ : ∃ p y q, vs = p ++ y :: q ∧ p.length = i.toNat := by
    have hlt : i.toNat < vs.length := by omega
    refine ⟨vs.take i.toNat, vs[i.toNat], vs.drop (i.toNat + 1), ?_, by rw [List.length_take]; omega⟩
    rw [← List.drop_eq_getElem_cons hlt, List.take_append_drop]
  obtain ⟨r1, r2, rfl, i1, i2⟩ := ints_split hI
  cases i2 with
  | cons x t i3 =>
    rename_i r3
    have z := N _ (.head _)
    have hz' : (p ++ Value.int x t :: q).toArray.size ≤ sizeLine := by rw [List.size_toArray, sizeLine_eq]; omega
    have hsz : (p ++ Value.int x t :: q).toArray.size = p.length + q.length + 1 := by rw [List.size_toArray, List.length_append, List.length_cons]; omega
    have hk : PySem.seqIndex? i (p ++ Value.int x t :: q).toArray.size = some p.length := by
      unfold PySem.seqIndex?
      have n0 : ¬ i < 0 := by omega
      have e1 : (decide (0 ≤ i) && decide (i < (((p ++ Value.int x t :: q).toArray.size : Nat) : Int))) = true := by
        rw [hsz, Bool.and_eq_true, decide_eq_true_eq, decide_eq_true_eq]; omega
      simp only [n0, if_false]
      rw [if_pos e1, hp]
    have hf : Builtin.List.listFitsIndex i = true := by
      unfold Builtin.List.listFitsIndex
      rw [Bool.and_eq_true, decide_eq_true_eq, decide_eq_true_eq]; omega
    refine call_meets PySem.F.slot_list_pop ⟨_, z.1, rfl⟩ PySem.F.entry_list_pop (PySem.F.args_list_pop_2 _ _) (PySem.MeetsSeq.list_pop_at D _ n i u _ (.int x t) hf hk (by simp) hz') ⟨z.1, k _ x t (p ++ q) r1 r3 rfl (ints_join i1 i3) (F.change (Heap.SameBut.update ..) z.2.1 z.2.2) (kl_turn (pre := []) _ N (fun _ h => nomatch h) hn (kl_erase p q _) ?_)⟩
    rw [List.size_toArray, List.size_toArray, List.length_append, List.length_append, List.length_cons]
    omega
theorem comp_dict {s : Shared} {h₀ : Heap} {L : Addr} {elt iter : Expr} {x : Str} {px : Pos} {ifs : List Expr} {scope : Scope} {cl : List (Str × Addr)} {pos : Pos} {Q : Value → Shared → Prop} (p : Value → Bool) (G : Value → Value → Led → Prop)
    (hclos : closureFor scope env = pure cl) (hcell : ∀ y ∈ scope.names, y.2 ≠ .cell) (hkind : scope.kind = .function)
    (hnames : ∀ y ∈ scope.names, y.2 = .local → scope.names.lookup y.1 = some .local) (hx : scope.names.lookup x = some .local) (hh : A.handled = none)
    (h : wpAny (model prog w) A (eval iter env) (fun xv s₁ => ∃ d o kvs h tk m led, xv = .ref d ∧ s₁ = { s with heap := h, toks := tk } ∧ Fr h₀ L h m ∧ News h₀ L h led ∧ (d, o) ∈ led ∧ o.IsDictOf (PySem.intKind prog w) kvs ∧ (d == sysModules) = false ∧ kvs.length ≤ 1000 ∧
      (∀ C k y t h₃ tk₃ m₃, (k, y) ∈ kvs → h₃.Ns C m₃ → m₃ x = some (.int k t) → Fr h₀ L h₃ m → News h₀ L h₃ led →
        wpAny (model prog w) A (forIn ifs true fun c r => if r = true then do let ok ← isTrue c (compEnvC scope cl C env) (eval c (compEnvC scope cl C env)); pure (ForInStep.yield ok) else pure (ForInStep.yield r))
          (fun ok s₄ => ok = p (.int k t) ∧ Keeps { s with heap := h₃, toks := tk₃ } s₄) (fun _ _ => False) { s with heap := h₃, toks := tk₃ }) ∧
      (∀ C k y t h₃ tk₃ m₃, (k, y) ∈ kvs → p (.int k t) = true → h₃.Ns C m₃ → m₃ x = some (.int k t) → Fr h₀ L h₃ m → News h₀ L h₃ led →
        wpAny (model prog w) A (eval elt (compEnvC scope cl C env)) (fun y s₄ => ∃ os, G (.int k t) y os ∧ Keeps { s with heap := h₃, toks := tk₃ } s₄ ∧ ∀ q ∈ os, s₄.heap.get? q.1 = some q.2 ∧ h₃.objs.size ≤ q.1) (fun _ _ => False) { s with heap := h₃, toks := tk₃ }) ∧
      (∀ D h' tk vs ys os n, (∀ q ∈ led, q.1 < D) → (∀ q ∈ os, D < q.1) → Fr h₀ L h' m → News h₀ L h' ((D, listOf (List.toArray ys) n) :: (os ++ led)) → IntsAre vs (kvs.map (·.1)) → Items G (vs.filter p) ys os → Q (.ref D) { s with heap := h', toks := tk })) (fun _ _ => False) s)
    (hs : ∀ x, foldedSetIterable iter env x = pure x := by intro _; rfl) :
    wpAny (model prog w) A (eval (.ListComp elt [⟨.Name x px, iter, ifs, 0⟩] scope pos) env) Q E s := by
  refine comp_walk p G hclos hcell hkind hnames hx (wpAny_mono h (fun xv s₁ q => ?_) fun _ _ h => h.elim) hs
  obtain ⟨d, o, kvs, h1, tk1, m, led, rfl, rfl, F, N, hm, hd, lo, hl1000, hT, hE, hQ⟩ := q
  have hl := (N _ hm).1
  have hlt : d < h1.objs.size := Heap.lt_size hl
  obtain ⟨ep, hat⟩ := (kda_dict (s := { s with heap := h1, toks := tk1 }) N hm hd).dictAt
  refine wpAny_pyIter_dict lo hat ?_
  have keepF : ∀ {h₃ : Heap} {it : Obj}, (∀ b o, b ∉ [h1.objs.size] → (h1.push it).get? b = some o → h₃.get? b = some o) → Fr h₀ L h₃ m ∧ News h₀ L h₃ led := fun hk =>
    have kk : ∀ b o, h1.get? b = some o → _ := fun b o e => hk b o (fun hb => Nat.lt_irrefl _ (by rw [List.mem_singleton] at hb; rw [hb] at e; exact Heap.lt_size e)) (Heap.get?_push_of_some _ e)
    ⟨F.keeps kk, N.grown kk⟩
  have shape : ∀ {i : Nat} {v : Value}, (∃ k x, kvs[i]? = some (k, x) ∧ (PySem.intKind prog w).is k v = true) → ∃ k x t, kvs[i]? = some (k, x) ∧ v = .int k t := by
    rintro i v ⟨k, x, e, hk⟩
    obtain ⟨t, rfl⟩ := Value.isInt_shape hk
    exact ⟨k, x, t, e, rfl⟩
  refine ⟨h1.objs.size, [h1.objs.size, d], [h1.objs.size], kvs.length, (fun i v => ∃ k x, kvs[i]? = some (k, x) ∧ (PySem.intKind prog w).is k v = true), _, rfl, Walks.dictKeys hh h1.objs.size d (Nat.ne_of_lt hlt) kvs ep, (by rw [sizeLine_eq]; omega),
    ⟨⟨_, Heap.get?_push_size _ rfl, rfl, rfl⟩, hat.push _⟩, ?_, ?_, ?_, ?_⟩
  · intro b hb
    show b < (h1.push _).objs.size
    rw [Heap.size_push]
    rcases List.mem_cons.mp hb with rfl | hb
    · exact Nat.lt_succ_self _
    · rw [List.mem_singleton.mp hb]; exact Nat.lt_succ_of_lt hlt
  · rintro C i v s₃ m₃ hC hv hn hm₃ hk ⟨h₃, tk₃, rfl⟩
    obtain ⟨F₃, N₃⟩ := keepF hk
    obtain ⟨k, y, t, e, rfl⟩ := shape hv
    exact hT C k y t h₃ tk₃ m₃ (List.mem_of_getElem? e) hn hm₃ F₃ N₃
  · rintro C i v s₃ m₃ hC hv hpv hn hm₃ hk ⟨h₃, tk₃, rfl⟩
    obtain ⟨F₃, N₃⟩ := keepF hk
    obtain ⟨k, y, t, e, rfl⟩ := shape hv
    exact hE C k y t h₃ tk₃ m₃ (List.mem_of_getElem? e) hpv hn hm₃ F₃ N₃
  · intro D h' tk ys us os hD hpl hos hlen hP hI hk
    obtain ⟨F', N'⟩ := keepF hk
    obtain ⟨nD, hDo⟩ := hpl
    have hLs : L < h1.objs.size := F.ns.lt
    have hDl : h1.objs.size < D := by
      have e : h1.objs.size + 1 ≤ D := by
        have := hD
        rw [show ∀ it : Obj, (h1.push it).objs.size = h1.objs.size + 1 from fun it => Heap.size_push ..] at this
        exact this
      exact e
    have fresh : ∀ a, h1.objs.size ≤ a → a ≠ L ∧ h₀.get? a = none := fun a ha => ⟨Nat.ne_of_gt (Nat.lt_of_lt_of_le hLs ha), by
      cases e : h₀.get? a with
      | none => rfl
      | some o => exact absurd (Heap.lt_size e) (Nat.not_lt.mpr (Nat.le_trans F.above (Nat.le_trans (Nat.le_of_lt hLs) ha)))⟩
    have hIs : IntsAre us (kvs.map (·.1)) := by
      refine ints_of (K := (PySem.intKind prog w).is) (fun k v hk => Value.isInt_shape hk) (by rw [hlen]; simp) fun j v hj => ?_
      obtain ⟨k, y, e, hk⟩ := hP j v hj
      exact ⟨k, by rw [List.getElem?_map, e]; rfl, hk⟩
    refine hQ D h' tk us ys.toList os nD (fun q hq => Nat.lt_trans (Heap.lt_size (N q hq).1) hDl) (fun q hq => (hos q hq).2) F' (fun q hq => ?_) hIs hI
    rcases List.mem_cons.mp hq with rfl | hq
    · exact ⟨by rw [hDo], fresh _ (Nat.le_of_lt hDl)⟩
    · rcases List.mem_append.mp hq with hq | hq
      · exact ⟨(hos q hq).1, fresh _ (Nat.le_of_lt (Nat.lt_trans hDl (hos q hq).2))⟩
      · exact N' q hq
end
end

section
open PySem PySem.W PyProof.Rows PySem.Calls
set_option Elab.async false
set_option maxRecDepth 100000
set_option maxHeartbeats 0
set_option linter.unusedVariables false
def leftp (line : Int) : Value → Bool
  | .int k _ => decide (k ≠ line)
  | _ => true
def LeftG (kvs : List (Int × Value)) (v y : Value) (os : Led) : Prop := ∃ k t T tk' y0, v = .int k t ∧ valueAt kvs k = some y0 ∧ y = .ref T ∧ os = [(T, tupOf #[.int k tk', y0] 0)]
def LeftPost (k : Int) (y0 : Value) (s : Shared) (vs : List Value) (s₁ : Shared) : Prop := ∃ t1 tk, vs = [.int k t1, y0] ∧ s₁ = { s with toks := tk }
theorem tup_left {prog : Program} {w : World} {A : Around} {env : Env} {s : Shared} {kvs : List (Int × Value)} {k : Int} {u : Tok} {y0 : Value} {elts : List Expr} {n : Nat} {pos : Pos} (hv : valueAt kvs k = some y0)
    (h : wpAny (model prog w) A (spliced (backTo pos (starEach elts env))) (LeftPost k y0 s) (fun _ _ => False) s) :
    wpAny (model prog w) A (eval (.Tuple elts n pos) env) (fun y s₄ => ∃ os, LeftG kvs (.int k u) y os ∧ Keeps s s₄ ∧ ∀ q ∈ os, s₄.heap.get? q.1 = some q.2 ∧ s.heap.objs.size ≤ q.1) (fun _ _ => False) s := by
  refine wpAny_Tuple (wpAny_mono h (fun vs s₁ q => ?_) fun _ _ h => h)
  obtain ⟨t1, tk, rfl, rfl⟩ := q
  refine ⟨by rw [sizeLine_eq]; exact Nat.le_of_ble_eq_true rfl, _, ⟨k, u, _, t1, y0, rfl, hv, rfl, rfl⟩, ⟨_, tk, rfl, fun b o e => Heap.get?_push_of_some _ e⟩, fun q hq => ?_⟩
  rw [List.mem_singleton] at hq
  subst hq
  exact ⟨Heap.get?_push_size _ rfl, Nat.le_refl _⟩
theorem ints_left {line : Int} : ∀ {vs : List Value} {kvs : List (Int × Value)}, IntsAre vs (kvs.map (·.1)) → IntsAre (vs.filter (leftp line)) ((without kvs line).map (·.1))
  | _, [], .nil => .nil
  | _, (k, y) :: kvs, .cons _ t h => by
    have ih := ints_left (line := line) h
    unfold without at ih ⊢
    rw [List.filter_cons, List.filter_cons]
    by_cases e : k = line
    · have e1 : leftp line (Value.int k t) = false := by simp [leftp, e]
      have e2 : decide (((k, y) : Int × Value).1 ≠ line) = false := by simp [e]
      rw [e1, e2]; exact ih
    · have e1 : leftp line (Value.int k t) = true := by simp [leftp, e]
      have e2 : decide (((k, y) : Int × Value).1 ≠ line) = true := by simp [e]
      rw [e1, e2]; exact .cons _ _ ih
theorem left_pairs {kvs : List (Int × Value)} {vs ys : List Value} {os : Led} (h : Items (LeftG kvs) vs ys os) : ∀ {ps : List (Int × Value)}, IntsAre vs (ps.map (·.1)) → (∀ q ∈ ps, valueAt kvs q.1 = some q.2) →
    ∀ (j : Nat) v q, ys[j]? = some v → ps[j]? = some q → ∃ a tk, v = .ref a ∧ (a, tupOf #[.int q.1 tk, q.2] 0) ∈ os := by
  induction h with
  | nil => intro ps _ _ j v q hv; simp at hv
  | @snoc vs ys os v0 y o h g ih =>
    intro ps hI hp j v q hv hq
    have hl := h.length
    obtain ⟨n1, n2, e, i1, i2⟩ := ints_split hI
    obtain ⟨p1, p2, rfl, rfl, rfl⟩ := List.map_eq_append_iff.mp e
    have l1 := i1.length
    rw [List.length_map] at l1
    by_cases hj : j < ys.length
    · rw [List.getElem?_append_left hj] at hv
      rw [List.getElem?_append_left (by omega)] at hq
      obtain ⟨a, tk, e1, e2⟩ := ih i1 (fun q hq => hp q (List.mem_append_left _ hq)) j v q hv hq
      exact ⟨a, tk, e1, List.mem_append_right _ e2⟩
    · rw [List.getElem?_append_right (by omega)] at hv
      rw [List.getElem?_append_right (by omega)] at hq
      obtain ⟨k, t, T, tk', y0, rfl, hy, rfl, rfl⟩ := g
      have hj0 : j - ys.length = 0 := by
        rcases Nat.eq_zero_or_pos (j - ys.length) with z | z
        · exact z
        · rw [List.getElem?_eq_none (by simp; omega)] at hv; cases hv
      have hj1 : j - p1.length = 0 := by omega
      rw [hj0] at hv
      rw [hj1] at hq
      cases hv
      cases p2 with
      | nil => cases hq
      | cons q2 p3 =>
        have hq' : q2 = q := by simpa using hq
        subst hq'
        cases i2 with
        | cons _ _ i3 =>
          have := hp q2 (List.mem_append_right _ (.head _))
          rw [this] at hy
          cases hy
          exact ⟨T, tk', rfl, .head _⟩
theorem foldl_stored : ∀ {ps acc : List (Int × Value)}, ((acc ++ ps).map (·.1)).Nodup → ps.foldl (fun a p => stored a p.1 p.2) acc = acc ++ ps
  | [], acc, _ => by simp
  | q :: ps, acc, h => by
    have e : stored acc q.1 q.2 = acc ++ [q] := by
      unfold stored
      rw [if_neg ?_]
      intro hh
      obtain ⟨p, hp, hk⟩ := List.any_eq_true.mp hh
      rw [List.map_append, List.nodup_append] at h
      exact h.2.2 p.1 (List.mem_map_of_mem hp) q.1 (by simp) (by simpa using hk)
    rw [List.foldl_cons, e, foldl_stored (by simpa using h)]
    simp
section
variable {prog : Program} {w : World} {A : Around} {E : Value → Shared → Prop} {s : Shared} {h₀ : Heap} {L D : Addr} {m : Str → Option Value} {led os : Led} {vs ys : List Value} {n : Nat} {kvs : List (Int × Value)} {o : Obj} {line : Int} {Q : Value → Shared → Prop}
theorem kleft (hh : A.handled = none) (F : Fr h₀ L s.heap m) (N : News h₀ L s.heap ((D, listOf (List.toArray ys) n) :: (os ++ led))) (hbig : h₀.NoLimit) (hd : o.IsDictOf (PySem.intKind prog w) kvs) (hlen : kvs.length ≤ 60)
    (hI : IntsAre vs (kvs.map (·.1))) (hit : Items (LeftG kvs) (vs.filter (leftp line)) ys os)
    (k : ∀ DD h' tk o', Fr h₀ L h' m → News h₀ L h' ((DD, o') :: led) → (∀ p ∈ led, p.1 < DD) → (DD == sysModules) = false → o'.IsDictOf (PySem.intKind prog w) (without kvs line) → Q (.ref DD) { s with heap := h', toks := tk }) :
    wpAny (model prog w) A (call (.type "dict") [.ref D]) Q E s := by
  have hnd : (kvs.map (·.1)).Nodup := by obtain ⟨_, _, _, _, _, _, hk0⟩ := hd; exact hk0
  have hI2 := ints_left (line := line) hI
  have hl1 := hit.length
  have hl2 := hI2.length
  rw [List.length_map] at hl2
  have hl3 : (without kvs line).length ≤ kvs.length := List.length_filter_le _ _
  have hv : ∀ q ∈ without kvs line, valueAt kvs q.1 = some q.2 := fun q hq => by
    obtain ⟨i, hi, e⟩ := List.getElem_of_mem (List.mem_filter.mp hq).1
    exact valueAt_of_get hnd (i := i) (k := q.1) (v := q.2) (by rw [List.getElem?_eq_getElem hi, e])
  refine kpairs (vs := ys) (ps := without kvs line) hh F N hbig (.head _) (by omega) (by rw [sizeLine_eq]; omega) (fun j v p hjv hjp => ?_) (fun DD h' tk o' F' N' l lo hd' => ?_)
  · obtain ⟨a, t0, rfl, ha⟩ := left_pairs hit hI2 hv j v p hjv hjp
    exact ⟨a, _, 0, t0, rfl, (N _ (.tail _ (List.mem_append_left _ ha))).1, rfl, rfl⟩
  · rw [foldl_stored (acc := []) (by
      rw [List.nil_append]
      exact (List.Sublist.map (·.1) (List.filter_sublist (l := kvs))).nodup hnd), List.nil_append] at hd'
    refine k DD h' tk o' F' (kst_newsOf N' fun p hp => ?_) (fun p hp => l p (.tail _ (List.mem_append_right _ hp))) lo hd'
    rcases List.mem_cons.mp hp with rfl | hp
    · exact .head _
    · exact .tail _ (.tail _ (List.mem_append_right _ hp))
end
def leftNames : List Str := undoNames ++ [Str.ofString "due", Str.ofString "one", Str.ofString "many"]
abbrev withLeft (mB : Str → Option Value) (lf : Addr) : Str → Option Value := fun y => if y = Str.ofString "left" then some (.ref lf) else mB y
theorem left_map0 {mB f : Str → Option Value} {lf : Addr} : ∃ f', (fun y => if y = Str.ofString "left" then some (Value.ref lf) else upn undoNames mB f y) = upn leftNames (withLeft mB lf) f' :=
  ⟨_, upn_of fun y hy => by
    show (if y = _ then _ else _) = (if y = _ then _ else _)
    by_cases e : y = Str.ofString "left"
    · rw [if_pos e, if_pos e]
    · rw [if_neg e, if_neg e]; exact upn_out fun q => hy (List.mem_append_left _ q)⟩
/-- the loop that leads line by line -/
inductive LeftJ (w : World) (mB : Str → Option Value) (bag sl lf la c3 : Addr) (fx : Led) (Q : Nat → Prg) (l : Addr) (lo : Obj) (i : Nat) (m : Str → Option Value) (led : Led) : Prop
  | mk (hm : ∃ f, m = upn leftNames mB f) (spot : Int) (t : Tok) (nb : Nat) (oL oN : Obj) (cv : Option Value) (R : Prg) (vs : List Value) (rem : List Int) (nl : Nat)
    (h1 : led = (l, lo) :: (bag, listOf #[.ref sl, .int spot t] nb) :: (lf, listOf (List.toArray vs) nl) :: (la, oL) :: (c3, oN) :: fx)
    (h2 : l ≠ bag) (h3 : l ≠ lf) (h4 : l ≠ la) (h5 : l ≠ c3) (h6 : oN.data = .cell cv) (h7 : IntsAre vs rem) (h8 : rem.length + i = 4) (h9 : rem.Nodup) (h10 : ∀ k ∈ rem, k ∈ nums) (h11 : 0 ≤ spot) (h12 : spot ≤ 18 + (i : Int)) (h13 : DictIs w oL R) (h14 : Good R)
    (h15 : ∀ k, get R k = if k ∈ rem then get (Q 6) k else get (Q 0) k)
theorem down4 {i : Nat} {k : Int} (h : [(4 : Int), 3, 2, 1][i]? = some k) : i < 4 ∧ k = ((4 - i : Nat) : Int) := by
  match i with
  | 0 => cases h; decide
  | 1 => cases h; decide
  | 2 => cases h; decide
  | 3 => cases h; decide
  | i + 4 => simp at h
theorem get_off {P : Prg} (g : Good P) {k : Int} (h : k ∉ nums) : get P k = none := by
  cases e : get P k with
  | none => rfl
  | some x => exact absurd (g.lines _ ((get_find g.keys).mp e)).1 h
theorem left_get0 {P Q : Prg} (g : Good P) (g' : Good Q) {k : Int} : get P k = if k ∈ [(10 : Int), 20, 30, 40] then get P k else get Q k := by
  by_cases h : k ∈ [(10 : Int), 20, 30, 40]
  · rw [if_pos h]
  · rw [if_neg h, get_off g h, get_off g' h]
end

section
open PySem PySem.W PyProof.Rows PySem.Calls
set_option Elab.async false
set_option maxRecDepth 100000
set_option maxHeartbeats 0
set_option linter.unusedVariables false
theorem left_due {R P : Prg} {x : Int} {y : Str} (gR : Good R) (gP : Good P) (hx : x ∈ nums) (q : get P x = some y) : Good (put (del R x) x y) ∧ ∀ k, get (put (del R x) x y) k = if k = x then get P k else get R k := by
  refine ⟨put_good (del_good gR) hx (gP.lines _ ((get_find gP.keys).mp q)).2, fun k => ?_⟩
  rw [get_put, get_del]
  by_cases e : k = x
  · rw [if_pos e, if_pos e, e, q]
  · rw [if_neg e, if_neg e, if_neg e]
theorem left_due0 {R P : Prg} {x : Int} (gR : Good R) (q : get P x = none) : Good (del R x) ∧ ∀ k, get (del R x) k = if k = x then get P k else get R k := by
  refine ⟨del_good gR, fun k => ?_⟩
  rw [get_del]
  by_cases e : k = x
  · rw [if_pos e, if_pos e, e, q]
  · rw [if_neg e, if_neg e]
def lineNames : List Str := [Str.ofString "turn", Str.ofString "one", Str.ofString "row"]
/-- one line led back, deed by deed -/
inductive LineJ (w : World) (mB : Str → Option Value) (la : Addr) (fx : Led) (Q : Nat → Prg) (x : Int) (R2 : Prg) (l : Addr) (lo : Obj) (i : Nat) (m : Str → Option Value) (led : Led) : Prop
  | mk (hm : ∃ f, m = upn lineNames mB f) (oL : Obj) (R : Prg) (h1 : led = (l, lo) :: (la, oL) :: fx) (h2 : l ≠ la) (h3 : DictIs w oL R) (h4 : Good R) (h5 : ∀ k, get R k = if k = x then get (Q (6 - i)) x else get R2 k)
def rowNames : List Str := [Str.ofString "one", Str.ofString "row"]
/-- the rows of one deed, of which one line's is entered -/
inductive OneJ (w : World) (mB : Str → Option Value) (la : Addr) (fx : Led) (lt : List Int) (A B : Prg) (x : Int) (R2 : Prg) (j : Nat) (m : Str → Option Value) (led : Led) : Prop
  | mk (hm : ∃ f, m = upn rowNames mB f) (oL : Obj) (R : Prg) (h1 : led = (la, oL) :: fx) (h2 : DictIs w oL R) (h3 : Good R) (h4 : ∀ k, get R k = if k = x then (if x ∈ lt.take j then get A x else get B x) else get R2 k)
theorem one_map0 {mB : Str → Option Value} : ∃ f', mB = upn rowNames mB f' := ⟨_, upn_self⟩
theorem one_map {mB f : Str → Option Value} {a b : Option Value} : ∃ f', (fun y => if y = Str.ofString "row" then a else if y = Str.ofString "one" then b else upn rowNames mB f y) = upn rowNames mB f' :=
  ⟨_, upn_of (upn_put (by decide +kernel) (upn_put (by decide +kernel) (fun y hy => upn_out hy)))⟩
theorem line_map {mB f g : Str → Option Value} {a : Option Value} : ∃ f', upn rowNames (fun y => if y = Str.ofString "turn" then a else upn lineNames mB f y) g = upn lineNames mB f' :=
  ⟨_, upn_of fun y hy => by
    rw [upn_out (fun q => hy (by revert q; unfold rowNames; intro q; simp only [List.mem_cons, List.not_mem_nil, or_false] at q; rcases q with rfl | rfl <;> decide +kernel))]
    exact upn_put (x := Str.ofString "turn") (by decide +kernel) (fun y hy => upn_out hy) y hy⟩
theorem left_map2 {mB f g : Str → Option Value} {a b : Option Value} : ∃ f', upn lineNames (fun y => if y = Str.ofString "due" then a else if y = Str.ofString "many" then b else upn leftNames mB f y) g = upn leftNames mB f' :=
  ⟨_, upn_of fun y hy => by
    rw [upn_out (fun q => hy (by revert q; unfold lineNames; intro q; simp only [List.mem_cons, List.not_mem_nil, or_false] at q; rcases q with rfl | rfl | rfl <;> decide +kernel))]
    exact upn_put (x := Str.ofString "due") (by decide +kernel) (upn_put (x := Str.ofString "many") (by decide +kernel) (fun y hy => upn_out hy)) y hy⟩
section
variable {prog : Program} {w : World} {A : Around} {E : Value → Shared → Prop} {s : Shared} {h₀ : Heap} {L d : Addr} {news : Led} {o : Obj} {kvs : List (Int × Value)} {v : Value}
theorem kdg {value slice : PySem.Expr} {k : Int} {tk : Tok} {Q : Value → Shared → Prop} (N : News h₀ L s.heap news) (hp : (d, o) ∈ news) (hd : o.IsDictOf (PySem.intKind prog w) kvs) (hl : valueAt kvs k = some v) (h : Q v { s with toks := s.toks + 1 })
    (hs : subscripted slice false (.ref d) (.int k tk) = operate [.ref d, .int k tk] (getItem (.ref d) (.int k tk)) := by with_unfolding_all rfl) :
    wpAny (model prog w) A (subscriptTail value slice (.ref d) (.int k tk)) Q E s :=
  have hD := kda_dict N hp hd
  tail_any hD.typeIs PySem.F.slot_dict_getitem.lookup (wpAny_getItem_of (intKind_is _ _ _ _) hD.mapOf hl h) hs
end
theorem one_step {A B R R2 R' : Prg} {lt : List Int} {x : Int} {j : Nat} (hj : lt[j]? = some x) (hR : ∀ k, get R k = if k = x then (if x ∈ lt.take j then get A x else get B x) else get R2 k) (hR' : ∀ k, get R' k = if k = x then get A x else get R k) :
    ∀ k, get R' k = if k = x then (if x ∈ lt.take (j + 1) then get A x else get B x) else get R2 k := by
  intro k
  rw [hR', hR]
  by_cases e : k = x
  · rw [if_pos e, if_pos e, if_pos ((mem_take_succ hj).mpr (.inr rfl))]
  · rw [if_neg e, if_neg e, if_neg e]
theorem one_skip {A B R R2 : Prg} {lt : List Int} {x k7 : Int} {j : Nat} (hj : lt[j]? = some k7) (hne : ¬ k7 = x) (hR : ∀ k, get R k = if k = x then (if x ∈ lt.take j then get A x else get B x) else get R2 k) :
    ∀ k, get R k = if k = x then (if x ∈ lt.take (j + 1) then get A x else get B x) else get R2 k := by
  intro k
  rw [hR]
  by_cases e : k = x
  · rw [if_pos e, if_pos e]
    by_cases q : x ∈ lt.take j
    · rw [if_pos q, if_pos ((mem_take_succ hj).mpr (.inl q))]
    · rw [if_neg q, if_neg (fun z => ((mem_take_succ hj).mp z).elim q (fun z => hne z.symm))]
  · rw [if_neg e, if_neg e]
theorem one_done {A B R R2 : Prg} {lt : List Int} {x : Int} {n : Nat} (s : Step A B lt) (hn : n = lt.length) (hR : ∀ k, get R k = if k = x then (if x ∈ lt.take n then get A x else get B x) else get R2 k) :
    ∀ k, get R k = if k = x then get A x else get R2 k := by
  intro k
  rw [hR, hn, List.take_length]
  by_cases e : k = x
  · rw [if_pos e, if_pos e]
    by_cases q : x ∈ lt
    · rw [if_pos q]
    · rw [if_neg q, s.same x q]
  · rw [if_neg e, if_neg e]
theorem one_has {A B R R2 : Prg} {lt : List Int} {x : Int} {j : Nat} (s : Step A B lt) (hj : lt[j]? = some x) (hR : ∀ k, get R k = if k = x then (if x ∈ lt.take j then get A x else get B x) else get R2 k) : has A x = true ∨ has R x = true := by
  rcases s.some x (List.mem_of_getElem? hj) with q | q
  · exact .inl q
  · refine .inr ?_
    rw [has_get, hR, if_pos rfl, if_neg (not_mem_take s.nodup hj), ← has_get]; exact q
theorem left_next {A B R R2 : Prg} {p1 p2 : List Int} {x : Int} (hn : (p1 ++ x :: p2).Nodup) (hR2 : ∀ k, get R2 k = if k ∈ p1 ++ x :: p2 then get B k else get A k) (hR : ∀ k, get R k = if k = x then get A x else get R2 k) :
    ∀ k, get R k = if k ∈ p1 ++ p2 then get B k else get A k := by
  intro k
  rw [hR, hR2]
  by_cases e : k = x
  · rw [if_pos e, if_neg ?_, e]
    intro q
    rw [e] at q
    rw [List.nodup_append, List.nodup_cons] at hn
    rcases List.mem_append.mp q with q | q
    · exact hn.2.2 x q x (.head _) rfl
    · exact hn.2.1.1 q
  · rw [if_neg e]
    by_cases q : k ∈ p1 ++ p2
    · rw [if_pos q, if_pos]
      rcases List.mem_append.mp q with q | q
      · exact List.mem_append_left _ q
      · exact List.mem_append_right _ (.tail _ q)
    · rw [if_neg q, if_neg]
      intro z
      rcases List.mem_append.mp z with z | z
      · exact q (List.mem_append_left _ z)
      · rcases List.mem_cons.mp z with z | z
        · exact e z
        · exact q (List.mem_append_right _ z)
/-- both ways of an if that change one object alone: what stands behind it is walked once -/
theorem join_at {M : Model} {A : Around} {t : Sem Flow} {Q : Flow → Shared → Prop} {E : Value → Shared → Prop} {s : Shared} {H : Heap} {L D : Addr} {mm : Str → Option Value} {o : Obj} {led : Led}
    (F : Fr H L s.heap mm) (N : News H L s.heap ((D, o) :: led)) (C : Obj → Prop)
    (h1 : ∀ PP : Flow → Shared → Prop, (∀ h' tk' o', Fr H L h' mm → News H L h' ((D, o') :: led) → C o' → PP .next { s with heap := h', toks := tk' }) → wpAny M A t PP E s)
    (h2 : ∀ h' tk' o', Fr H L h' mm → News H L h' ((D, o') :: led) → C o' → Q .next { s with heap := h', toks := tk' }) : wpAny M A t Q E s := h1 Q h2
end

section
open PySem PySem.W PyProof.Rows PySem.Calls
set_option Elab.async false
set_option maxRecDepth 100000
set_option maxHeartbeats 0
set_option linter.unusedVariables false
theorem fresh_Law : True := by w_top off; trivial
local macro_rules | `(tactic| walk_at "call ref") => `(tactic| (k_here; refine hold ?_))
local macro_rules | `(tactic| walk_at "subscriptTail") => `(tactic| (k_here; (with_reducible show wpAny _ _ (subscriptTail _ _ (Value.ref _) (Value.int _ _)) _ _ _); refine hold ?_))
local macro_rules | `(tactic| walk_at "call ref") => `(tactic| (k_here; (with_reducible show wpAny _ _ (call (Value.ref 103) _) _ _ _); k_dflt (refine' program_of_rows_spec _ ?B ?F ?X ?N ?T ?hk ?hm ?hS rows_init ?hl ?hd ?hu ?_; (case B => k_asm); (case F => k_asm); (case X => k_asm); (case N => k_asm); (case T => k_asm); (case hk => exact rfl); (case hm => k_mem); (case hS => exact .cons _ _ (.cons _ _ .nil)); (case hl => decide); (case hd => ktr_room); (case hu => ktr_units)); intro D9 o9 h9 tk9 F9 N9 l9 lo9 d9; rw [P0_enter] at d9; (try dsimp only); (try k_lt l9)))
local macro_rules | `(tactic| walk_at "compareOp NotEq ref ref") => `(tactic| (k_here; refine hold ?_))
local macro_rules | `(tactic| walk_at "compareOp Eq ref ref") => `(tactic| (k_here; refine hold ?_))
local macro_rules | `(tactic| walk_at "call type:dict") => `(tactic| (k_here; (with_reducible show wpAny _ _ (call (Value.type "dict") [Value.ref _]) _ _ _); refine hold ?_))
local macro_rules | `(tactic| walk_at "eval ListComp") => `(tactic| (k_here; refine hold ?_))
local macro_rules | `(tactic| walk_at "compareOp In int ref") => `(tactic| (k_here; refine hold ?_))
local macro_rules | `(tactic| walk_at "setItem ref int") => `(tactic| (k_here; refine hold ?_))
local macro_rules | `(tactic| walk_at "call builtin:list.append") => `(tactic| (k_here; (with_reducible show wpAny _ _ (call (Value.builtin "list.append") [Value.ref _, _]) _ _ _); refine hold ?_))
local macro_rules | `(tactic| walk_at "call builtin:list.pop") => `(tactic| (k_here; refine hold ?_))
local macro_rules | `(tactic| walk_at "exec If") => `(tactic| (k_here; (with_reducible show wpAny _ _ (exec (Stmt.If (Expr.Compare (Expr.Name _ _) [CmpOp.In] _ _) _ _ _) _) _ _ _); refine hold ?_))
local macro_rules | `(tactic| walk_at "exec For Name Call cons nil") => `(tactic| refine hold ?_)
local macro_rules | `(tactic| walk_at "exec For Name Call") => `(tactic| refine hold ?_)
local macro_rules | `(tactic| walk_at "exec For Name Tuple cons nil") => `(tactic| refine hold ?_)
local macro_rules | `(tactic| walk_at "exec For Name Tuple") => `(tactic| refine hold ?_)
local macro_rules | `(tactic| walk_at "exec For Tuple Subscript") => `(tactic| refine hold ?_)
local macro_rules | `(tactic| walk_at "exec For Tuple Subscript cons nil") => `(tactic| refine hold ?_)
local macro_rules | `(tactic| walk_at "exec For Tuple") => `(tactic| refine hold ?_)
local macro_rules | `(tactic| walk_at "exec For") => `(tactic| refine hold ?_)
theorem law_walked : PySem.Challenge.rw_xm0026_01.Holds := by
  refine Mine.hd ?_
  k_go0
  all_goals try k_fold
  all_goals k_steps
  unfold Hold
  k_dflt (refine' kpairs2 rfl ?zyF ?zyN ?zyb ?zyp ?zyh1 ?zyh2 ?zyab ?_; (case zyF => k_asm); (case zyN => k_asm); (case zyb => exact Top.nolimit (by k_asm)); (case zyp => k_mem); (case zyh1 => k_mem); (case zyh2 => k_mem); (case zyab => decide); k_whole)
  intro dd hz9 tz9 do_ Fz9 Nz9 a10 dlo dz9
  obtain ⟨dkv, ddict, drep⟩ := dz9
  have dc : dkv.length ≤ sizeLine := by rw [drep.length, sizeLine_eq]; exact Nat.le_of_ble_eq_true rfl
  k_lt a10
  k_steps
  unfold Hold
  k_dflt (refine' kcopy ?zyF ?zyN ?zyb ?zyp ?zyd ?zyl ?zyz ?_; (case zyF => k_asm); (case zyN => k_asm); (case zyb => exact Top.nolimit (by k_asm)); (case zyp => k_mem); (case zyd => with_reducible assumption); (case zyl => with_reducible assumption); (case zyz => with_reducible assumption); k_whole)
  intro wd hz8 wo Fz8 Nz8 a11 wlo wdict
  k_lt a11
  k_steps
  rename_i w _j1 s1 mg mb _j5 _j6 _j7 _j8 _j9 _j10 _j11 _j12 KX _j14 _j15 _j16 T _j18 _j19 _j20 _j21 _j22 _j23 _j24 _j25 _j26 zs _j28 _j29 _j30 _j31 _j32 _j33 _j34 _j35 ws _j37 _j38 _j39 _j40 _j41 hI _j43 hlen _j45 K0 _j47 _j48 _j49 oc1 oc2 oc3 dc1 dc2 dc3 X0 sl wsl _j59 hIs hCs hLs a1 bag _j65 a2 tx _j68 a3 tp1 _j71 a4 _j73 _j74 _j75 _j76 rw0 _j78 _j79 _j80 a5 pd po _j84 _j85 plo pdict a6 _j89 _j90 tq1 _j92 a7 tq2 _j95 a8 prs _j98 a9 _j110 _j111 wr _j119 a12 bk _j122 a13 tp2 _j125 a14 _j127 _j128 hh F0 N0
  have q1 : @LT.lt Nat _ (s1.heap.objs.size + 1 + 1 + 1) sl := a1.1
  have q2 : @LT.lt Nat _ sl bag := a2.1
  have q3 : @LT.lt Nat _ bag tx := a3.1
  have q4 : @LT.lt Nat _ tx pd := a6.2.2.1
  have q5 : @LT.lt Nat _ pd dd := a10.2.2.2.1
  have q6 : @LT.lt Nat _ dd wd := a11.1
  have q7 : @LT.lt Nat _ wd wr := a12.1
  have q8 : @LT.lt Nat _ wr bk := a13.1
  clear a1 a2 a3 a4 a5 a6 a7 a8 a9 a10 a11 a12 a13 a14 X0
  obtain ⟨m0, F1⟩ : ∃ m0 : Str → Option Value, Fr T.heap s1.heap.objs.size hh (fun y => if y = Str.ofString "were" then some (Value.ref wr) else if y = Str.ofString "backs" then some (Value.ref bk) else if y = Str.ofString "due" then some (Value.ref dd) else if y = Str.ofString "program" then some (Value.ref pd) else if y = Str.ofString "bag" then some (Value.ref bag) else if y = Str.ofString "texts" then some (Value.ref tx) else m0 y) := ⟨_, F0⟩
  obtain ⟨ca, dca⟩ : ∃ c, oc3.data = .cell c := ⟨_, dc3⟩
  obtain ⟨cl, dcl⟩ : ∃ c, oc2.data = .cell c := ⟨_, dc2⟩
  obtain ⟨cn, dcn⟩ : ∃ c, oc1.data = .cell c := ⟨_, dc1⟩
  clear dc1 dc2 dc3 F0 _j79 _j80 _j26 _j28 _j29 _j30 _j31 _j32 _j39 _j40 _j41 _j43 _j45 _j47
  obtain ⟨txv, htx, N1⟩ : ∃ txv : List Value, (∀ i : Int, 0 ≤ i → i < 4 → ∃ x t, txv[i.toNat]? = some (.str x t) ∧ x ∈ raws) ∧ News T.heap s1.heap.objs.size hh ((bag, listOf #[Value.ref sl, Value.int 0 (_j49 + 1)] 0) :: (pd, po) :: (dd, do_) :: (wr, listOf (List.toArray [Value.ref wd]) 0) :: (bk, listOf (List.toArray []) 0) :: ((s1.heap.objs.size + 1), oc3) :: [(wd, wo), (sl, listOf wsl.toArray 0), (tx, listOf txv.toArray 0), ((s1.heap.objs.size + 1 + 1), oc2), ((s1.heap.objs.size + 1 + 1 + 1), oc1)]) :=
    ⟨_, text_at, kst_newsOf N0 (by (repeat (refine sub_cons (by first | with_reducible assumption | (repeat (first | with_reducible exact List.mem_cons_self | (with_reducible assumption) | refine List.mem_cons_of_mem _ ?_ | refine List.mem_append_right _ ?_))) ?_)); first | exact sub_nil | (refine sub_app ?_ ?_ <;> (intro p hp; repeat (first | exact hp | exact List.mem_append_left _ hp | refine List.mem_cons_of_mem _ ?_ | refine List.mem_append_right _ ?_))) | (intro p hp; repeat (first | exact hp | refine List.mem_cons_of_mem _ ?_ | refine List.mem_append_right _ ?_)))⟩
  clear N0
  have J0 : ∀ mB, FwdJ w mB bag sl pd dd wr bk (s1.heap.objs.size + 1) [(sl, listOf wsl.toArray 0), (tx, listOf txv.toArray 0), ((s1.heap.objs.size + 1 + 1), oc2), ((s1.heap.objs.size + 1 + 1 + 1), oc1)] 0 mB ((bag, listOf #[Value.ref sl, Value.int 0 (_j49 + 1)] 0) :: (pd, po) :: (dd, do_) :: (wr, listOf (List.toArray [Value.ref wd]) 0) :: (bk, listOf (List.toArray []) 0) :: ((s1.heap.objs.size + 1), oc3) :: [(wd, wo), (sl, listOf wsl.toArray 0), (tx, listOf txv.toArray 0), ((s1.heap.objs.size + 1 + 1), oc2), ((s1.heap.objs.size + 1 + 1 + 1), oc1)]) := fun mB =>
    ⟨⟨_, upn_self⟩, 0, _, _, _, _, [Value.ref wd], [], _, _, _, _, _, P0, rfl, dca, Int.le_refl _, by decide, pdict, ⟨_, ddict, drep⟩, .nil (.head _) ⟨_, wdict, drep⟩ wlo P0_good (fun _ => rfl), (by (repeat (refine sub_cons (by first | with_reducible assumption | (repeat (first | with_reducible exact List.mem_cons_self | (with_reducible assumption) | refine List.mem_cons_of_mem _ ?_ | refine List.mem_append_right _ ?_))) ?_)); first | exact sub_nil | (refine sub_app ?_ ?_ <;> (intro p hp; repeat (first | exact hp | exact List.mem_append_left _ hp | refine List.mem_cons_of_mem _ ?_ | refine List.mem_append_right _ ?_))) | (intro p hp; repeat (first | exact hp | refine List.mem_cons_of_mem _ ?_ | refine List.mem_append_right _ ?_))), (by (repeat (first | with_reducible assumption | with_reducible exact ne_nil | with_reducible refine ne_cons (by first | with_reducible assumption | exact Ne.symm (by with_reducible assumption) | (show @Ne Nat _ _; omega)) ?_))), (by (repeat (first | with_reducible assumption | with_reducible exact ne_nil | with_reducible refine ne_cons (by first | with_reducible assumption | exact Ne.symm (by with_reducible assumption) | (show @Ne Nat _ _; omega)) ?_))), (by (repeat (first | with_reducible assumption | with_reducible exact ne_nil | with_reducible refine ne_cons (by first | with_reducible assumption | exact Ne.symm (by with_reducible assumption) | (show @Ne Nat _ _; omega)) ?_))), (by (repeat (first | with_reducible assumption | with_reducible exact ne_nil | with_reducible refine ne_cons (by first | with_reducible assumption | exact Ne.symm (by with_reducible assumption) | (show @Ne Nat _ _; omega)) ?_))), (by (repeat (first | with_reducible assumption | with_reducible exact ne_nil | with_reducible refine ne_cons (by first | with_reducible assumption | exact Ne.symm (by with_reducible assumption) | (show @Ne Nat _ _; omega)) ?_))), (by (repeat (first | with_reducible assumption | with_reducible exact ne_nil | with_reducible refine ne_cons (by first | with_reducible assumption | exact Ne.symm (by with_reducible assumption) | (show @Ne Nat _ _; omega)) ?_)))⟩
  clear pdict ddict drep wdict wlo dc dca
  unfold Hold
  refine for_rng0 (n := 6) (h₀ := T.heap) (L := s1.heap.objs.size) (by decide +kernel) (by decide +kernel) (FwdJ w (fun y => if y = Str.ofString "were" then some (Value.ref wr) else if y = Str.ofString "backs" then some (Value.ref bk) else if y = Str.ofString "due" then some (Value.ref dd) else if y = Str.ofString "program" then some (Value.ref pd) else if y = Str.ofString "bag" then some (Value.ref bag) else if y = Str.ofString "texts" then some (Value.ref tx) else m0 y) bag sl pd dd wr bk (s1.heap.objs.size + 1) [(sl, listOf wsl.toArray 0), (tx, listOf txv.toArray 0), ((s1.heap.objs.size + 1 + 1), oc2), ((s1.heap.objs.size + 1 + 1 + 1), oc1)]) F1 N1 (J0 _) ?hev ?turn ?done
  case hev =>
    k_steps
    rename_i kp b o e
    exact kp b o e
  case turn =>
    rintro i v tk' m₁ led₁ I io h tk hi rfl ⟨⟨f, rfl⟩, spot, t, nb, o, u, W, K, nW, nK, oA, ca, rest, P, rfl, dA, hs0, hs1, dP, dU, hH, hfx, r1, r2, r3, r4, r5, r6⟩ hI F N PP hPP
    clear F1 N1 J0
    have msl := hfx _ (.head _)
    have mtx := hfx _ (.tail _ (.head _))
    have i1 : bag ≠ I := hI _ (.head _)
    have i2 : pd ≠ I := hI _ (.tail _ (.head _))
    have i3 : dd ≠ I := hI _ (.tail _ (.tail _ (.head _)))
    have i4 : wr ≠ I := hI _ (.tail _ (.tail _ (.tail _ (.head _))))
    have i5 : bk ≠ I := hI _ (.tail _ (.tail _ (.tail _ (.tail _ (.head _)))))
    have i6 : (s1.heap.objs.size + 1) ≠ I := hI _ (.tail _ (.tail _ (.tail _ (.tail _ (.tail _ (.head _))))))
    have ir : ∀ p ∈ rest, p.1 ≠ I := fun p hp => hI _ (.tail _ (.tail _ (.tail _ (.tail _ (.tail _ (.tail _ hp))))))
    clear hI
    k_steps
    rename_i h1 F2 N2
    unfold Hold
    refine' law_typed_spec w (ws := wsl) (zs := List.take 21 zs) (q := sl) (spot := spot) (news := ((I, io) :: (pd, o) :: (dd, u) :: (wr, listOf W.toArray nW) :: (bk, listOf K.toArray nK) :: ((s1.heap.objs.size + 1), oA) :: rest)) K0 F2 KX T ?hk (kst_newsOf N2 (by (repeat (refine sub_cons (by first | with_reducible assumption | (repeat (first | with_reducible exact List.mem_cons_self | (with_reducible assumption) | refine List.mem_cons_of_mem _ ?_ | refine List.mem_append_right _ ?_))) ?_)); first | exact sub_nil | (refine sub_app ?_ ?_ <;> (intro p hp; repeat (first | exact hp | exact List.mem_append_left _ hp | refine List.mem_cons_of_mem _ ?_ | refine List.mem_append_right _ ?_))) | (intro p hp; repeat (first | exact hp | refine List.mem_cons_of_mem _ ?_ | refine List.mem_append_right _ ?_)))) ?hbq (by (repeat (first | with_reducible assumption | with_reducible exact ne_nil | with_reducible refine ne_cons (by first | with_reducible assumption | exact Ne.symm (by with_reducible assumption) | (show @Ne Nat _ _; omega)) ?_))) hIs ?hz (by omega) (by omega) (by decide) (by decide) ?hd ?hu ?_
    case hk => exact rfl
    case hbq => exact Nat.ne_of_gt q2
    case hz => omega
    case hd => ktr_room
    case hu => ktr_units
    intro fm tfm ufm h2 tkh2 f0 f5 F3 N3
    k_steps
    unfold Hold
    refine' law_typed_spec w (ws := wsl) (zs := List.take 21 zs) (q := sl) (spot := (spot + 1)) (news := ((I, io) :: (pd, o) :: (dd, u) :: (wr, listOf W.toArray nW) :: (bk, listOf K.toArray nK) :: ((s1.heap.objs.size + 1), oA) :: rest)) K0 F3 KX T ?hk (kst_newsOf N3 (by (repeat (refine sub_cons (by first | with_reducible assumption | (repeat (first | with_reducible exact List.mem_cons_self | (with_reducible assumption) | refine List.mem_cons_of_mem _ ?_ | refine List.mem_append_right _ ?_))) ?_)); first | exact sub_nil | (refine sub_app ?_ ?_ <;> (intro p hp; repeat (first | exact hp | exact List.mem_append_left _ hp | refine List.mem_cons_of_mem _ ?_ | refine List.mem_append_right _ ?_))) | (intro p hp; repeat (first | exact hp | refine List.mem_cons_of_mem _ ?_ | refine List.mem_append_right _ ?_)))) ?hbq (by (repeat (first | with_reducible assumption | with_reducible exact ne_nil | with_reducible refine ne_cons (by first | with_reducible assumption | exact Ne.symm (by with_reducible assumption) | (show @Ne Nat _ _; omega)) ?_))) hIs ?hz (by omega) (by omega) (by decide) (by decide) ?hd ?hu ?_
    case hk => exact rfl
    case hbq => exact Nat.ne_of_gt q2
    case hz => omega
    case hd => ktr_room
    case hu => ktr_units
    intro nr tnr unr h3 tkh3 n0 n4 F4 N4
    k_steps
    unfold Hold
    refine' law_typed_spec w (ws := wsl) (zs := List.take 21 zs) (q := sl) (spot := (spot + 1 + 1)) (news := ((I, io) :: (pd, o) :: (dd, u) :: (wr, listOf W.toArray nW) :: (bk, listOf K.toArray nK) :: ((s1.heap.objs.size + 1), oA) :: rest)) K0 F4 KX T ?hk (kst_newsOf N4 (by (repeat (refine sub_cons (by first | with_reducible assumption | (repeat (first | with_reducible exact List.mem_cons_self | (with_reducible assumption) | refine List.mem_cons_of_mem _ ?_ | refine List.mem_append_right _ ?_))) ?_)); first | exact sub_nil | (refine sub_app ?_ ?_ <;> (intro p hp; repeat (first | exact hp | exact List.mem_append_left _ hp | refine List.mem_cons_of_mem _ ?_ | refine List.mem_append_right _ ?_))) | (intro p hp; repeat (first | exact hp | refine List.mem_cons_of_mem _ ?_ | refine List.mem_append_right _ ?_)))) ?hbq (by (repeat (first | with_reducible assumption | with_reducible exact ne_nil | with_reducible refine ne_cons (by first | with_reducible assumption | exact Ne.symm (by with_reducible assumption) | (show @Ne Nat _ _; omega)) ?_))) hIs ?hz (by omega) (by omega) (by decide) (by decide) ?hd ?hu ?_
    case hk => exact rfl
    case hbq => exact Nat.ne_of_gt q2
    case hz => omega
    case hd => ktr_room
    case hu => ktr_units
    intro wh twh uwh h4 tkh4 w0 w4 F5 N5
    k_steps
    rename_i tp ht l1 ha hb hc hd6 F6 N6
    clear l1
    obtain ⟨x, tx0, hx, hxr⟩ := htx wh w0 w4
    have hnum := num_of n0 n4
    have gP := hH.good
    have lP := gP.length
    have N6' : News T.heap s1.heap.objs.size _ ((pd, o) :: ((I, io) :: (bag, listOf #[Value.ref sl, Value.int (spot + 1 + 1 + 1) uwh] nb) :: (dd, u) :: (wr, listOf W.toArray nW) :: (bk, listOf K.toArray nK) :: ((s1.heap.objs.size + 1), oA) :: rest)) := kst_newsOf N6 (by (repeat (refine sub_cons (by first | with_reducible assumption | (repeat (first | with_reducible exact List.mem_cons_self | (with_reducible assumption) | refine List.mem_cons_of_mem _ ?_ | refine List.mem_append_right _ ?_))) ?_)); first | exact sub_nil | (refine sub_app ?_ ?_ <;> (intro p hp; repeat (first | exact hp | exact List.mem_append_left _ hp | refine List.mem_cons_of_mem _ ?_ | refine List.mem_append_right _ ?_))) | (intro p hp; repeat (first | exact hp | refine List.mem_cons_of_mem _ ?_ | refine List.mem_append_right _ ?_)))
    clear N6
    unfold Hold
    refine kget N6' (by (repeat (first | with_reducible exact List.mem_cons_self | (with_reducible assumption) | refine List.mem_cons_of_mem _ ?_ | refine List.mem_append_right _ ?_))) w0 (by omega) hx ?_
    k_steps
    unfold Hold
    refine' law_do_spec w (outer := []) (P := P) K0 F6 KX T ?hk KX T N6' (by (repeat (first | with_reducible assumption | with_reducible exact ne_nil | with_reducible refine ne_cons (by first | with_reducible assumption | exact Ne.symm (by with_reducible assumption) | (show @Ne Nat _ _; omega)) ?_))) dP ?hlen plo ?hn0 ?hn1 (raw_len _ hxr) (fun _ => row_raw _ hnum _ hxr) (fun _ => row_alone _ hnum) ?_ ?hd ?hu
    case hk => exact rfl
    case hlen => omega
    case hn0 => omega
    case hn1 => omega
    case hd => ktr_room
    case hu => ktr_units
    intro h7 o2 tk7 t7 P2 c7 hdeed F7 N7 dP2
    k_steps
    rename_i F8 N8
    unfold Hold
    refine kget N8 (by (repeat (first | with_reducible exact List.mem_cons_self | (with_reducible assumption) | refine List.mem_cons_of_mem _ ?_ | refine List.mem_append_right _ ?_))) w0 (by omega) hx ?_
    k_steps
    unfold Hold
    refine' law_own_spec w (outer := []) (P := P) K0 F8 KX T ?hk (kst_newsOf N8 (by (repeat (refine sub_cons (by first | with_reducible assumption | (repeat (first | with_reducible exact List.mem_cons_self | (with_reducible assumption) | refine List.mem_cons_of_mem _ ?_ | refine List.mem_append_right _ ?_))) ?_)); first | exact sub_nil | (refine sub_app ?_ ?_ <;> (intro p hp; repeat (first | exact hp | exact List.mem_append_left _ hp | refine List.mem_cons_of_mem _ ?_ | refine List.mem_append_right _ ?_))) | (intro p hp; repeat (first | exact hp | refine List.mem_cons_of_mem _ ?_ | refine List.mem_append_right _ ?_))) : News T.heap s1.heap.objs.size _ ((dd, u) :: ((I, io) :: (bag, listOf #[Value.ref sl, Value.int (spot + 1 + 1 + 1) uwh] nb) :: (pd, o2) :: (wr, listOf W.toArray nW) :: (bk, listOf K.toArray nK) :: ((s1.heap.objs.size + 1), oA) :: rest))) (by (repeat (first | with_reducible assumption | with_reducible exact ne_nil | with_reducible refine ne_cons (by first | with_reducible assumption | exact Ne.symm (by with_reducible assumption) | (show @Ne Nat _ _; omega)) ?_))) dU ?hlen dlo (raw_len _ hxr) ?hd ?hu ?_
    case hk => exact rfl
    case hlen => omega
    case hd => ktr_room
    case hu => ktr_units
    intro T9 G9 ys9 n9 u2 h9 tk9 t9 P3 lines c9 hown F9 N9 I9 dU2 ltG ltT
    have hdo := deed_own (f := fm) (n := 10 + 10 * nr) (l := 10 + 10 * nr + 10 * wh) (x := x) gP.keys
    rw [hdeed, hown] at hdo
    obtain ⟨rfl, rfl⟩ := Prod.mk.inj hdo
    have g1 : @LT.lt Nat _ dd G9 := ltG _ (.head _)
    have g2 : @LT.lt Nat _ I G9 := ltG _ (.tail _ (.head _))
    have g3 : @LT.lt Nat _ bag G9 := ltG _ (.tail _ (.tail _ (.head _)))
    have g4 : @LT.lt Nat _ pd G9 := ltG _ (.tail _ (.tail _ (.tail _ (.head _))))
    have g5 : @LT.lt Nat _ wr G9 := ltG _ (.tail _ (.tail _ (.tail _ (.tail _ (.head _)))))
    have g6 : @LT.lt Nat _ bk G9 := ltG _ (.tail _ (.tail _ (.tail _ (.tail _ (.tail _ (.head _))))))
    have g7 : @LT.lt Nat _ (s1.heap.objs.size + 1) G9 := ltG _ (.tail _ (.tail _ (.tail _ (.tail _ (.tail _ (.tail _ (.head _)))))))
    have g8 : ∀ p ∈ rest, p.1 < G9 := fun p hp => ltG _ (.tail _ (.tail _ (.tail _ (.tail _ (.tail _ (.tail _ (.tail _ hp)))))))
    clear ltG
    k_steps
    · rename_i hc
      simp at hc
    rename_i F10 N10 hc
    clear hc
    have gP2 : Good P2 := by have q := own_good (f := fm) (n := 10 + 10 * nr) (l := 10 + 10 * nr + 10 * wh) gP hnum hxr; rw [hown] at q; exact q
    have sP2 : Step P P2 lines := by have q := own_step (f := fm) (n := 10 + 10 * nr) (l := 10 + 10 * nr + 10 * wh) (x := x) gP.keys; rw [hown] at q; exact q
    have nP2 : ∀ k ∈ lines, k ∈ nums := fun k hk => by have q := own_nums (f := fm) (n := 10 + 10 * nr) (l := 10 + 10 * nr + 10 * wh) (x := x) (k := k) gP hnum; rw [hown] at q; exact q hk
    have lP2 := gP2.length
    unfold Hold
    refine' law_same_spec w (outer := []) K0 F10 KX T ?hk (kst_newsOf N10 (by (repeat (refine sub_cons (by first | with_reducible assumption | (repeat (first | with_reducible exact List.mem_cons_self | (with_reducible assumption) | refine List.mem_cons_of_mem _ ?_ | refine List.mem_append_right _ ?_))) ?_)); first | exact sub_nil | (refine sub_app ?_ ?_ <;> (intro p hp; repeat (first | exact hp | exact List.mem_append_left _ hp | refine List.mem_cons_of_mem _ ?_ | refine List.mem_append_right _ ?_))) | (intro p hp; repeat (first | exact hp | refine List.mem_cons_of_mem _ ?_ | refine List.mem_append_right _ ?_))) : News T.heap s1.heap.objs.size _ ((pd, o2) :: (dd, u2) :: (G9, listOf (List.toArray ys9) n9) :: (I, io) :: (bag, listOf #[Value.ref sl, Value.int (spot + 1 + 1 + 1) uwh] nb) :: (wr, listOf W.toArray nW) :: (bk, listOf K.toArray nK) :: ((s1.heap.objs.size + 1), oA) :: rest)) dP2 dU2 (List.Perm.refl _) (fun p hp => (gP2.fine p hp).toLineOk) ?hlen plo dlo ?hd ?hu ?_
    case hk => exact rfl
    case hlen => omega
    case hd => ktr_room
    case hu => ktr_units
    intro h11 tk11 F11 N11
    clear hdo hown hdeed
    k_steps
    unfold Hold
    obtain ⟨aw, ow, hlast, mW, dW, lW⟩ := hH.last
    refine kgetn N11 (by (repeat (first | with_reducible exact List.mem_cons_self | (with_reducible assumption) | refine List.mem_cons_of_mem _ ?_ | refine List.mem_append_right _ ?_))) rfl hlast ?_
    k_steps
    refine' storeX_C F11 (kst_newsOf N11 (by (repeat (refine sub_cons (by first | with_reducible assumption | (repeat (first | with_reducible exact List.mem_cons_self | (with_reducible assumption) | refine List.mem_cons_of_mem _ ?_ | refine List.mem_append_right _ ?_))) ?_)); first | exact sub_nil | (refine sub_app ?_ ?_ <;> (intro p hp; repeat (first | exact hp | exact List.mem_append_left _ hp | refine List.mem_cons_of_mem _ ?_ | refine List.mem_append_right _ ?_))) | (intro p hp; repeat (first | exact hp | refine List.mem_cons_of_mem _ ?_ | refine List.mem_append_right _ ?_))) : News T.heap s1.heap.objs.size _ (((s1.heap.objs.size + 1), oA) :: (pd, o2) :: (dd, u2) :: (G9, listOf (List.toArray ys9) n9) :: (I, io) :: (bag, listOf #[Value.ref sl, Value.int (spot + 1 + 1 + 1) uwh] nb) :: (wr, listOf W.toArray nW) :: (bk, listOf K.toArray nK) :: rest)) rfl (UpdF.head (by (repeat (first | with_reducible assumption | with_reducible exact ne_nil | with_reducible refine ne_cons (by first | with_reducible assumption | exact Ne.symm (by with_reducible assumption) | (show @Ne Nat _ _; omega)) ?_)))) dA ?_ rfl rfl
    intro h12 oA2 F12 N12 dA2
    k_steps
    unfold Hold
    refine' comp_list (h₀ := T.heap) (L := s1.heap.objs.size) (fun v => true) (fun v y os => ∃ k tk T tk' ts, v = .int k tk ∧ y = .ref T ∧ os = [(T, tupOf #[.int k tk', .str (back P k) ts] 0)]) ?zhclos ?zhcell ?zhkind ?zhnames ?zhx ?zhh ?zgoal
    case zhclos => with_unfolding_all rfl
    case zhcell => decide
    case zhkind => rfl
    case zhnames => decide
    case zhx => rfl
    case zhh => rfl
    case zgoal =>
      walk1
      refine ⟨G9, ys9, n9, h12, _, _, _, rfl, rfl, F12, N12, (by (repeat (first | with_reducible exact List.mem_cons_self | (with_reducible assumption) | refine List.mem_cons_of_mem _ ?_ | refine List.mem_append_right _ ?_))), ?_, ?_, ?_, ?_⟩
      · have e1 := I9.length
        have e2 := nums_len sP2.nodup nP2
        omega
      · intro C v h₃ tk₃ m₃ hv hn hm F₃ N₃
        k_steps
        exact keeps_toks
      · intro C v h₃ tk₃ m₃ hv hpv hn hm F₃ N₃
        obtain ⟨k, u0, rfl, hk⟩ := ints_mem I9 hv
        have hkb := nums_lim (nP2 k hk)
        obtain ⟨hk1, hk2⟩ := hkb
        obtain ⟨kva, hDa, hRa⟩ := dW
        clear F10 N10 F11 N11 F12 N12
        refine tup_pair ?_
        k_steps
        unfold Hold
        rcases hRa.at k with ⟨y, ty, e, q, hq⟩ | ⟨e, q, hq⟩
        · refine kda_in N₃ (by (repeat (first | with_reducible exact List.mem_cons_self | (with_reducible assumption) | refine List.mem_cons_of_mem _ ?_ | refine List.mem_append_right _ ?_))) hDa lW (intKind_is _ _ _ _) true (by rw [e]; rfl) ?_
          have hyl := txt_len _ (gP.lines _ ((get_find gP.keys).mp q)).2
          k_steps
          unfold Hold
          refine kda_item N₃ (by (repeat (first | with_reducible exact List.mem_cons_self | (with_reducible assumption) | refine List.mem_cons_of_mem _ ?_ | refine List.mem_append_right _ ?_))) hDa (intKind_is _ _ _ _) e ?_
          k_steps
          exact ⟨_, _, _, by rw [back_yes q hq], rfl⟩
        · refine kda_in N₃ (by (repeat (first | with_reducible exact List.mem_cons_self | (with_reducible assumption) | refine List.mem_cons_of_mem _ ?_ | refine List.mem_append_right _ ?_))) hDa lW (intKind_is _ _ _ _) false (by rw [e]; rfl) ?_
          k_steps
          exact ⟨_, _, _, by rw [back_no hq], rfl⟩
      · intro D h' tk ys os n lD los F₄ N₄ hit
        rw [List.filter_eq_self.mpr (fun _ _ => rfl)] at hit
        have hit2 := pairs_of I9 hit
        clear hit
        clear dP dU
        have e1 : @LT.lt Nat _ (s1.heap.objs.size + 1) D := lD _ (.head _)
        have e2 : @LT.lt Nat _ pd D := lD _ (.tail _ (.head _))
        have e3 : @LT.lt Nat _ dd D := lD _ (.tail _ (.tail _ (.head _)))
        have e4 : @LT.lt Nat _ I D := lD _ (.tail _ (.tail _ (.tail _ (.tail _ (.head _)))))
        have e5 : @LT.lt Nat _ bag D := lD _ (.tail _ (.tail _ (.tail _ (.tail _ (.tail _ (.head _))))))
        have e6 : @LT.lt Nat _ wr D := lD _ (.tail _ (.tail _ (.tail _ (.tail _ (.tail _ (.tail _ (.head _)))))))
        have e7 : @LT.lt Nat _ bk D := lD _ (.tail _ (.tail _ (.tail _ (.tail _ (.tail _ (.tail _ (.tail _ (.head _))))))))
        obtain ⟨rest2, mD, sR, sO, r1', r2', r3', r4', r5', r6', ir', N13⟩ : ∃ rest2 : Led, (D, listOf (List.toArray ys) n) ∈ rest2 ∧ (∀ p ∈ rest, p ∈ rest2) ∧ (∀ p ∈ os, p ∈ rest2) ∧
            (∀ p ∈ rest2, p.1 ≠ bag) ∧ (∀ p ∈ rest2, p.1 ≠ pd) ∧ (∀ p ∈ rest2, p.1 ≠ dd) ∧ (∀ p ∈ rest2, p.1 ≠ wr) ∧ (∀ p ∈ rest2, p.1 ≠ bk) ∧ (∀ p ∈ rest2, p.1 ≠ (s1.heap.objs.size + 1)) ∧ (∀ p ∈ rest2, p.1 ≠ I) ∧
            News T.heap s1.heap.objs.size h' ((bk, listOf K.toArray nK) :: (I, io) :: (bag, listOf #[Value.ref sl, Value.int (spot + 1 + 1 + 1) uwh] nb) :: (pd, o2) :: (dd, u2) :: (wr, listOf W.toArray nW) :: ((s1.heap.objs.size + 1), oA2) :: rest2) :=
          ⟨(D, listOf (List.toArray ys) n) :: (os ++ rest), .head _, fun p hp => .tail _ (List.mem_append_right _ hp), fun p hp => .tail _ (List.mem_append_left _ hp),
            ne_cons (Nat.ne_of_gt e5) (app_ne (gt_ne e5 los) r1), ne_cons (Nat.ne_of_gt e2) (app_ne (gt_ne e2 los) r2), ne_cons (Nat.ne_of_gt e3) (app_ne (gt_ne e3 los) r3), ne_cons (Nat.ne_of_gt e6) (app_ne (gt_ne e6 los) r4),
            ne_cons (Nat.ne_of_gt e7) (app_ne (gt_ne e7 los) r5), ne_cons (Nat.ne_of_gt e1) (app_ne (gt_ne e1 los) r6), ne_cons (Nat.ne_of_gt e4) (app_ne (gt_ne e4 los) ir), kst_newsOf N₄ (by (repeat (refine sub_cons (by first | with_reducible assumption | (repeat (first | with_reducible exact List.mem_cons_self | (with_reducible assumption) | refine List.mem_cons_of_mem _ ?_ | refine List.mem_append_right _ ?_))) ?_)); first | exact sub_nil | (refine sub_app ?_ ?_ <;> (intro p hp; repeat (first | exact hp | exact List.mem_append_left _ hp | refine List.mem_cons_of_mem _ ?_ | refine List.mem_append_right _ ?_))) | (intro p hp; repeat (first | exact hp | refine List.mem_cons_of_mem _ ?_ | refine List.mem_append_right _ ?_)))⟩
        clear N₄ F12 N12 F10 N10 F11 N11
        have hK := hH.lenK
        have hW := hH.lenW
        have e1 := I9.length
        have e2 := nums_len sP2.nodup nP2
        have e3 := hit2.length
        k_steps
        unfold Hold
        refine kapp F₄ N13 (by (repeat (first | with_reducible assumption | with_reducible exact ne_nil | with_reducible refine ne_cons (by first | with_reducible assumption | exact Ne.symm (by with_reducible assumption) | (show @Ne Nat _ _; omega)) ?_))) (by omega) (fun h14 F14 N14 => ?_)
        clear F₄ N13
        k_steps
        unfold Hold
        obtain ⟨kvu, hDu, hRu⟩ := dU2
        refine kcopy F14 N14 (Top.nolimit T) (by (repeat (first | with_reducible exact List.mem_cons_self | (with_reducible assumption) | refine List.mem_cons_of_mem _ ?_ | refine List.mem_append_right _ ?_))) hDu dlo (by rw [sizeLine_eq, hRu.length]; omega) (fun D8 h15 o8 F15 N15 l8 lo8 d8 => ?_)
        clear F14 N14
        k_steps
        have b1 : @LT.lt Nat _ bk D8 := l8 _ (.head _)
        have b2 : @LT.lt Nat _ I D8 := l8 _ (.tail _ (.head _))
        have b3 : @LT.lt Nat _ bag D8 := l8 _ (.tail _ (.tail _ (.head _)))
        have b4 : @LT.lt Nat _ pd D8 := l8 _ (.tail _ (.tail _ (.tail _ (.head _))))
        have b5 : @LT.lt Nat _ dd D8 := l8 _ (.tail _ (.tail _ (.tail _ (.tail _ (.head _)))))
        have b6 : @LT.lt Nat _ wr D8 := l8 _ (.tail _ (.tail _ (.tail _ (.tail _ (.tail _ (.head _))))))
        have b7 : @LT.lt Nat _ (s1.heap.objs.size + 1) D8 := l8 _ (.tail _ (.tail _ (.tail _ (.tail _ (.tail _ (.tail _ (.head _)))))))
        unfold Hold
        refine kapp F15 (kst_newsOf N15 (by (repeat (refine sub_cons (by first | with_reducible assumption | (repeat (first | with_reducible exact List.mem_cons_self | (with_reducible assumption) | refine List.mem_cons_of_mem _ ?_ | refine List.mem_append_right _ ?_))) ?_)); first | exact sub_nil | (refine sub_app ?_ ?_ <;> (intro p hp; repeat (first | exact hp | exact List.mem_append_left _ hp | refine List.mem_cons_of_mem _ ?_ | refine List.mem_append_right _ ?_))) | (intro p hp; repeat (first | exact hp | refine List.mem_cons_of_mem _ ?_ | refine List.mem_append_right _ ?_))) : News T.heap s1.heap.objs.size _ ((wr, listOf W.toArray nW) :: (I, io) :: (bag, listOf #[Value.ref sl, Value.int (spot + 1 + 1 + 1) uwh] nb) :: (pd, o2) :: (dd, u2) :: (bk, listOf (K ++ [Value.ref D]).toArray (nK + 1)) :: ((s1.heap.objs.size + 1), oA2) :: (D8, o8) :: rest2)) (by (repeat (first | with_reducible assumption | with_reducible exact ne_nil | with_reducible refine ne_cons (by first | with_reducible assumption | exact Ne.symm (by with_reducible assumption) | (show @Ne Nat _ _; omega)) ?_))) (by omega) (fun h16 F16 N16 => ?_)
        clear F15 N15
        k_steps
        have hH2 := Hist.snoc (hH.mono (R' := (D8, o8) :: rest2) fun p hp => .tail _ (sR p hp)) gP2 sP2 nP2 (.tail _ mD) (hit2.mono fun p hp => .tail _ (sO p hp)) (by omega) (.head _) ⟨_, d8, hRu⟩ lo8
        have N17 := (kst_newsOf N16 (by (repeat (refine sub_cons (by first | with_reducible assumption | (repeat (first | with_reducible exact List.mem_cons_self | (with_reducible assumption) | refine List.mem_cons_of_mem _ ?_ | refine List.mem_append_right _ ?_))) ?_)); first | exact sub_nil | (refine sub_app ?_ ?_ <;> (intro p hp; repeat (first | exact hp | exact List.mem_append_left _ hp | refine List.mem_cons_of_mem _ ?_ | refine List.mem_append_right _ ?_))) | (intro p hp; repeat (first | exact hp | refine List.mem_cons_of_mem _ ?_ | refine List.mem_append_right _ ?_))) : News T.heap s1.heap.objs.size _ ((I, io) :: (bag, listOf #[Value.ref sl, Value.int (spot + 1 + 1 + 1) uwh] nb) :: (pd, o2) :: (dd, u2) :: (wr, listOf (W ++ [Value.ref D8]).toArray (nW + 1)) :: (bk, listOf (K ++ [Value.ref D]).toArray (nK + 1)) :: ((s1.heap.objs.size + 1), oA2) :: (D8, o8) :: rest2))
        have hfx2 : ∀ p ∈ [(sl, listOf wsl.toArray 0), (tx, listOf txv.toArray 0), ((s1.heap.objs.size + 1 + 1), oc2), ((s1.heap.objs.size + 1 + 1 + 1), oc1)], p ∈ (D8, o8) :: rest2 := fun p hp => .tail _ (sR p (hfx p hp))
        have z1 : ∀ p ∈ (D8, o8) :: rest2, p.1 ≠ bag := (by (repeat (first | with_reducible assumption | with_reducible exact ne_nil | with_reducible refine ne_cons (by first | with_reducible assumption | exact Ne.symm (by with_reducible assumption) | (show @Ne Nat _ _; omega)) ?_)))
        have z2 : ∀ p ∈ (D8, o8) :: rest2, p.1 ≠ pd := (by (repeat (first | with_reducible assumption | with_reducible exact ne_nil | with_reducible refine ne_cons (by first | with_reducible assumption | exact Ne.symm (by with_reducible assumption) | (show @Ne Nat _ _; omega)) ?_)))
        have z3 : ∀ p ∈ (D8, o8) :: rest2, p.1 ≠ dd := (by (repeat (first | with_reducible assumption | with_reducible exact ne_nil | with_reducible refine ne_cons (by first | with_reducible assumption | exact Ne.symm (by with_reducible assumption) | (show @Ne Nat _ _; omega)) ?_)))
        have z4 : ∀ p ∈ (D8, o8) :: rest2, p.1 ≠ wr := (by (repeat (first | with_reducible assumption | with_reducible exact ne_nil | with_reducible refine ne_cons (by first | with_reducible assumption | exact Ne.symm (by with_reducible assumption) | (show @Ne Nat _ _; omega)) ?_)))
        have z5 : ∀ p ∈ (D8, o8) :: rest2, p.1 ≠ bk := (by (repeat (first | with_reducible assumption | with_reducible exact ne_nil | with_reducible refine ne_cons (by first | with_reducible assumption | exact Ne.symm (by with_reducible assumption) | (show @Ne Nat _ _; omega)) ?_)))
        have z6 : ∀ p ∈ (D8, o8) :: rest2, p.1 ≠ (s1.heap.objs.size + 1) := (by (repeat (first | with_reducible assumption | with_reducible exact ne_nil | with_reducible refine ne_cons (by first | with_reducible assumption | exact Ne.symm (by with_reducible assumption) | (show @Ne Nat _ _; omega)) ?_)))
        have hn2 : ∀ p ∈ ((bag, listOf #[Value.ref sl, Value.int (spot + 1 + 1 + 1) uwh] nb) :: (pd, o2) :: (dd, u2) :: (wr, listOf (W ++ [Value.ref D8]).toArray (nW + 1)) :: (bk, listOf (K ++ [Value.ref D]).toArray (nK + 1)) :: ((s1.heap.objs.size + 1), oA2) :: (D8, o8) :: rest2), p.1 ≠ I := (by (repeat (first | with_reducible assumption | with_reducible exact ne_nil | with_reducible refine ne_cons (by first | with_reducible assumption | exact Ne.symm (by with_reducible assumption) | (show @Ne Nat _ _; omega)) ?_)))
        refine hPP _ _ (ForPost.mk F16 N17 hn2 ?_)
        exact fwd_next fwd_map dA2 (by omega) (by omega) dP2 ⟨_, hDu, hRu⟩ hH2 hfx2 z1 z2 z3 z4 z5 z6
  case done =>
    rintro h tk m led ⟨⟨f, rfl⟩, spot, t, nb, o, u, W, K, nW, nK, oA, ca, rest, P, rfl, dA, hs0, hs1, dP, dU, hH, hfx, r1, r2, r3, r4, r5, r6⟩ F N
    clear F1 N1 J0
    obtain ⟨rs, Nrs, srs, rc2, rc3, krs⟩ := News.without2 (kst_newsOf N (by (repeat (refine sub_cons (by first | with_reducible assumption | (repeat (first | with_reducible exact List.mem_cons_self | (with_reducible assumption) | refine List.mem_cons_of_mem _ ?_ | refine List.mem_append_right _ ?_))) ?_)); first | exact sub_nil | (refine sub_app ?_ ?_ <;> (intro p hp; repeat (first | exact hp | exact List.mem_append_left _ hp | refine List.mem_cons_of_mem _ ?_ | refine List.mem_append_right _ ?_))) | (intro p hp; repeat (first | exact hp | refine List.mem_cons_of_mem _ ?_ | refine List.mem_append_right _ ?_))) : News T.heap s1.heap.objs.size h rest) (hfx ((s1.heap.objs.size + 1 + 1), oc2) (by (repeat (first | with_reducible exact List.mem_cons_self | (with_reducible assumption) | refine List.mem_cons_of_mem _ ?_ | refine List.mem_append_right _ ?_)))) (hfx ((s1.heap.objs.size + 1 + 1 + 1), oc1) (by (repeat (first | with_reducible exact List.mem_cons_self | (with_reducible assumption) | refine List.mem_cons_of_mem _ ?_ | refine List.mem_append_right _ ?_)))) dcl dcn
    have mc2 := hfx ((s1.heap.objs.size + 1 + 1), oc2) (by (repeat (first | with_reducible exact List.mem_cons_self | (with_reducible assumption) | refine List.mem_cons_of_mem _ ?_ | refine List.mem_append_right _ ?_)))
    have mc3 := hfx ((s1.heap.objs.size + 1 + 1 + 1), oc1) (by (repeat (first | with_reducible exact List.mem_cons_self | (with_reducible assumption) | refine List.mem_cons_of_mem _ ?_ | refine List.mem_append_right _ ?_)))
    have c2bag : (s1.heap.objs.size + 1 + 1) ≠ bag := r1 _ mc2
    have c3bag : (s1.heap.objs.size + 1 + 1 + 1) ≠ bag := r1 _ mc3
    have c2pd : (s1.heap.objs.size + 1 + 1) ≠ pd := r2 _ mc2
    have c3pd : (s1.heap.objs.size + 1 + 1 + 1) ≠ pd := r2 _ mc3
    have c2wr : (s1.heap.objs.size + 1 + 1) ≠ wr := r4 _ mc2
    have c3wr : (s1.heap.objs.size + 1 + 1 + 1) ≠ wr := r4 _ mc3
    have c2bk : (s1.heap.objs.size + 1 + 1) ≠ bk := r5 _ mc2
    have c3bk : (s1.heap.objs.size + 1 + 1 + 1) ≠ bk := r5 _ mc3
    have msl : (sl, listOf wsl.toArray 0) ∈ rs := krs _ (hfx _ (.head _)) (fun v q => by cases q)
    have hH2 := hH.keep krs
    have r1 : ∀ p ∈ rs, p.1 ≠ bag := fun p hp => r1 p (srs p hp)
    have r2 : ∀ p ∈ rs, p.1 ≠ pd := fun p hp => r2 p (srs p hp)
    have gP := hH.good
    have lP := gP.length
    have hK := hH.lenK
    have hW := hH.lenW
    have N2 : News T.heap s1.heap.objs.size h ((pd, o) :: ((s1.heap.objs.size + 1 + 1), oc2) :: ((s1.heap.objs.size + 1 + 1 + 1), oc1) :: (bag, listOf #[Value.ref sl, Value.int spot t] nb) :: (wr, listOf W.toArray nW) :: (bk, listOf K.toArray nK) :: rs) := by
      have N3 : News T.heap s1.heap.objs.size h ((pd, o) :: ((s1.heap.objs.size + 1 + 1), oc2) :: ((s1.heap.objs.size + 1 + 1 + 1), oc1) :: (bag, listOf #[Value.ref sl, Value.int spot t] nb) :: (wr, listOf W.toArray nW) :: (bk, listOf K.toArray nK) :: rest) := kst_newsOf N (by (repeat (refine sub_cons (by first | with_reducible assumption | (repeat (first | with_reducible exact List.mem_cons_self | (with_reducible assumption) | refine List.mem_cons_of_mem _ ?_ | refine List.mem_append_right _ ?_))) ?_)); first | exact sub_nil | (refine sub_app ?_ ?_ <;> (intro p hp; repeat (first | exact hp | exact List.mem_append_left _ hp | refine List.mem_cons_of_mem _ ?_ | refine List.mem_append_right _ ?_))) | (intro p hp; repeat (first | exact hp | refine List.mem_cons_of_mem _ ?_ | refine List.mem_append_right _ ?_)))
      exact kst_newsOf N3 (sub_cons (by (repeat (first | with_reducible exact List.mem_cons_self | (with_reducible assumption) | refine List.mem_cons_of_mem _ ?_ | refine List.mem_append_right _ ?_))) (sub_cons (by (repeat (first | with_reducible exact List.mem_cons_self | (with_reducible assumption) | refine List.mem_cons_of_mem _ ?_ | refine List.mem_append_right _ ?_))) (sub_cons (by (repeat (first | with_reducible exact List.mem_cons_self | (with_reducible assumption) | refine List.mem_cons_of_mem _ ?_ | refine List.mem_append_right _ ?_))) (sub_cons (by (repeat (first | with_reducible exact List.mem_cons_self | (with_reducible assumption) | refine List.mem_cons_of_mem _ ?_ | refine List.mem_append_right _ ?_))) (sub_cons (by (repeat (first | with_reducible exact List.mem_cons_self | (with_reducible assumption) | refine List.mem_cons_of_mem _ ?_ | refine List.mem_append_right _ ?_))) (sub_cons (by (repeat (first | with_reducible exact List.mem_cons_self | (with_reducible assumption) | refine List.mem_cons_of_mem _ ?_ | refine List.mem_append_right _ ?_))) fun p hp => .tail _ (.tail _ (.tail _ (.tail _ (.tail _ (.tail _ (srs p hp))))))))))))
    obtain ⟨Ps, ls, run⟩ := hH2.run
    clear N r3 r4 r5 r6 hH hfx srs krs mc2 mc3 Nrs dU
    k_steps
    unfold Hold
    obtain ⟨kvo, hDo, hRo⟩ := dP
    refine kcopy F N2 (Top.nolimit T) (by (repeat (first | with_reducible exact List.mem_cons_self | (with_reducible assumption) | refine List.mem_cons_of_mem _ ?_ | refine List.mem_append_right _ ?_))) hDo plo (by rw [sizeLine_eq, hRo.length]; omega) (fun la h1 ol F1 N1 l8 lol dl => ?_)
    clear F N2
    have b1 : @LT.lt Nat _ pd la := l8 _ (.head _)
    have b2 : @LT.lt Nat _ (s1.heap.objs.size + 1 + 1) la := l8 _ (.tail _ (.head _))
    have b3 : @LT.lt Nat _ (s1.heap.objs.size + 1 + 1 + 1) la := l8 _ (.tail _ (.tail _ (.head _)))
    have b4 : @LT.lt Nat _ bag la := l8 _ (.tail _ (.tail _ (.tail _ (.head _))))
    have b5 : @LT.lt Nat _ wr la := l8 _ (.tail _ (.tail _ (.tail _ (.tail _ (.head _)))))
    have b6 : @LT.lt Nat _ bk la := l8 _ (.tail _ (.tail _ (.tail _ (.tail _ (.tail _ (.head _))))))
    have rla : ∀ p ∈ rs, p.1 ≠ la := fun p hp => Nat.ne_of_lt (l8 _ (.tail _ (.tail _ (.tail _ (.tail _ (.tail _ (.tail _ hp)))))))
    clear l8
    k_steps
    refine' storeX_C F1 (kst_newsOf N1 (by (repeat (refine sub_cons (by first | with_reducible assumption | (repeat (first | with_reducible exact List.mem_cons_self | (with_reducible assumption) | refine List.mem_cons_of_mem _ ?_ | refine List.mem_append_right _ ?_))) ?_)); first | exact sub_nil | (refine sub_app ?_ ?_ <;> (intro p hp; repeat (first | exact hp | exact List.mem_append_left _ hp | refine List.mem_cons_of_mem _ ?_ | refine List.mem_append_right _ ?_))) | (intro p hp; repeat (first | exact hp | refine List.mem_cons_of_mem _ ?_ | refine List.mem_append_right _ ?_))) : News T.heap s1.heap.objs.size _ (((s1.heap.objs.size + 1 + 1), oc2) :: (la, ol) :: (pd, o) :: ((s1.heap.objs.size + 1 + 1 + 1), oc1) :: (bag, listOf #[Value.ref sl, Value.int spot t] nb) :: (wr, listOf W.toArray nW) :: (bk, listOf K.toArray nK) :: rs)) rfl (UpdF.head (by (repeat (first | with_reducible assumption | with_reducible exact ne_nil | with_reducible refine ne_cons (by first | with_reducible assumption | exact Ne.symm (by with_reducible assumption) | (show @Ne Nat _ _; omega)) ?_)))) dcl ?_ rfl rfl
    intro h2 ocl2 F2 N2 dcl2
    clear F1 N1 dcl
    k_steps
    unfold Hold
    refine for_ints [5, 4, 3, 2, 1, 0] (fun l lo => UndoJ w (fun y => if y = Str.ofString "were" then some (Value.ref wr) else if y = Str.ofString "backs" then some (Value.ref bk) else if y = Str.ofString "due" then some (Value.ref dd) else if y = Str.ofString "program" then some (Value.ref pd) else if y = Str.ofString "bag" then some (Value.ref bag) else if y = Str.ofString "texts" then some (Value.ref tx) else m0 y) pd (s1.heap.objs.size + 1 + 1 + 1) (((s1.heap.objs.size + 1 + 1), ocl2) :: (la, ol) :: (bag, listOf #[Value.ref sl, Value.int spot t] nb) :: (wr, listOf W.toArray nW) :: (bk, listOf K.toArray nK) :: rs) Ps l lo) F2 (kst_newsOf N2 (by (repeat (refine sub_cons (by first | with_reducible assumption | (repeat (first | with_reducible exact List.mem_cons_self | (with_reducible assumption) | refine List.mem_cons_of_mem _ ?_ | refine List.mem_append_right _ ?_))) ?_)); first | exact sub_nil | (refine sub_app ?_ ?_ <;> (intro p hp; repeat (first | exact hp | exact List.mem_append_left _ hp | refine List.mem_cons_of_mem _ ?_ | refine List.mem_append_right _ ?_))) | (intro p hp; repeat (first | exact hp | refine List.mem_cons_of_mem _ ?_ | refine List.mem_append_right _ ?_))) : News T.heap s1.heap.objs.size _ ((pd, o) :: ((s1.heap.objs.size + 1 + 1 + 1), oc1) :: (((s1.heap.objs.size + 1 + 1), ocl2) :: (la, ol) :: (bag, listOf #[Value.ref sl, Value.int spot t] nb) :: (wr, listOf W.toArray nW) :: (bk, listOf K.toArray nK) :: rs))) ?hev ?hlen6 ?j0 ?hmem ?uturn ?udone
    case hev =>
      k_steps
      exact ⟨.cons _ _ (.cons _ _ (.cons _ _ (.cons _ _ (.cons _ _ (.cons _ _ .nil))))), _, rfl⟩
    case hlen6 => decide
    case j0 =>
      intro l lo hl
      refine ⟨⟨_, upn_of ?_⟩, o, oc1, _, P, rfl, Nat.ne_of_gt (hl _ (.head _)), Nat.ne_of_gt (hl _ (.tail _ (.head _))), dcn, ⟨_, hDo, hRo⟩, gP, fun k => by rw [run.now]⟩
      intro y hy
      exact upn_out (fun q => hy (List.mem_append_left _ q))
    case hmem =>
      rintro l lo i m led ⟨_, o1, oN, cv, R, rfl, _⟩
      exact .head _
    case uturn =>
      rintro l lo i k kt m₁ led₁ I io h tk hk ⟨⟨f2, hm₁⟩, o3, oN, cv, R, hled, lp, lc, dN, dR, gR, hR⟩ hI F N PP hPP
      subst hm₁
      subst hled
      obtain ⟨hi6, rfl⟩ := down6 hk
      obtain ⟨s6, n6, b6, ys6, k6, eb6, mb6, p6, z6⟩ := run.step (5 - i) (by omega)
      obtain ⟨g6, a6, o6, ea6, ma6, da6, la6⟩ := run.dict (5 - i) (by omega)
      have e56 : 5 - i + 1 = 6 - i := by omega
      have il : l ≠ I := hI _ (.head _)
      have ip : pd ≠ I := hI _ (.tail _ (.head _))
      have ic : (s1.heap.objs.size + 1 + 1 + 1) ≠ I := hI _ (.tail _ (.tail _ (.head _)))
      have irest : ∀ p ∈ (((s1.heap.objs.size + 1 + 1), ocl2) :: (la, ol) :: (bag, listOf #[Value.ref sl, Value.int spot t] nb) :: (wr, listOf W.toArray nW) :: (bk, listOf K.toArray nK) :: rs), p.1 ≠ I := fun p hp => hI _ (.tail _ (.tail _ (.tail _ hp)))
      clear hI F2 N2
      k_steps
      rename_i F3 N3
      unfold Hold
      refine for_name (h₀ := T.heap) (L := s1.heap.objs.size) (l := b6) (vs := ys6) (lo := listOf ys6.toArray k6) rfl rfl (RowsJ w _ pd (s1.heap.objs.size + 1 + 1 + 1) ((I, io) :: (l, lo) :: (((s1.heap.objs.size + 1 + 1), ocl2) :: (la, ol) :: (bag, listOf #[Value.ref sl, Value.int spot t] nb) :: (wr, listOf W.toArray nW) :: (bk, listOf K.toArray nK) :: rs)) (ls (5 - i)) (Ps (5 - i)) (Ps (6 - i))) F3 (kst_newsOf N3 (by (repeat (refine sub_cons (by first | with_reducible assumption | (repeat (first | with_reducible exact List.mem_cons_self | (with_reducible assumption) | refine List.mem_cons_of_mem _ ?_ | refine List.mem_append_right _ ?_))) ?_)); first | exact sub_nil | (refine sub_app ?_ ?_ <;> (intro p hp; repeat (first | exact hp | exact List.mem_append_left _ hp | refine List.mem_cons_of_mem _ ?_ | refine List.mem_append_right _ ?_))) | (intro p hp; repeat (first | exact hp | refine List.mem_cons_of_mem _ ?_ | refine List.mem_append_right _ ?_))) : News T.heap s1.heap.objs.size _ ((pd, o3) :: ((s1.heap.objs.size + 1 + 1 + 1), oN) :: (I, io) :: (l, lo) :: (((s1.heap.objs.size + 1 + 1), ocl2) :: (la, ol) :: (bag, listOf #[Value.ref sl, Value.int spot t] nb) :: (wr, listOf W.toArray nW) :: (bk, listOf K.toArray nK) :: rs))) ⟨⟨_, upo_self⟩, o3, oN, cv, R, rfl, dN, dR, gR, fun k => by rw [List.take_zero, if_neg List.not_mem_nil, hR]⟩ ?zmem ?zev ?zturn ?zdone
      case zmem =>
        rintro j m led ⟨_, o1, oN1, cv1, R1, rfl, _⟩
        exact (by (repeat (first | with_reducible exact List.mem_cons_self | (with_reducible assumption) | refine List.mem_cons_of_mem _ ?_ | refine List.mem_append_right _ ?_)))
      case zev =>
        k_steps
        unfold Hold
        refine kget N3 (by (repeat (first | with_reducible exact List.mem_cons_self | (with_reducible assumption) | refine List.mem_cons_of_mem _ ?_ | refine List.mem_append_right _ ?_))) (by omega) (by omega) (v := Value.ref b6) (by rw [Int.toNat_natCast]; exact eb6) ?_
        exact ⟨rfl, rfl⟩
      case zturn =>
        rintro j v m₂ led₂ I2 io2 h2 tk2 hv ⟨⟨u2, hm₂⟩, o4, oN4, cv4, R4, hled, dN4, dR4, gR4, hR4⟩ hI2 F4 N4 PP2 hPP2
        subst hm₂
        subst hled
        obtain ⟨t6, k7, tk7, ts7, n7, rfl, hl7, mt7⟩ := p6.at hv
        clear F3 N3
        have jp : pd ≠ I2 := hI2 _ (.head _)
        have jc : (s1.heap.objs.size + 1 + 1 + 1) ≠ I2 := hI2 _ (.tail _ (.head _))
        have jrest : ∀ p ∈ ((I, io) :: (l, lo) :: (((s1.heap.objs.size + 1 + 1), ocl2) :: (la, ol) :: (bag, listOf #[Value.ref sl, Value.int spot t] nb) :: (wr, listOf W.toArray nW) :: (bk, listOf K.toArray nK) :: rs)), p.1 ≠ I2 := fun p hp => hI2 _ (.tail _ (.tail _ hp))
        clear hI2
        have hx7 : (ls (5 - i)).Nodup := s6.nodup
        have hk7 : k7 ∈ ls (5 - i) := List.mem_of_getElem? hl7
        have hb7 : has (Ps (5 - i)) k7 = true ∨ has R4 k7 = true := by
          have q := s6.some k7 hk7
          rw [e56] at q
          rcases q with q | q
          · exact .inl q
          · refine .inr ?_
            rw [has_get, hR4, if_neg (not_mem_take hx7 hl7), ← has_get]; exact q
        refine' unpackN_ F4 N4 (News.isTup N4 (by (repeat (first | with_reducible exact List.mem_cons_self | (with_reducible assumption) | refine List.mem_cons_of_mem _ ?_ | refine List.mem_append_right _ ?_)))) rfl rfl rfl ?_
        intro h5 F5 N5
        clear F4 N4
        k_steps
        refine' storeX_C F5 (kst_newsOf N5 (by (repeat (refine sub_cons (by first | with_reducible assumption | (repeat (first | with_reducible exact List.mem_cons_self | (with_reducible assumption) | refine List.mem_cons_of_mem _ ?_ | refine List.mem_append_right _ ?_))) ?_)); first | exact sub_nil | (refine sub_app ?_ ?_ <;> (intro p hp; repeat (first | exact hp | exact List.mem_append_left _ hp | refine List.mem_cons_of_mem _ ?_ | refine List.mem_append_right _ ?_))) | (intro p hp; repeat (first | exact hp | refine List.mem_cons_of_mem _ ?_ | refine List.mem_append_right _ ?_))) : News T.heap s1.heap.objs.size _ (((s1.heap.objs.size + 1 + 1 + 1), oN4) :: (pd, o4) :: ((I2, io2) :: (I, io) :: (l, lo) :: (((s1.heap.objs.size + 1 + 1), ocl2) :: (la, ol) :: (bag, listOf #[Value.ref sl, Value.int spot t] nb) :: (wr, listOf W.toArray nW) :: (bk, listOf K.toArray nK) :: rs)))) rfl (UpdF.head (by (repeat (first | with_reducible assumption | with_reducible exact ne_nil | with_reducible refine ne_cons (by first | with_reducible assumption | exact Ne.symm (by with_reducible assumption) | (show @Ne Nat _ _; omega)) ?_)))) dN4 ?_ rfl rfl
        intro h6 oN5 F6 N6 dN5
        clear F5 N5
        k_steps
        rename_i F7 N7
        unfold Hold
        refine' undo_row_spec w (outer := []) (P := Ps (5 - i)) (R := R4) (k := k7) K0 F7 KX T ?yhk (kst_newsOf N7 (by (repeat (refine sub_cons (by first | with_reducible assumption | (repeat (first | with_reducible exact List.mem_cons_self | (with_reducible assumption) | refine List.mem_cons_of_mem _ ?_ | refine List.mem_append_right _ ?_))) ?_)); first | exact sub_nil | (refine sub_app ?_ ?_ <;> (intro p hp; repeat (first | exact hp | exact List.mem_append_left _ hp | refine List.mem_cons_of_mem _ ?_ | refine List.mem_append_right _ ?_))) | (intro p hp; repeat (first | exact hp | refine List.mem_cons_of_mem _ ?_ | refine List.mem_append_right _ ?_))) : News T.heap s1.heap.objs.size _ ((pd, o4) :: ((s1.heap.objs.size + 1 + 1 + 1), oN5) :: ((I2, io2) :: (I, io) :: (l, lo) :: (((s1.heap.objs.size + 1 + 1), ocl2) :: (la, ol) :: (bag, listOf #[Value.ref sl, Value.int spot t] nb) :: (wr, listOf W.toArray nW) :: (bk, listOf K.toArray nK) :: rs)))) (by (repeat (first | with_reducible assumption | with_reducible exact ne_nil | with_reducible refine ne_cons (by first | with_reducible assumption | exact Ne.symm (by with_reducible assumption) | (show @Ne Nat _ _; omega)) ?_))) dR4 g6 gR4 (n6 _ hk7) hb7 plo ?yhd ?yhu ?_
        case yhk => exact rfl
        case yhd => ktr_room
        case yhu => ktr_units
        intro h8 o8 tk8 R8 gR8 hR8 F8 N8 dR8
        clear F7 N7
        k_steps
        exact hPP2 _ _ (ForPost.mk F8 (kst_newsOf N8 (by (repeat (refine sub_cons (by first | with_reducible assumption | (repeat (first | with_reducible exact List.mem_cons_self | (with_reducible assumption) | refine List.mem_cons_of_mem _ ?_ | refine List.mem_append_right _ ?_))) ?_)); first | exact sub_nil | (refine sub_app ?_ ?_ <;> (intro p hp; repeat (first | exact hp | exact List.mem_append_left _ hp | refine List.mem_cons_of_mem _ ?_ | refine List.mem_append_right _ ?_))) | (intro p hp; repeat (first | exact hp | refine List.mem_cons_of_mem _ ?_ | refine List.mem_append_right _ ?_))) : News T.heap s1.heap.objs.size _ ((I2, io2) :: (pd, o8) :: ((s1.heap.objs.size + 1 + 1 + 1), oN5) :: (I, io) :: (l, lo) :: (((s1.heap.objs.size + 1 + 1), ocl2) :: (la, ol) :: (bag, listOf #[Value.ref sl, Value.int spot t] nb) :: (wr, listOf W.toArray nW) :: (bk, listOf K.toArray nK) :: rs))) (by (repeat (first | with_reducible assumption | with_reducible exact ne_nil | with_reducible refine ne_cons (by first | with_reducible assumption | exact Ne.symm (by with_reducible assumption) | (show @Ne Nat _ _; omega)) ?_))) ⟨⟨_, upo_upo⟩, o8, oN5, _, R8, rfl, dN5, dR8, gR8, rows_step hl7 hR4 hR8⟩)
      case zdone =>
        rintro h9 tk9 m₂ led₂ ⟨⟨u2, hm₂⟩, o4, oN4, cv4, R4, hled, dN4, dR4, gR4, hR4⟩ F4 N4
        subst hm₂
        subst hled
        clear F3 N3
        have hA4 := rows_done (by rw [← e56]; exact s6) p6.length hR4
        have pA4 := perm_of_get gR4.keys g6.keys hA4
        have lR4 := gR4.length
        k_steps
        unfold Hold
        refine kget N4 (by (repeat (first | with_reducible exact List.mem_cons_self | (with_reducible assumption) | refine List.mem_cons_of_mem _ ?_ | refine List.mem_append_right _ ?_))) (by omega) (by omega) (v := Value.ref a6) (by rw [Int.toNat_natCast]; exact ea6) ?_
        k_steps
        unfold Hold
        refine' law_same_spec w (outer := []) K0 F4 KX T ?yhk (kst_newsOf N4 (by (repeat (refine sub_cons (by first | with_reducible assumption | (repeat (first | with_reducible exact List.mem_cons_self | (with_reducible assumption) | refine List.mem_cons_of_mem _ ?_ | refine List.mem_append_right _ ?_))) ?_)); first | exact sub_nil | (refine sub_app ?_ ?_ <;> (intro p hp; repeat (first | exact hp | exact List.mem_append_left _ hp | refine List.mem_cons_of_mem _ ?_ | refine List.mem_append_right _ ?_))) | (intro p hp; repeat (first | exact hp | refine List.mem_cons_of_mem _ ?_ | refine List.mem_append_right _ ?_))) : News T.heap s1.heap.objs.size _ ((pd, o4) :: (a6, o6) :: ((s1.heap.objs.size + 1 + 1 + 1), oN4) :: (I, io) :: (l, lo) :: (((s1.heap.objs.size + 1 + 1), ocl2) :: (la, ol) :: (bag, listOf #[Value.ref sl, Value.int spot t] nb) :: (wr, listOf W.toArray nW) :: (bk, listOf K.toArray nK) :: rs))) dR4 da6 pA4 (fun p hp => (gR4.fine p hp).toLineOk) ?yhlen plo la6 ?yhd ?yhu ?_
        case yhk => exact rfl
        case yhlen => omega
        case yhd => ktr_room
        case yhu => ktr_units
        intro h10 tk10 F5 N5
        clear F4 N4
        k_steps
        unfold Hold
        refine for_name (h₀ := T.heap) (L := s1.heap.objs.size) (l := b6) (vs := ys6) (lo := listOf ys6.toArray k6) rfl rfl (RowsJ w _ pd (s1.heap.objs.size + 1 + 1 + 1) ((I, io) :: (l, lo) :: (((s1.heap.objs.size + 1 + 1), ocl2) :: (la, ol) :: (bag, listOf #[Value.ref sl, Value.int spot t] nb) :: (wr, listOf W.toArray nW) :: (bk, listOf K.toArray nK) :: rs)) (ls (5 - i)) (Ps (5 - i)) (Ps (5 - i))) F5 (kst_newsOf N5 (by (repeat (refine sub_cons (by first | with_reducible assumption | (repeat (first | with_reducible exact List.mem_cons_self | (with_reducible assumption) | refine List.mem_cons_of_mem _ ?_ | refine List.mem_append_right _ ?_))) ?_)); first | exact sub_nil | (refine sub_app ?_ ?_ <;> (intro p hp; repeat (first | exact hp | exact List.mem_append_left _ hp | refine List.mem_cons_of_mem _ ?_ | refine List.mem_append_right _ ?_))) | (intro p hp; repeat (first | exact hp | refine List.mem_cons_of_mem _ ?_ | refine List.mem_append_right _ ?_))) : News T.heap s1.heap.objs.size _ ((pd, o4) :: ((s1.heap.objs.size + 1 + 1 + 1), oN4) :: (I, io) :: (l, lo) :: (((s1.heap.objs.size + 1 + 1), ocl2) :: (la, ol) :: (bag, listOf #[Value.ref sl, Value.int spot t] nb) :: (wr, listOf W.toArray nW) :: (bk, listOf K.toArray nK) :: rs))) ⟨⟨_, upo_self⟩, o4, oN4, cv4, R4, rfl, dN4, dR4, gR4, fun k => by rw [hA4, ite_self]⟩ ?zmem2 ?zev2 ?zturn2 ?zdone2
        case zmem2 =>
          rintro j m led ⟨_, o1, oN1, cv1, R1, rfl, _⟩
          exact (by (repeat (first | with_reducible exact List.mem_cons_self | (with_reducible assumption) | refine List.mem_cons_of_mem _ ?_ | refine List.mem_append_right _ ?_)))
        case zev2 =>
          k_steps
          unfold Hold
          refine kget N5 (by (repeat (first | with_reducible exact List.mem_cons_self | (with_reducible assumption) | refine List.mem_cons_of_mem _ ?_ | refine List.mem_append_right _ ?_))) (by omega) (by omega) (v := Value.ref b6) (by rw [Int.toNat_natCast]; exact eb6) ?_
          exact ⟨rfl, rfl⟩
        case zturn2 =>
          rintro j v m₂ led₂ I2 io2 h2 tk2 hv ⟨⟨u3, hm₂⟩, o5, oN5, cv5, R5, hled, dN5, dR5, gR5, hR5⟩ hI2 F6 N6 PP2 hPP2
          subst hm₂
          subst hled
          obtain ⟨t6, k7, tk7, ts7, n7, rfl, hl7, mt7⟩ := p6.at hv
          have hA5 := rows_same hR5
          clear F5 N5
          have jp : pd ≠ I2 := hI2 _ (.head _)
          have jc : (s1.heap.objs.size + 1 + 1 + 1) ≠ I2 := hI2 _ (.tail _ (.head _))
          have jrest : ∀ p ∈ ((I, io) :: (l, lo) :: (((s1.heap.objs.size + 1 + 1), ocl2) :: (la, ol) :: (bag, listOf #[Value.ref sl, Value.int spot t] nb) :: (wr, listOf W.toArray nW) :: (bk, listOf K.toArray nK) :: rs)), p.1 ≠ I2 := fun p hp => hI2 _ (.tail _ (.tail _ hp))
          clear hI2
          have hk7 : k7 ∈ ls (5 - i) := List.mem_of_getElem? hl7
          have hkb := nums_lim (n6 _ hk7)
          obtain ⟨hk1, hk2⟩ := hkb
          refine' unpackN_ F6 N6 (News.isTup N6 (by (repeat (first | with_reducible exact List.mem_cons_self | (with_reducible assumption) | refine List.mem_cons_of_mem _ ?_ | refine List.mem_append_right _ ?_)))) rfl rfl rfl ?_
          intro h5 F7 N7
          clear F6 N6
          k_steps
          refine' storeX_C F7 (kst_newsOf N7 (by (repeat (refine sub_cons (by first | with_reducible assumption | (repeat (first | with_reducible exact List.mem_cons_self | (with_reducible assumption) | refine List.mem_cons_of_mem _ ?_ | refine List.mem_append_right _ ?_))) ?_)); first | exact sub_nil | (refine sub_app ?_ ?_ <;> (intro p hp; repeat (first | exact hp | exact List.mem_append_left _ hp | refine List.mem_cons_of_mem _ ?_ | refine List.mem_append_right _ ?_))) | (intro p hp; repeat (first | exact hp | refine List.mem_cons_of_mem _ ?_ | refine List.mem_append_right _ ?_))) : News T.heap s1.heap.objs.size _ (((s1.heap.objs.size + 1 + 1 + 1), oN5) :: (pd, o5) :: ((I2, io2) :: (I, io) :: (l, lo) :: (((s1.heap.objs.size + 1 + 1), ocl2) :: (la, ol) :: (bag, listOf #[Value.ref sl, Value.int spot t] nb) :: (wr, listOf W.toArray nW) :: (bk, listOf K.toArray nK) :: rs)))) rfl (UpdF.head (by (repeat (first | with_reducible assumption | with_reducible exact ne_nil | with_reducible refine ne_cons (by first | with_reducible assumption | exact Ne.symm (by with_reducible assumption) | (show @Ne Nat _ _; omega)) ?_)))) dN5 ?_ rfl rfl
          intro h6 oN6 F8 N8 dN6
          clear F7 N7
          k_steps
          · rename_i F9 N9 hc
            unfold Hold
            refine' undo_row_spec w (outer := []) (P := Ps (5 - i)) (R := R5) (k := k7) K0 F9 KX T ?xhk (kst_newsOf N9 (by (repeat (refine sub_cons (by first | with_reducible assumption | (repeat (first | with_reducible exact List.mem_cons_self | (with_reducible assumption) | refine List.mem_cons_of_mem _ ?_ | refine List.mem_append_right _ ?_))) ?_)); first | exact sub_nil | (refine sub_app ?_ ?_ <;> (intro p hp; repeat (first | exact hp | exact List.mem_append_left _ hp | refine List.mem_cons_of_mem _ ?_ | refine List.mem_append_right _ ?_))) | (intro p hp; repeat (first | exact hp | refine List.mem_cons_of_mem _ ?_ | refine List.mem_append_right _ ?_))) : News T.heap s1.heap.objs.size _ ((pd, o5) :: ((s1.heap.objs.size + 1 + 1 + 1), oN6) :: ((I2, io2) :: (I, io) :: (l, lo) :: (((s1.heap.objs.size + 1 + 1), ocl2) :: (la, ol) :: (bag, listOf #[Value.ref sl, Value.int spot t] nb) :: (wr, listOf W.toArray nW) :: (bk, listOf K.toArray nK) :: rs)))) (by (repeat (first | with_reducible assumption | with_reducible exact ne_nil | with_reducible refine ne_cons (by first | with_reducible assumption | exact Ne.symm (by with_reducible assumption) | (show @Ne Nat _ _; omega)) ?_))) dR5 g6 gR5 (n6 _ hk7) (.inl (back_has hc)) plo ?xhd ?xhu ?_
            case xhk => exact rfl
            case xhd => ktr_room
            case xhu => ktr_units
            intro h8 o8 tk8 R8 gR8 hR8 F10 N10 dR8
            clear F9 N9
            k_steps
            have N11 := (kst_newsOf N10 (by (repeat (refine sub_cons (by first | with_reducible assumption | (repeat (first | with_reducible exact List.mem_cons_self | (with_reducible assumption) | refine List.mem_cons_of_mem _ ?_ | refine List.mem_append_right _ ?_))) ?_)); first | exact sub_nil | (refine sub_app ?_ ?_ <;> (intro p hp; repeat (first | exact hp | exact List.mem_append_left _ hp | refine List.mem_cons_of_mem _ ?_ | refine List.mem_append_right _ ?_))) | (intro p hp; repeat (first | exact hp | refine List.mem_cons_of_mem _ ?_ | refine List.mem_append_right _ ?_))) : News T.heap s1.heap.objs.size _ ((I2, io2) :: (pd, o8) :: ((s1.heap.objs.size + 1 + 1 + 1), oN6) :: (I, io) :: (l, lo) :: (((s1.heap.objs.size + 1 + 1), ocl2) :: (la, ol) :: (bag, listOf #[Value.ref sl, Value.int spot t] nb) :: (wr, listOf W.toArray nW) :: (bk, listOf K.toArray nK) :: rs)))
            have hne : ∀ p ∈ ((pd, o8) :: ((s1.heap.objs.size + 1 + 1 + 1), oN6) :: (I, io) :: (l, lo) :: (((s1.heap.objs.size + 1 + 1), ocl2) :: (la, ol) :: (bag, listOf #[Value.ref sl, Value.int spot t] nb) :: (wr, listOf W.toArray nW) :: (bk, listOf K.toArray nK) :: rs)), p.1 ≠ I2 := (by (repeat (first | with_reducible assumption | with_reducible exact ne_nil | with_reducible refine ne_cons (by first | with_reducible assumption | exact Ne.symm (by with_reducible assumption) | (show @Ne Nat _ _; omega)) ?_)))
            refine hPP2 _ _ (ForPost.mk F10 N11 ?_ ?_)
            · with_reducible exact hne
            exact rows_next rows_map dN6 dR8 gR8 (rows_idem hA5 hR8)
          · rename Fr T.heap _ _ _ => F9
            rename News T.heap _ _ _ => N9
            have N11 := (kst_newsOf N9 (by (repeat (refine sub_cons (by first | with_reducible assumption | (repeat (first | with_reducible exact List.mem_cons_self | (with_reducible assumption) | refine List.mem_cons_of_mem _ ?_ | refine List.mem_append_right _ ?_))) ?_)); first | exact sub_nil | (refine sub_app ?_ ?_ <;> (intro p hp; repeat (first | exact hp | exact List.mem_append_left _ hp | refine List.mem_cons_of_mem _ ?_ | refine List.mem_append_right _ ?_))) | (intro p hp; repeat (first | exact hp | refine List.mem_cons_of_mem _ ?_ | refine List.mem_append_right _ ?_))) : News T.heap s1.heap.objs.size _ ((I2, io2) :: (pd, o5) :: ((s1.heap.objs.size + 1 + 1 + 1), oN6) :: (I, io) :: (l, lo) :: (((s1.heap.objs.size + 1 + 1), ocl2) :: (la, ol) :: (bag, listOf #[Value.ref sl, Value.int spot t] nb) :: (wr, listOf W.toArray nW) :: (bk, listOf K.toArray nK) :: rs)))
            have hne : ∀ p ∈ ((pd, o5) :: ((s1.heap.objs.size + 1 + 1 + 1), oN6) :: (I, io) :: (l, lo) :: (((s1.heap.objs.size + 1 + 1), ocl2) :: (la, ol) :: (bag, listOf #[Value.ref sl, Value.int spot t] nb) :: (wr, listOf W.toArray nW) :: (bk, listOf K.toArray nK) :: rs)), p.1 ≠ I2 := (by (repeat (first | with_reducible assumption | with_reducible exact ne_nil | with_reducible refine ne_cons (by first | with_reducible assumption | exact Ne.symm (by with_reducible assumption) | (show @Ne Nat _ _; omega)) ?_)))
            refine hPP2 _ _ (ForPost.mk F9 N11 ?_ ?_)
            · with_reducible exact hne
            exact rows_next rows_map dN6 dR5 gR5 (fun x => by rw [hA5, ite_self])
        case zdone2 =>
          rintro h9 tk9 m₂ led₂ ⟨⟨u3, hm₂⟩, o5, oN5, cv5, R5, hled, dN5, dR5, gR5, hR5⟩ F6 N6
          subst hm₂
          subst hled
          have hA5 := rows_same hR5
          have pA5 := perm_of_get gR5.keys g6.keys hA5
          clear F5 N5
          k_steps
          unfold Hold
          refine kget N6 (by (repeat (first | with_reducible exact List.mem_cons_self | (with_reducible assumption) | refine List.mem_cons_of_mem _ ?_ | refine List.mem_append_right _ ?_))) (by omega) (by omega) (v := Value.ref a6) (by rw [Int.toNat_natCast]; exact ea6) ?_
          k_steps
          unfold Hold
          refine kne_same N6 (by (repeat (first | with_reducible exact List.mem_cons_self | (with_reducible assumption) | refine List.mem_cons_of_mem _ ?_ | refine List.mem_append_right _ ?_))) (by (repeat (first | with_reducible exact List.mem_cons_self | (with_reducible assumption) | refine List.mem_cons_of_mem _ ?_ | refine List.mem_append_right _ ?_))) dR5 da6 plo la6 pA5 ?yhu ?_
          case yhu => ktr_units
          k_steps
          have e6 : 6 - (i + 1) = 5 - i := by omega
          exact hPP _ _ (ForPost.mk F6 (kst_newsOf N6 (by (repeat (refine sub_cons (by first | with_reducible assumption | (repeat (first | with_reducible exact List.mem_cons_self | (with_reducible assumption) | refine List.mem_cons_of_mem _ ?_ | refine List.mem_append_right _ ?_))) ?_)); first | exact sub_nil | (refine sub_app ?_ ?_ <;> (intro p hp; repeat (first | exact hp | exact List.mem_append_left _ hp | refine List.mem_cons_of_mem _ ?_ | refine List.mem_append_right _ ?_))) | (intro p hp; repeat (first | exact hp | refine List.mem_cons_of_mem _ ?_ | refine List.mem_append_right _ ?_))) : News T.heap s1.heap.objs.size _ ((I, io) :: (l, lo) :: (pd, o5) :: ((s1.heap.objs.size + 1 + 1 + 1), oN5) :: (((s1.heap.objs.size + 1 + 1), ocl2) :: (la, ol) :: (bag, listOf #[Value.ref sl, Value.int spot t] nb) :: (wr, listOf W.toArray nW) :: (bk, listOf K.toArray nK) :: rs))) (by (repeat (first | with_reducible assumption | with_reducible exact ne_nil | with_reducible refine ne_cons (by first | with_reducible assumption | exact Ne.symm (by with_reducible assumption) | (show @Ne Nat _ _; omega)) ?_))) ⟨undo_map, o5, oN5, _, R5, rfl, lp, lc, dN5, dR5, gR5, fun k => by rw [e6]; exact hA5 k⟩)
    case udone =>
      rintro l lo h tk m₁ led₁ ⟨⟨f2, hm₁⟩, o3, oN, cv, R, hled, lp, lc, dN, dR, gR, hR⟩ F N
      subst hm₁
      subst hled
      clear F2 N2
      k_steps
      rename_i lf _ ltl _ F2 N2
      clear dA
      have s1a : @LT.lt Nat _ (s1.heap.objs.size + 1 + 1 + 1) lf := ltl.2.2.1
      have s2a : @LT.lt Nat _ (s1.heap.objs.size + 1 + 1) lf := ltl.2.2.2.1
      have s3a : @LT.lt Nat _ la lf := ltl.2.2.2.2.1
      have s4a : @LT.lt Nat _ bag lf := ltl.2.2.2.2.2.1
      have s5a : @LT.lt Nat _ wr lf := ltl.2.2.2.2.2.2.1
      have s6a : @LT.lt Nat _ bk lf := ltl.2.2.2.2.2.2.2.1
      have s7a : ∀ p ∈ rs, p.1 ≠ lf := lt_ne (kst_ltOf ltl.2.2.2.2.2.2.2.2)
      clear ltl
      unfold Hold
      refine for_ints [4, 3, 2, 1] (fun l lo => LeftJ w (withLeft (fun y => if y = Str.ofString "were" then some (Value.ref wr) else if y = Str.ofString "backs" then some (Value.ref bk) else if y = Str.ofString "due" then some (Value.ref dd) else if y = Str.ofString "program" then some (Value.ref pd) else if y = Str.ofString "bag" then some (Value.ref bag) else if y = Str.ofString "texts" then some (Value.ref tx) else m0 y) lf) bag sl lf la (s1.heap.objs.size + 1 + 1 + 1) (((s1.heap.objs.size + 1 + 1), ocl2) :: (wr, listOf W.toArray nW) :: (bk, listOf K.toArray nK) :: rs) Ps l lo) F2 (kst_newsOf N2 (by (repeat (refine sub_cons (by first | with_reducible assumption | (repeat (first | with_reducible exact List.mem_cons_self | (with_reducible assumption) | refine List.mem_cons_of_mem _ ?_ | refine List.mem_append_right _ ?_))) ?_)); first | exact sub_nil | (refine sub_app ?_ ?_ <;> (intro p hp; repeat (first | exact hp | exact List.mem_append_left _ hp | refine List.mem_cons_of_mem _ ?_ | refine List.mem_append_right _ ?_))) | (intro p hp; repeat (first | exact hp | refine List.mem_cons_of_mem _ ?_ | refine List.mem_append_right _ ?_))) : News T.heap s1.heap.objs.size _ ((bag, listOf #[Value.ref sl, Value.int spot t] nb) :: (lf, listOf (List.toArray [Value.int 10 _, Value.int 20 _, Value.int 30 _, Value.int 40 _]) 0) :: (la, ol) :: ((s1.heap.objs.size + 1 + 1 + 1), oN) :: (((s1.heap.objs.size + 1 + 1), ocl2) :: (wr, listOf W.toArray nW) :: (bk, listOf K.toArray nK) :: rs))) ?lhev ?lhlen6 ?lj0 ?lhmem ?lturn ?ldone
      case lhev =>
        k_steps
        exact ⟨.cons _ _ (.cons _ _ (.cons _ _ (.cons _ _ .nil))), _, rfl⟩
      case lhlen6 => decide
      case lj0 =>
        intro l2 lo2 hl2
        refine ⟨left_map0, spot, t, nb, ol, oN, cv, P, _, [10, 20, 30, 40], 0, rfl, Nat.ne_of_gt (hl2 _ (.head _)), Nat.ne_of_gt (hl2 _ (.tail _ (.head _))), Nat.ne_of_gt (hl2 _ (.tail _ (.tail _ (.head _)))), Nat.ne_of_gt (hl2 _ (.tail _ (.tail _ (.tail _ (.head _))))), dN,
          .cons _ _ (.cons _ _ (.cons _ _ (.cons _ _ .nil))), rfl, by decide, fun k hk => hk, hs0, by omega, ⟨_, dl, hRo⟩, gP, fun k => ?_⟩
        rw [run.now]
        exact left_get0 gP (run.dict 0 (by omega)).1
      case lhmem =>
        rintro l2 lo2 i m led ⟨_, spot2, t2, nb2, oL, oN2, cv2, R2, vs2, rem2, nl2, rfl, _⟩
        exact .head _
      case lturn =>
        rintro l2 lo2 i k kt m₁ led₁ I io h tk hk ⟨⟨f3, hm₁⟩, spot2, t2, nb2, oL, oN2, cv2, R2, vs2, rem2, nl2, hled, lx1, lx2, lx3, lx4, dN2, iR, hrl, hrn, hrs, hz0, hz1, dR2, gR2, hR2⟩ hI F N PP hPP
        subst hm₁
        subst hled
        clear F2 N2
        obtain ⟨hi4, rfl⟩ := down4 hk
        have il2 : l2 ≠ I := hI _ (.head _)
        have ibag : bag ≠ I := hI _ (.tail _ (.head _))
        have ilf : lf ≠ I := hI _ (.tail _ (.tail _ (.head _)))
        have ila : la ≠ I := hI _ (.tail _ (.tail _ (.tail _ (.head _))))
        have ic3 : (s1.heap.objs.size + 1 + 1 + 1) ≠ I := hI _ (.tail _ (.tail _ (.tail _ (.tail _ (.head _)))))
        have irest : ∀ p ∈ (((s1.heap.objs.size + 1 + 1), ocl2) :: (wr, listOf W.toArray nW) :: (bk, listOf K.toArray nK) :: rs), p.1 ≠ I := fun p hp => hI _ (.tail _ (.tail _ (.tail _ (.tail _ (.tail _ hp)))))
        clear hI
        obtain ⟨g0, a0, o0, ea0, ma0, da0, la0⟩ := run.dict 0 (by omega)
        have lR2 := gR2.length
        k_steps
        rename_i F2 N2
        unfold Hold
        refine' law_typed_spec w (ws := wsl) (zs := List.take 21 zs) (q := sl) (spot := spot2) (news := ((I, io) :: (l2, lo2) :: (lf, listOf (List.toArray vs2) nl2) :: (la, oL) :: ((s1.heap.objs.size + 1 + 1 + 1), oN2) :: (((s1.heap.objs.size + 1 + 1), ocl2) :: (wr, listOf W.toArray nW) :: (bk, listOf K.toArray nK) :: rs))) K0 F2 KX T ?hk (kst_newsOf N2 (by (repeat (refine sub_cons (by first | with_reducible assumption | (repeat (first | with_reducible exact List.mem_cons_self | (with_reducible assumption) | refine List.mem_cons_of_mem _ ?_ | refine List.mem_append_right _ ?_))) ?_)); first | exact sub_nil | (refine sub_app ?_ ?_ <;> (intro p hp; repeat (first | exact hp | exact List.mem_append_left _ hp | refine List.mem_cons_of_mem _ ?_ | refine List.mem_append_right _ ?_))) | (intro p hp; repeat (first | exact hp | refine List.mem_cons_of_mem _ ?_ | refine List.mem_append_right _ ?_)))) ?hbq (by (repeat (first | with_reducible assumption | with_reducible exact ne_nil | with_reducible refine ne_cons (by first | with_reducible assumption | exact Ne.symm (by with_reducible assumption) | (show @Ne Nat _ _; omega)) ?_))) hIs ?hz (by omega) (by omega) (by omega) (by omega) ?hd ?hu ?_
        case hk => exact rfl
        case hbq => exact Nat.ne_of_gt q2
        case hz => omega
        case hd => ktr_room
        case hu => ktr_units
        intro r tr ur h5 tk5 r0 rk F5 N5
        k_steps
        unfold Hold
        refine kpopI F5 (kst_newsOf N5 (by (repeat (refine sub_cons (by first | with_reducible assumption | (repeat (first | with_reducible exact List.mem_cons_self | (with_reducible assumption) | refine List.mem_cons_of_mem _ ?_ | refine List.mem_append_right _ ?_))) ?_)); first | exact sub_nil | (refine sub_app ?_ ?_ <;> (intro p hp; repeat (first | exact hp | exact List.mem_append_left _ hp | refine List.mem_cons_of_mem _ ?_ | refine List.mem_append_right _ ?_))) | (intro p hp; repeat (first | exact hp | refine List.mem_cons_of_mem _ ?_ | refine List.mem_append_right _ ?_))) : News T.heap s1.heap.objs.size _ ((lf, listOf (List.toArray vs2) nl2) :: (I, io) :: (l2, lo2) :: (bag, listOf #[Value.ref sl, Value.int (spot2 + 1) ur] nb2) :: (la, oL) :: ((s1.heap.objs.size + 1 + 1 + 1), oN2) :: (((s1.heap.objs.size + 1 + 1), ocl2) :: (wr, listOf W.toArray nW) :: (bk, listOf K.toArray nK) :: rs))) (by (repeat (first | with_reducible assumption | with_reducible exact ne_nil | with_reducible refine ne_cons (by first | with_reducible assumption | exact Ne.symm (by with_reducible assumption) | (show @Ne Nat _ _; omega)) ?_))) iR r0 (by omega) (by omega) (fun h6 x txk vs3 p1 p2 hsplit iR3 F6 N6 => ?_)
        clear F5 N5
        subst hsplit
        have hxn : x ∈ nums := hrs x (List.mem_append_right _ (.head _))
        have hxb := nums_lim hxn
        obtain ⟨hx1, hx2⟩ := hxb
        k_steps
        refine' storeX_C F6 (kst_newsOf N6 (by (repeat (refine sub_cons (by first | with_reducible assumption | (repeat (first | with_reducible exact List.mem_cons_self | (with_reducible assumption) | refine List.mem_cons_of_mem _ ?_ | refine List.mem_append_right _ ?_))) ?_)); first | exact sub_nil | (refine sub_app ?_ ?_ <;> (intro p hp; repeat (first | exact hp | exact List.mem_append_left _ hp | refine List.mem_cons_of_mem _ ?_ | refine List.mem_append_right _ ?_))) | (intro p hp; repeat (first | exact hp | refine List.mem_cons_of_mem _ ?_ | refine List.mem_append_right _ ?_))) : News T.heap s1.heap.objs.size _ (((s1.heap.objs.size + 1 + 1 + 1), oN2) :: (lf, listOf (List.toArray vs3) (nl2 + 1)) :: (I, io) :: (l2, lo2) :: (bag, listOf #[Value.ref sl, Value.int (spot2 + 1) ur] nb2) :: (la, oL) :: (((s1.heap.objs.size + 1 + 1), ocl2) :: (wr, listOf W.toArray nW) :: (bk, listOf K.toArray nK) :: rs))) rfl (UpdF.head (by (repeat (first | with_reducible assumption | with_reducible exact ne_nil | with_reducible refine ne_cons (by first | with_reducible assumption | exact Ne.symm (by with_reducible assumption) | (show @Ne Nat _ _; omega)) ?_)))) dN2 ?_ rfl rfl
        intro h7 oN3 F7 N7 dN3
        clear F6 N6
        k_steps
        unfold Hold
        obtain ⟨kvl, hDl, hRl⟩ := dR2
        have hkl : kvl.length ≤ 4 := by rw [hRl.length]; exact lR2
        have hnd : (kvl.map (·.1)).Nodup := by obtain ⟨_, _, _, _, _, _, hk0⟩ := hDl; exact hk0
        refine' comp_dict (h₀ := T.heap) (L := s1.heap.objs.size) (leftp x) (LeftG kvl) ?zhclos ?zhcell ?zhkind ?zhnames ?zhx ?zhh ?zgoal
        case zhclos => with_unfolding_all rfl
        case zhcell => decide
        case zhkind => rfl
        case zhnames => decide
        case zhx => rfl
        case zhh => rfl
        case zgoal =>
          walk1
          refine ⟨la, oL, kvl, h7, _, _, _, rfl, rfl, F7, N7, (by (repeat (first | with_reducible exact List.mem_cons_self | (with_reducible assumption) | refine List.mem_cons_of_mem _ ?_ | refine List.mem_append_right _ ?_))), hDl, lol, by omega, ?_, ?_, ?_⟩
          · intro C k y t h₃ tk₃ m₃ hky hn hm F₃ N₃
            k_steps
            · unfold leftp
              by_cases e : k = x <;> simp [e]
            · exact keeps_toks
          · intro C k y t h₃ tk₃ m₃ hky hpv hn hm F₃ N₃
            have hvk : valueAt kvl k = some y := by
              obtain ⟨i0, hi0, e0⟩ := List.getElem_of_mem hky
              exact valueAt_of_get hnd (i := i0) (by rw [List.getElem?_eq_getElem hi0, e0])
            clear F7 N7
            refine tup_left hvk ?_
            k_steps
            unfold Hold
            refine kda_item N₃ (by (repeat (first | with_reducible exact List.mem_cons_self | (with_reducible assumption) | refine List.mem_cons_of_mem _ ?_ | refine List.mem_append_right _ ?_))) hDl (intKind_is _ _ _ _) hvk ?_
            k_steps
            exact ⟨_, _, rfl, rfl⟩
          · intro D h8 tk8 us ys os n lD los F8 N8 hIs2 hit
            clear F7 N7
            k_steps
            unfold Hold
            refine kleft (line := x) rfl F8 N8 (Top.nolimit T) hDl (by omega) hIs2 hit (fun DD h9 tk9 oD F9 N9 ltD loD dD => ?_)
            clear F8 N8 lD los
            have d1 : @LT.lt Nat _ (s1.heap.objs.size + 1 + 1 + 1) DD := ltD _ (.head _)
            have d2 : @LT.lt Nat _ lf DD := ltD _ (.tail _ (.head _))
            have d3 : @LT.lt Nat _ I DD := ltD _ (.tail _ (.tail _ (.head _)))
            have d4 : @LT.lt Nat _ l2 DD := ltD _ (.tail _ (.tail _ (.tail _ (.head _))))
            have d5 : @LT.lt Nat _ bag DD := ltD _ (.tail _ (.tail _ (.tail _ (.tail _ (.head _)))))
            have d6 : @LT.lt Nat _ la DD := ltD _ (.tail _ (.tail _ (.tail _ (.tail _ (.tail _ (.head _))))))
            have d7 : ∀ p ∈ (((s1.heap.objs.size + 1 + 1), ocl2) :: (wr, listOf W.toArray nW) :: (bk, listOf K.toArray nK) :: rs), p.1 < DD := fun p hp => ltD _ (.tail _ (.tail _ (.tail _ (.tail _ (.tail _ (.tail _ hp))))))
            have d8 : ∀ p ∈ (((s1.heap.objs.size + 1 + 1), ocl2) :: (wr, listOf W.toArray nW) :: (bk, listOf K.toArray nK) :: rs), p.1 ≠ DD := lt_ne d7
            clear ltD
            k_steps
            rename_i F10 N10
            clear d8
            have d8 : ∀ p ∈ (((s1.heap.objs.size + 1 + 1), ocl2) :: (wr, listOf W.toArray nW) :: (bk, listOf K.toArray nK) :: rs), p.1 ≠ DD := lt_ne d7
            clear d7
            unfold Hold
            obtain ⟨kv0, hD0, hR00⟩ := id da0
            have hwl : (without kvl x).length ≤ 4 := Nat.le_trans (List.length_filter_le _ _) hkl
            refine join_at F10 N10 (fun o => ∃ X, DictIs w o X ∧ Good X ∧ ∀ k, get X k = if k = x then get (Ps 0) k else get R2 k) ?jone ?jrest
            case jone =>
              intro PP5 hPP5
              refine wpAny_If ?_
              k_steps
              unfold Hold
              refine kget N10 (by (repeat (first | with_reducible exact List.mem_cons_self | (with_reducible assumption) | refine List.mem_cons_of_mem _ ?_ | refine List.mem_append_right _ ?_))) (by omega) (by omega) (v := Value.ref a0) ea0 ?_
              k_steps
              unfold Hold
              rcases hR00.at x with ⟨y, ty, e, q, hq⟩ | ⟨e, q, hq⟩
              · refine kda_in N10 (by (repeat (first | with_reducible exact List.mem_cons_self | (with_reducible assumption) | refine List.mem_cons_of_mem _ ?_ | refine List.mem_append_right _ ?_))) hD0 la0 (intKind_is _ _ _ _) true (by rw [e]; rfl) ?_
                k_steps
                unfold Hold
                refine kget N10 (by (repeat (first | with_reducible exact List.mem_cons_self | (with_reducible assumption) | refine List.mem_cons_of_mem _ ?_ | refine List.mem_append_right _ ?_))) (by omega) (by omega) (v := Value.ref a0) ea0 ?_
                k_steps
                unfold Hold
                refine kdg N10 (by (repeat (first | with_reducible exact List.mem_cons_self | (with_reducible assumption) | refine List.mem_cons_of_mem _ ?_ | refine List.mem_append_right _ ?_))) hD0 e ?_
                k_steps
                unfold Hold
                refine kput F10 N10 (UpdF.head (by (repeat (first | with_reducible assumption | with_reducible exact ne_nil | with_reducible refine ne_cons (by first | with_reducible assumption | exact Ne.symm (by with_reducible assumption) | (show @Ne Nat _ _; omega)) ?_)))) dD (by rw [sizeLine_eq]; omega) (fun h10 oX F11 N11 dX0 => ?_)
                k_steps
                obtain ⟨gX, hX⟩ := left_due gR2 g0 hxn q
                exact hPP5 _ _ oX F11 N11 ⟨_, ⟨_, dX0, (hRl.without x).stored x y ty⟩, gX, hX⟩
              · refine kda_in N10 (by (repeat (first | with_reducible exact List.mem_cons_self | (with_reducible assumption) | refine List.mem_cons_of_mem _ ?_ | refine List.mem_append_right _ ?_))) hD0 la0 (intKind_is _ _ _ _) false (by rw [e]; rfl) ?_
                k_steps
                obtain ⟨gX, hX⟩ := left_due0 gR2 q
                exact hPP5 _ _ oD F10 N10 ⟨_, ⟨_, dD, hRl.without x⟩, gX, hX⟩
            case jrest =>
              rintro h10 tk10 oX F11 N11 ⟨X, dX, gX, hX⟩
              clear F10 N10
              k_steps
              unfold Hold
              refine for_ints [5, 4, 3, 2, 1, 0] (fun l lo => LineJ w (fun y => if y = Str.ofString "due" then some (Value.ref DD) else if y = Str.ofString "many" then some (Value.int ((4 - i : Nat) : Int) kt) else upn leftNames (withLeft (fun y => if y = Str.ofString "were" then some (Value.ref wr) else if y = Str.ofString "backs" then some (Value.ref bk) else if y = Str.ofString "due" then some (Value.ref dd) else if y = Str.ofString "program" then some (Value.ref pd) else if y = Str.ofString "bag" then some (Value.ref bag) else if y = Str.ofString "texts" then some (Value.ref tx) else m0 y) lf) f3 y) la ((DD, oX) :: ((s1.heap.objs.size + 1 + 1 + 1), oN3) :: (lf, listOf (List.toArray vs3) (nl2 + 1)) :: (I, io) :: (l2, lo2) :: (bag, listOf #[Value.ref sl, Value.int (spot2 + 1) ur] nb2) :: (((s1.heap.objs.size + 1 + 1), ocl2) :: (wr, listOf W.toArray nW) :: (bk, listOf K.toArray nK) :: rs)) Ps x R2 l lo) F11 (kst_newsOf N11 (by (repeat (refine sub_cons (by first | with_reducible assumption | (repeat (first | with_reducible exact List.mem_cons_self | (with_reducible assumption) | refine List.mem_cons_of_mem _ ?_ | refine List.mem_append_right _ ?_))) ?_)); first | exact sub_nil | (refine sub_app ?_ ?_ <;> (intro p hp; repeat (first | exact hp | exact List.mem_append_left _ hp | refine List.mem_cons_of_mem _ ?_ | refine List.mem_append_right _ ?_))) | (intro p hp; repeat (first | exact hp | refine List.mem_cons_of_mem _ ?_ | refine List.mem_append_right _ ?_))) : News T.heap s1.heap.objs.size _ ((la, oL) :: ((DD, oX) :: ((s1.heap.objs.size + 1 + 1 + 1), oN3) :: (lf, listOf (List.toArray vs3) (nl2 + 1)) :: (I, io) :: (l2, lo2) :: (bag, listOf #[Value.ref sl, Value.int (spot2 + 1) ur] nb2) :: (((s1.heap.objs.size + 1 + 1), ocl2) :: (wr, listOf W.toArray nW) :: (bk, listOf K.toArray nK) :: rs)))) ?thevA ?thlenA ?tj0A ?thmemA ?tturnA ?tdoneA
              case thevA =>
                k_steps
                exact ⟨.cons _ _ (.cons _ _ (.cons _ _ (.cons _ _ (.cons _ _ (.cons _ _ .nil))))), _, rfl⟩
              case thlenA => decide
              case tj0A =>
                intro l3 lo3 hl3
                refine ⟨⟨_, upn_self⟩, oL, R2, rfl, Nat.ne_of_gt (hl3 _ (.head _)), ⟨_, hDl, hRl⟩, gR2, fun k => ?_⟩
                by_cases e : k = x
                · rw [if_pos e, e, hR2, if_pos (List.mem_append_right _ (.head _))]
                · rw [if_neg e]
              case thmemA =>
                rintro l3 lo3 i m led ⟨_, oL3, R3, rfl, _⟩
                exact .head _
              case tturnA =>
                rintro l3 lo3 i3 k3 kt3 m₃ led₃ I3 io3 h tk hk3 ⟨⟨f4, hm₃⟩, oL3, R3, hled, ly1, dR3, gR3, hR3⟩ hI3 F N PP3 hPP3
                subst hm₃
                subst hled
                clear F11 N11
                obtain ⟨hi6, rfl⟩ := down6 hk3
                obtain ⟨s6, n6, bb6, ys6, k6, eb6, mb6, p6, z6⟩ := run.step (5 - i3) (by omega)
                obtain ⟨g6, -⟩ := run.dict (5 - i3) (by omega)
                have e56 : 5 - i3 + 1 = 6 - i3 := by omega
                rw [e56] at s6
                have kl3 : l3 ≠ I3 := hI3 _ (.head _)
                have kla : la ≠ I3 := hI3 _ (.tail _ (.head _))
                have krest : ∀ p ∈ ((DD, oX) :: ((s1.heap.objs.size + 1 + 1 + 1), oN3) :: (lf, listOf (List.toArray vs3) (nl2 + 1)) :: (I, io) :: (l2, lo2) :: (bag, listOf #[Value.ref sl, Value.int (spot2 + 1) ur] nb2) :: (((s1.heap.objs.size + 1 + 1), ocl2) :: (wr, listOf W.toArray nW) :: (bk, listOf K.toArray nK) :: rs)), p.1 ≠ I3 := fun p hp => hI3 _ (.tail _ (.tail _ hp))
                clear hI3
                k_steps
                rename_i F12 N12
                unfold Hold
                refine for_name (h₀ := T.heap) (L := s1.heap.objs.size) (l := bb6) (vs := ys6) (lo := listOf ys6.toArray k6) rfl rfl (OneJ w _ la ((I3, io3) :: (l3, lo3) :: ((DD, oX) :: ((s1.heap.objs.size + 1 + 1 + 1), oN3) :: (lf, listOf (List.toArray vs3) (nl2 + 1)) :: (I, io) :: (l2, lo2) :: (bag, listOf #[Value.ref sl, Value.int (spot2 + 1) ur] nb2) :: (((s1.heap.objs.size + 1 + 1), ocl2) :: (wr, listOf W.toArray nW) :: (bk, listOf K.toArray nK) :: rs))) (ls (5 - i3)) (Ps (5 - i3)) (Ps (6 - i3)) x R2) F12 (kst_newsOf N12 (by (repeat (refine sub_cons (by first | with_reducible assumption | (repeat (first | with_reducible exact List.mem_cons_self | (with_reducible assumption) | refine List.mem_cons_of_mem _ ?_ | refine List.mem_append_right _ ?_))) ?_)); first | exact sub_nil | (refine sub_app ?_ ?_ <;> (intro p hp; repeat (first | exact hp | exact List.mem_append_left _ hp | refine List.mem_cons_of_mem _ ?_ | refine List.mem_append_right _ ?_))) | (intro p hp; repeat (first | exact hp | refine List.mem_cons_of_mem _ ?_ | refine List.mem_append_right _ ?_))) : News T.heap s1.heap.objs.size _ ((la, oL3) :: (I3, io3) :: (l3, lo3) :: ((DD, oX) :: ((s1.heap.objs.size + 1 + 1 + 1), oN3) :: (lf, listOf (List.toArray vs3) (nl2 + 1)) :: (I, io) :: (l2, lo2) :: (bag, listOf #[Value.ref sl, Value.int (spot2 + 1) ur] nb2) :: (((s1.heap.objs.size + 1 + 1), ocl2) :: (wr, listOf W.toArray nW) :: (bk, listOf K.toArray nK) :: rs)))) ⟨one_map0, oL3, R3, rfl, dR3, gR3, fun k => by rw [List.take_zero, if_neg List.not_mem_nil, hR3]⟩ ?umemA ?uevA ?uturnA ?udoneA
                case umemA =>
                  rintro j m led ⟨_, o1, R1, rfl, _⟩
                  exact (by (repeat (first | with_reducible exact List.mem_cons_self | (with_reducible assumption) | refine List.mem_cons_of_mem _ ?_ | refine List.mem_append_right _ ?_)))
                case uevA =>
                  k_steps
                  unfold Hold
                  refine kget N12 (by (repeat (first | with_reducible exact List.mem_cons_self | (with_reducible assumption) | refine List.mem_cons_of_mem _ ?_ | refine List.mem_append_right _ ?_))) (by omega) (by omega) (v := Value.ref bb6) (by rw [Int.toNat_natCast]; exact eb6) ?_
                  exact ⟨rfl, rfl⟩
                case uturnA =>
                  rintro j v m₄ led₄ I4 io4 h tk hv ⟨⟨f5, hm₄⟩, oL4, R4, hled, dR4, gR4, hR4⟩ hI4 F N PP4 hPP4
                  subst hm₄
                  subst hled
                  obtain ⟨t6, k7, tk7, ts7, n7, rfl, hl7, mt7⟩ := p6.at hv
                  clear F12 N12
                  have jla : la ≠ I4 := hI4 _ (.head _)
                  have jrest : ∀ p ∈ ((I3, io3) :: (l3, lo3) :: ((DD, oX) :: ((s1.heap.objs.size + 1 + 1 + 1), oN3) :: (lf, listOf (List.toArray vs3) (nl2 + 1)) :: (I, io) :: (l2, lo2) :: (bag, listOf #[Value.ref sl, Value.int (spot2 + 1) ur] nb2) :: (((s1.heap.objs.size + 1 + 1), ocl2) :: (wr, listOf W.toArray nW) :: (bk, listOf K.toArray nK) :: rs))), p.1 ≠ I4 := fun p hp => hI4 _ (.tail _ hp)
                  clear hI4
                  refine' unpackN_ F N (News.isTup N (by (repeat (first | with_reducible exact List.mem_cons_self | (with_reducible assumption) | refine List.mem_cons_of_mem _ ?_ | refine List.mem_append_right _ ?_)))) rfl rfl rfl ?_
                  intro h5 F13 N13
                  clear F N
                  k_steps
                  · rename Fr T.heap _ _ _ => F14
                    rename News T.heap _ _ _ => N14
                    rename_i he
                    subst he
                    unfold Hold
                    refine' undo_row_spec w (outer := []) (P := Ps (5 - i3)) (R := R4) (k := k7) K0 F14 KX T ?xhkA (kst_newsOf N14 (by (repeat (refine sub_cons (by first | with_reducible assumption | (repeat (first | with_reducible exact List.mem_cons_self | (with_reducible assumption) | refine List.mem_cons_of_mem _ ?_ | refine List.mem_append_right _ ?_))) ?_)); first | exact sub_nil | (refine sub_app ?_ ?_ <;> (intro p hp; repeat (first | exact hp | exact List.mem_append_left _ hp | refine List.mem_cons_of_mem _ ?_ | refine List.mem_append_right _ ?_))) | (intro p hp; repeat (first | exact hp | refine List.mem_cons_of_mem _ ?_ | refine List.mem_append_right _ ?_))) : News T.heap s1.heap.objs.size _ ((la, oL4) :: (I4, io4) :: (I3, io3) :: (l3, lo3) :: ((DD, oX) :: ((s1.heap.objs.size + 1 + 1 + 1), oN3) :: (lf, listOf (List.toArray vs3) (nl2 + 1)) :: (I, io) :: (l2, lo2) :: (bag, listOf #[Value.ref sl, Value.int (spot2 + 1) ur] nb2) :: (((s1.heap.objs.size + 1 + 1), ocl2) :: (wr, listOf W.toArray nW) :: (bk, listOf K.toArray nK) :: rs)))) (by (repeat (first | with_reducible assumption | with_reducible exact ne_nil | with_reducible refine ne_cons (by first | with_reducible assumption | exact Ne.symm (by with_reducible assumption) | (show @Ne Nat _ _; omega)) ?_))) dR4 g6 gR4 hxn (one_has s6 hl7 hR4) lol ?xhdA ?xhuA ?_
                    case xhkA => exact rfl
                    case xhdA => ktr_room
                    case xhuA => ktr_units
                    intro h8 o8 tk8 R8 gR8 hR8 F15 N15 dR8
                    clear F14 N14
                    k_steps
                    have N16 := (kst_newsOf N15 (by (repeat (refine sub_cons (by first | with_reducible assumption | (repeat (first | with_reducible exact List.mem_cons_self | (with_reducible assumption) | refine List.mem_cons_of_mem _ ?_ | refine List.mem_append_right _ ?_))) ?_)); first | exact sub_nil | (refine sub_app ?_ ?_ <;> (intro p hp; repeat (first | exact hp | exact List.mem_append_left _ hp | refine List.mem_cons_of_mem _ ?_ | refine List.mem_append_right _ ?_))) | (intro p hp; repeat (first | exact hp | refine List.mem_cons_of_mem _ ?_ | refine List.mem_append_right _ ?_))) : News T.heap s1.heap.objs.size _ ((I4, io4) :: (la, o8) :: (I3, io3) :: (l3, lo3) :: ((DD, oX) :: ((s1.heap.objs.size + 1 + 1 + 1), oN3) :: (lf, listOf (List.toArray vs3) (nl2 + 1)) :: (I, io) :: (l2, lo2) :: (bag, listOf #[Value.ref sl, Value.int (spot2 + 1) ur] nb2) :: (((s1.heap.objs.size + 1 + 1), ocl2) :: (wr, listOf W.toArray nW) :: (bk, listOf K.toArray nK) :: rs))))
                    have hne : ∀ p ∈ ((la, o8) :: (I3, io3) :: (l3, lo3) :: ((DD, oX) :: ((s1.heap.objs.size + 1 + 1 + 1), oN3) :: (lf, listOf (List.toArray vs3) (nl2 + 1)) :: (I, io) :: (l2, lo2) :: (bag, listOf #[Value.ref sl, Value.int (spot2 + 1) ur] nb2) :: (((s1.heap.objs.size + 1 + 1), ocl2) :: (wr, listOf W.toArray nW) :: (bk, listOf K.toArray nK) :: rs))), p.1 ≠ I4 := (by (repeat (first | with_reducible assumption | with_reducible exact ne_nil | with_reducible refine ne_cons (by first | with_reducible assumption | exact Ne.symm (by with_reducible assumption) | (show @Ne Nat _ _; omega)) ?_)))
                    refine hPP4 _ _ (ForPost.mk F15 N16 ?_ ?_)
                    · with_reducible exact hne
                    · exact ⟨one_map, o8, R8, rfl, dR8, gR8, one_step hl7 hR4 hR8⟩
                  · rename Fr T.heap _ _ _ => F14
                    rename News T.heap _ _ _ => N14
                    rename_i he
                    have N16 := (kst_newsOf N14 (by (repeat (refine sub_cons (by first | with_reducible assumption | (repeat (first | with_reducible exact List.mem_cons_self | (with_reducible assumption) | refine List.mem_cons_of_mem _ ?_ | refine List.mem_append_right _ ?_))) ?_)); first | exact sub_nil | (refine sub_app ?_ ?_ <;> (intro p hp; repeat (first | exact hp | exact List.mem_append_left _ hp | refine List.mem_cons_of_mem _ ?_ | refine List.mem_append_right _ ?_))) | (intro p hp; repeat (first | exact hp | refine List.mem_cons_of_mem _ ?_ | refine List.mem_append_right _ ?_))) : News T.heap s1.heap.objs.size _ ((I4, io4) :: (la, oL4) :: (I3, io3) :: (l3, lo3) :: ((DD, oX) :: ((s1.heap.objs.size + 1 + 1 + 1), oN3) :: (lf, listOf (List.toArray vs3) (nl2 + 1)) :: (I, io) :: (l2, lo2) :: (bag, listOf #[Value.ref sl, Value.int (spot2 + 1) ur] nb2) :: (((s1.heap.objs.size + 1 + 1), ocl2) :: (wr, listOf W.toArray nW) :: (bk, listOf K.toArray nK) :: rs))))
                    have hne : ∀ p ∈ ((la, oL4) :: (I3, io3) :: (l3, lo3) :: ((DD, oX) :: ((s1.heap.objs.size + 1 + 1 + 1), oN3) :: (lf, listOf (List.toArray vs3) (nl2 + 1)) :: (I, io) :: (l2, lo2) :: (bag, listOf #[Value.ref sl, Value.int (spot2 + 1) ur] nb2) :: (((s1.heap.objs.size + 1 + 1), ocl2) :: (wr, listOf W.toArray nW) :: (bk, listOf K.toArray nK) :: rs))), p.1 ≠ I4 := (by (repeat (first | with_reducible assumption | with_reducible exact ne_nil | with_reducible refine ne_cons (by first | with_reducible assumption | exact Ne.symm (by with_reducible assumption) | (show @Ne Nat _ _; omega)) ?_)))
                    refine hPP4 _ _ (ForPost.mk F14 N16 ?_ ?_)
                    · with_reducible exact hne
                    · exact ⟨one_map, oL4, R4, rfl, dR4, gR4, one_skip hl7 he hR4⟩
                case udoneA =>
                  rintro h tk m₄ led₄ ⟨⟨f5, hm₄⟩, oL4, R4, hled, dR4, gR4, hR4⟩ F N
                  subst hm₄
                  subst hled
                  clear F12 N12
                  have hA4 := one_done s6 p6.length hR4
                  k_steps
                  have e6 : 6 - (i3 + 1) = 5 - i3 := by omega
                  have hne : ∀ p ∈ ((l3, lo3) :: (la, oL4) :: ((DD, oX) :: ((s1.heap.objs.size + 1 + 1 + 1), oN3) :: (lf, listOf (List.toArray vs3) (nl2 + 1)) :: (I, io) :: (l2, lo2) :: (bag, listOf #[Value.ref sl, Value.int (spot2 + 1) ur] nb2) :: (((s1.heap.objs.size + 1 + 1), ocl2) :: (wr, listOf W.toArray nW) :: (bk, listOf K.toArray nK) :: rs))), p.1 ≠ I3 := (by (repeat (first | with_reducible assumption | with_reducible exact ne_nil | with_reducible refine ne_cons (by first | with_reducible assumption | exact Ne.symm (by with_reducible assumption) | (show @Ne Nat _ _; omega)) ?_)))
                  refine hPP3 _ _ (ForPost.mk F (kst_newsOf N (by (repeat (refine sub_cons (by first | with_reducible assumption | (repeat (first | with_reducible exact List.mem_cons_self | (with_reducible assumption) | refine List.mem_cons_of_mem _ ?_ | refine List.mem_append_right _ ?_))) ?_)); first | exact sub_nil | (refine sub_app ?_ ?_ <;> (intro p hp; repeat (first | exact hp | exact List.mem_append_left _ hp | refine List.mem_cons_of_mem _ ?_ | refine List.mem_append_right _ ?_))) | (intro p hp; repeat (first | exact hp | refine List.mem_cons_of_mem _ ?_ | refine List.mem_append_right _ ?_))) : News T.heap s1.heap.objs.size _ ((I3, io3) :: (l3, lo3) :: (la, oL4) :: ((DD, oX) :: ((s1.heap.objs.size + 1 + 1 + 1), oN3) :: (lf, listOf (List.toArray vs3) (nl2 + 1)) :: (I, io) :: (l2, lo2) :: (bag, listOf #[Value.ref sl, Value.int (spot2 + 1) ur] nb2) :: (((s1.heap.objs.size + 1 + 1), ocl2) :: (wr, listOf W.toArray nW) :: (bk, listOf K.toArray nK) :: rs)))) ?_ ?_)
                  · with_reducible exact hne
                  · exact ⟨line_map, oL4, R4, rfl, ly1, dR4, gR4, fun k => by rw [e6]; exact hA4 k⟩
              case tdoneA =>
                rintro l3 lo3 h tk m₃ led₃ ⟨⟨f4, hm₃⟩, oL3, R3, hled, ly1, dR3, gR3, hR3⟩ F N
                subst hm₃
                subst hled
                clear F11 N11
                have lR3 := gR3.length
                have hR5 : ∀ k, get R3 k = if k = x then get (Ps 0) x else get R2 k := hR3
                have pR3 := perm_of_get gR3.keys gX.keys (fun k => by rw [hR5, hX]; by_cases e : k = x <;> simp [e])
                k_steps
                unfold Hold
                refine' law_same_spec w (outer := []) K0 F KX T ?whkA (kst_newsOf N (by (repeat (refine sub_cons (by first | with_reducible assumption | (repeat (first | with_reducible exact List.mem_cons_self | (with_reducible assumption) | refine List.mem_cons_of_mem _ ?_ | refine List.mem_append_right _ ?_))) ?_)); first | exact sub_nil | (refine sub_app ?_ ?_ <;> (intro p hp; repeat (first | exact hp | exact List.mem_append_left _ hp | refine List.mem_cons_of_mem _ ?_ | refine List.mem_append_right _ ?_))) | (intro p hp; repeat (first | exact hp | refine List.mem_cons_of_mem _ ?_ | refine List.mem_append_right _ ?_))) : News T.heap s1.heap.objs.size _ ((la, oL3) :: (DD, oX) :: (l3, lo3) :: ((DD, oX) :: ((s1.heap.objs.size + 1 + 1 + 1), oN3) :: (lf, listOf (List.toArray vs3) (nl2 + 1)) :: (I, io) :: (l2, lo2) :: (bag, listOf #[Value.ref sl, Value.int (spot2 + 1) ur] nb2) :: (((s1.heap.objs.size + 1 + 1), ocl2) :: (wr, listOf W.toArray nW) :: (bk, listOf K.toArray nK) :: rs)))) dR3 dX pR3 (fun p hp => (gR3.fine p hp).toLineOk) ?wlenA lol loD ?whdA ?whuA ?_
                case whkA => exact rfl
                case wlenA => omega
                case whdA => ktr_room
                case whuA => ktr_units
                intro h14 tk14 F14 N14
                clear F N
                k_steps
                have N15 := (kst_newsOf N14 (by (repeat (refine sub_cons (by first | with_reducible assumption | (repeat (first | with_reducible exact List.mem_cons_self | (with_reducible assumption) | refine List.mem_cons_of_mem _ ?_ | refine List.mem_append_right _ ?_))) ?_)); first | exact sub_nil | (refine sub_app ?_ ?_ <;> (intro p hp; repeat (first | exact hp | exact List.mem_append_left _ hp | refine List.mem_cons_of_mem _ ?_ | refine List.mem_append_right _ ?_))) | (intro p hp; repeat (first | exact hp | refine List.mem_cons_of_mem _ ?_ | refine List.mem_append_right _ ?_))) : News T.heap s1.heap.objs.size _ ((I, io) :: (l2, lo2) :: (bag, listOf #[Value.ref sl, Value.int (spot2 + 1) ur] nb2) :: (lf, listOf (List.toArray vs3) (nl2 + 1)) :: (la, oL3) :: ((s1.heap.objs.size + 1 + 1 + 1), oN3) :: (((s1.heap.objs.size + 1 + 1), ocl2) :: (wr, listOf W.toArray nW) :: (bk, listOf K.toArray nK) :: rs)))
                have hne : ∀ p ∈ ((l2, lo2) :: (bag, listOf #[Value.ref sl, Value.int (spot2 + 1) ur] nb2) :: (lf, listOf (List.toArray vs3) (nl2 + 1)) :: (la, oL3) :: ((s1.heap.objs.size + 1 + 1 + 1), oN3) :: (((s1.heap.objs.size + 1 + 1), ocl2) :: (wr, listOf W.toArray nW) :: (bk, listOf K.toArray nK) :: rs)), p.1 ≠ I := (by (repeat (first | with_reducible assumption | with_reducible exact ne_nil | with_reducible refine ne_cons (by first | with_reducible assumption | exact Ne.symm (by with_reducible assumption) | (show @Ne Nat _ _; omega)) ?_)))
                have hrn2 : (p1 ++ p2).Nodup := (List.Sublist.append (List.Sublist.refl p1) (List.sublist_cons_self x p2)).nodup hrn
                have hrl2 : (p1 ++ p2).length + (i + 1) = 4 := by rw [List.length_append] at hrl ⊢; rw [List.length_cons] at hrl; omega
                have hrs2 : ∀ k ∈ p1 ++ p2, k ∈ nums := fun k hk => hrs k ((List.mem_append.mp hk).elim (List.mem_append_left _) (fun z => List.mem_append_right _ (.tail _ z)))
                refine hPP _ _ (ForPost.mk F14 N15 ?_ ?_)
                · with_reducible exact hne
                · exact ⟨left_map2, spot2 + 1, _, _, oL3, oN3, _, R3, vs3, p1 ++ p2, _, rfl, lx1, lx2, lx3, lx4, dN3, iR3, hrl2, hrn2, hrs2, by omega, by omega, dR3, gR3, left_next hrn hR2 hR5⟩
      case ldone =>
        rintro l2 lo2 h tk m₁ led₁ ⟨⟨f3, hm₁⟩, spot2, t2, nb2, oL, oN2, cv2, R2, vs2, rem2, nl2, hled, lx1, lx2, lx3, lx4, dN2, iR, hrl, hrn, hrs, hz0, hz1, dR2, gR2, hR2⟩ F N
        subst hm₁
        subst hled
        clear F2 N2
        have hrem : rem2 = [] := List.length_eq_zero_iff.mp (by simp only [List.length_cons, List.length_nil] at hrl; omega)
        obtain ⟨g0, a0, o0, ea0, ma0, da0, la0⟩ := run.dict 0 (by omega)
        have hR0 : ∀ k, get R2 k = get (Ps 0) k := fun k => by rw [hR2, if_neg (by rw [hrem]; exact List.not_mem_nil)]
        have pR0 := perm_of_get gR2.keys g0.keys hR0
        k_steps
        unfold Hold
        refine kget N (by (repeat (first | with_reducible exact List.mem_cons_self | (with_reducible assumption) | refine List.mem_cons_of_mem _ ?_ | refine List.mem_append_right _ ?_))) (by omega) (by omega) (v := Value.ref a0) ea0 ?_
        k_steps
        unfold Hold
        refine keq_same N (by (repeat (first | with_reducible exact List.mem_cons_self | (with_reducible assumption) | refine List.mem_cons_of_mem _ ?_ | refine List.mem_append_right _ ?_))) (by (repeat (first | with_reducible exact List.mem_cons_self | (with_reducible assumption) | refine List.mem_cons_of_mem _ ?_ | refine List.mem_append_right _ ?_))) dR2 da0 lol la0 pR0 ?vhu ?_
        case vhu => ktr_units
        k_steps
end

end Mine
theorem PySem.Challenge.cw_xm0026_01_holds : PySem.Challenge.rw_xm0026_01.Holds :=
  Mine.law_walked
