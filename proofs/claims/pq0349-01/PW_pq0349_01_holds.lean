import PyProof.Rows.All
import Wide.All
import OpenK.AllK
import Wide.FinOn
import PySem.Challenge.RW_pq0349_01
set_option Elab.async false
set_option rowWalk.seconds 0
set_option linter.all false
section
open PySem PySem.W PyProof.Rows
set_option Elab.async false
set_option maxRecDepth 100000
namespace Mine
abbrev rr := PySem.Challenge.rw_pq0349_01.row.toRowW
def view : Program := PySem.W.view rr.1 [1, 2, 3, 4, 5, 7, 8, 9, 10, 12, 13, 14, 15, 16, 17, 18, 20, 21, 22, 23, 24, 25, 26, 27, 28, 29, 30, 31]
theorem left_of_boot {p : Program} {N : Nat} {β : Type} {F : Shared → β} {G : World → β} (e : opening p = plainProg p.main.scope.names) (hN : Nat.ble 600 N = true) (f : ∀ s, fenceModules? p s = some s)
    (h : ∀ w os, (topFrom treeTable p w N ⟨boot_heap w.params, Array.mk [], boot_drawn, boot_toks, os⟩).map F = some (G w)) (w : World) : (openEnds treeTable p w N).map F = some (G w) := by
  obtain ⟨s, hs, hv⟩ := Option.map_eq_some_iff.mp (boot_open e hN f w)
  unfold openEnds
  rw [hs]
  obtain ⟨hp, g, d, t, os⟩ := s
  have e1 := congrArg Prod.fst hv
  have e2 := congrArg (fun x => x.2.1) hv
  have e3 := congrArg (fun x => x.2.2.1) hv
  have e4 := congrArg (fun x => x.2.2.2) hv
  dsimp only at e1 e2 e3 e4
  subst e1 e2 e3 e4
  exact h w os
end Mine
local macro_rules
  | `(tactic| o_head $H) => `(tactic| (
      refine PySem.W.holds_open (q := Mine.view) (loose := []) (Xt := fun s => xlAt Mine.view [] s && recOk (RowW.records Mine.rr) s) (XP := XL Mine.view []) (Yf := Hook.obs $H) (Ya := Hook.val $H) (YP := Hook.says $H) (N := 3406) ?hl (Hook.of $H) (Hook.keeps $H) (fun s e => xl_of s (Bool.and_eq_true_iff.mp e).1) XL.keeps (by rfl) (by rfl) (by rfl) (fun s e => recFacts_of (Bool.and_eq_true_iff.mp e).2) (by rfl) (by first | assumption | decide +kernel) (by decide +kernel) ⟨rfl, rfl, rfl, rfl, rfl, by decide +kernel⟩ ?hw ?hc
      case hl => (refine Mine.left_of_boot (by kernel_rfl) (by rfl) (fun _ => by kernel_rfl) ?_; intro w os; unfold topFrom; rw [PySem.W.Fast.te14082659384304107361, PySem.W.Fast.te14364793385576792824, PySem.W.Fast.te4187177175401517315, PySem.W.Fast.te8920871248978507458, PySem.W.Fast.te5923862056798008813]; kernel_rfl)))
namespace Mine
set_option maxHeartbeats 8000000 in
open_top hd for PySem.Challenge.rw_pq0349_01

end Mine
end
theorem Mine.topOff : True := by
  w_top off
  trivial
section
open PySem PySem.W PyProof.Rows PySem.Calls PySem.Spec
set_option Elab.async false
set_option maxRecDepth 100000
namespace Mine

abbrev PP : Program := PySem.Challenge.rw_pq0349_01.row.prog

/-- everything of `h` that is not in `mods` stands in `h'` -/
def Kept (mods : List Addr) (h h' : Heap) : Prop := ∀ b o, h.get? b = some o → b ∉ mods → h'.get? b = some o

theorem Kept.refl {mods : List Addr} {h : Heap} : Kept mods h h := fun _ _ e _ => e
theorem Kept.trans {mods : List Addr} {h h' h'' : Heap} (x : Kept mods h h') (y : Kept mods h' h'') : Kept mods h h'' := fun b o e n => y b o (x b o e n) n
theorem Kept.mono {m₁ m₂ : List Addr} {h h' : Heap} (x : Kept m₁ h h') (s : ∀ a ∈ m₁, a ∈ m₂) : Kept m₂ h h' := fun b o e n => x b o e fun q => n (s b q)
theorem Kept.of {mods : List Addr} {h h' : Heap} (x : ∀ b o, h.get? b = some o → h'.get? b = some o) : Kept mods h h' := fun b o e _ => x b o e
theorem Kept.all {h h' : Heap} (x : Kept [] h h') : ∀ b o, h.get? b = some o → h'.get? b = some o := fun b o e => x b o e (fun h => nomatch h)

/-- a callee's frame over `g`, where `g` bears all of `h` but `mods`: all but `mods` is kept -/
theorem kept_of_fr {mods : List Addr} {h g h' : Heap} {L : Addr} {m : Str → Option Value} (hg : ∀ b o, h.get? b = some o → b ∉ mods → g.get? b = some o) (F : Fr g L h' m) : Kept mods h h' :=
  fun b o e n => F.keep b o (hg b o e n)

/-- the end of a callee: what stood and is not in `mods` stands -/
theorem kept_end {mods : List Addr} {news : List (Addr × Obj)} {h g h' : Heap} {L : Addr} {m : Str → Option Value} (hg : ∀ b o, h.get? b = some o → b ∉ news.map (·.1) → g.get? b = some o) (h0 : ∀ p ∈ news, h.get? p.1 = some p.2) (F : Fr g L h' m)
    (hs : ∀ p ∈ news, p.1 ∉ mods → h'.get? p.1 = some p.2) : Kept mods h h' := fun b o e n => by
  by_cases q : b ∈ news.map (·.1)
  · obtain ⟨p, hp, rfl⟩ := List.mem_map.mp q
    have := h0 p hp
    rw [e] at this
    cases this
    exact hs p hp n
  · exact F.keep b o (hg b o e q)

theorem fr_kept {mods : List Addr} {h₀ h h' : Heap} {L : Addr} {m : Str → Option Value} (F : Fr h₀ L h m) (k : Kept mods h h') (hm : ∀ a ∈ mods, h₀.get? a = none ∧ a ≠ L) : Fr h₀ L h' m := by
  obtain ⟨⟨oL, es, ep, hL, r⟩, kp, ab⟩ := F
  exact ⟨⟨oL, es, ep, k L oL hL (fun q => (hm L q).2 rfl), r⟩, fun b o e => k b o (kp b o e) (fun q => by rw [(hm b q).1] at e; cases e), ab⟩

theorem news_kept {mods : List Addr} {h₀ h h' : Heap} {L : Addr} {news : List (Addr × Obj)} (N : News h₀ L h news) (k : Kept mods h h') (hm : ∀ p ∈ news, p.1 ∉ mods) : News h₀ L h' news :=
  fun p hp => ⟨k _ _ (N p hp).1 (hm p hp), (N p hp).2⟩

theorem fresh_lt {h : Heap} {L a : Addr} (hL : L < h.objs.size) (e : h.objs.size ≤ a) : L < a := Nat.lt_of_lt_of_le hL e
theorem get_none_of_le {h : Heap} {a : Addr} (e : h.objs.size ≤ a) : h.get? a = none := Heap.get?_none_of_le e

/-- the frame's map at a call: the bindings, the last one first -/
def bindM : List (Str × Value) → Str → Option Value
  | [], _ => none
  | (a, v) :: r, y => if y = a then some v else bindM r y
theorem lookup_bindM (y : Str) : ∀ l : List (Str × Value), l.lookup y = bindM l y
  | [] => rfl
  | (a, v) :: r => by
    rw [List.lookup_cons, bindM]
    by_cases q : y = a
    · subst q; simp
    · have : (y == a) = false := by simpa using q
      rw [this, if_neg q]; exact lookup_bindM y r

section
variable {prog : Program} {w : World} {A A₀ : Around} {s : Shared} {K : Frag} {base h₀ : Heap} {outer : List Env} {L : Addr} {m mg mb : Str → Option Value} {env : Env} {news : List (Addr × Obj)} {p : Program} {loose : List Str} {mean : ExcName → Option Value}
  {R : Result → Shared → Prop} {name qual : Str} {params : Arguments} {body : List Stmt} {scope : Scope} {dV kV doc pm cdv ct oc : Value} {an od : Option Addr} {osl : Array (Option Value)} {f : Addr} {args : Args}

/-- the call of a def: as the library's, but the callee's ground is told to bear all that is not on the ledger, and the end is bare -/
theorem enterP (rb : List (Str × Value)) (B : Below A₀ base outer h₀) (F : Fr h₀ L s.heap m) (X₀ : K.In h₀) (N : News h₀ L s.heap news) (T : Top p loose mean mg mb h₀) (hA : A.frames = some (env :: outer)) (hf : env.frame = some L) (hke : env.scope.kind = .function)
    (ho : K.lookup f = some ⟨oc, od, .func (fnOf name qual params body scope dV kV doc pm an cdv ct), osl⟩) (hcd : codeIn K cdv qual = true) (hroom : A.depth < recursionLimit)
    (hbind : BindsTo s (fnOf name qual params body scope dV kV doc pm an cdv ct) args rb.reverse) (hloc : ∀ y ∈ rb.reverse, scope.names.lookup y.1 = some .local)
    (h : ∀ g L' h₁ tk, (∀ b o, s.heap.get? b = some o → b ∉ news.map (·.1) → g.get? b = some o) → s.heap.objs.size ≤ L' → Fr g L' h₁ (fun y => bindM rb y) → News g L' h₁ news → Below A base (env :: outer) g → K.In g → Top p loose mean mg mb g →
      wpAny (model prog w) (A.deeper (envOf qual scope L' f cdv)) (execs body (envOf qual scope L' f cdv))
        (fun fl s' => R (.ok (.ret (match fl with | .ret v => v | _ => .none))) s')
        (fun e s' => wpAny (model prog w) (A.deeper (envOf qual scope L' f cdv)) (leaving (envOf qual scope L' f cdv) e) (fun _ s'' => R (.error e) s'') (fun e' s'' => R (.error e') s'') s')
        { s with heap := h₁, toks := tk })
    (hco : scope.isCoroutine = false) (hgen : scope.isGenerator = false) (hk : scope.kind = .function)
    (hcell : ∀ x ∈ scope.names, x.2 ≠ .cell) : codeAny (model prog w) A (.call (.ref f) args) R s := by
  obtain ⟨FG, BG, st, _⟩ := groundX (R := R) B F N hA hf hke
  have X := X₀.keeps F.keep
  refine codeAny_call_def (fd := fnX name qual params body scope [] dV kV doc pm an cdv ct) (body := body) (binds := rb.reverse) hroom (X _ _ ho) rfl (T.nolimit.keeps F.keep) (codeRec_of X hcd) rfl hbind hcell hloc (fun h₁ hns hk₁ => ?_) hco hgen hk
  rw [List.reverse_reverse, show (fun x => rb.lookup x) = fun x => bindM rb x from funext fun y => lookup_bindM y rb] at hns
  exact h _ s.heap.objs.size h₁ _ (fun b o e nb => hideAll_get _ e nb) (Nat.le_refl _) ⟨hns, fun b o e => hk₁ b o (of_hideAll _ e), Nat.le_of_eq (hideAll_size _ _)⟩
    (fun p hp => ⟨hk₁ _ _ (N p hp).1, Nat.ne_of_lt (Heap.lt_size (N p hp).1), hideAll_none _ (List.mem_map_of_mem hp)⟩) BG (X₀.keeps st) (T.keeps st)
end
/-- the goal by a name, while words are taken apart: the motives stay small -/
theorem byG {G : Prop} (h : ∀ G' : Prop, (G → G') → G') : G := h G id
/-- what comes behind is called by a name while a piece is walked: the proof's term stays small -/
theorem gen1 {M : Model} {A : Around} {α : Type} {m : Sem α} {Q0 : α → Shared → Prop} {E : Value → Shared → Prop} {s : Shared} (h : ∀ Qq, Q0 = Qq → wpAny M A m Qq E s) : wpAny M A m Q0 E s := h Q0 rfl
theorem letAE {M : Model} {A0 : Around} {α : Type} {m : Sem α} {Q : α → Shared → Prop} {E0 : Value → Shared → Prop} {s : Shared} (h : let A := A0; let E := E0; wpAny M A m Q E s) : wpAny M A0 m Q E0 s := h
theorem genT {M : Model} {A : Around} {m : Sem Unit} {body : List Stmt} {env : Env} {R0 : Flow → Shared → Prop} {E : Value → Shared → Prop} {s : Shared} (h : ∀ R, R0 = R → wpAny M A m (fun _ s₃ => wpAny M A (execs body env) R E s₃) E s) : wpAny M A m (fun _ s₃ => wpAny M A (execs body env) R0 E s₃) E s := h R0 rfl
section
variable {α : Type} {a b c d e x y : α} {l l' A B : List α} {P : α → Prop}
theorem all_nil : ∀ p ∈ ([] : List α), P p := fun _ h => nomatch h
theorem all_cons (h : P a) (t : ∀ p ∈ l, P p) : ∀ p ∈ a :: l, P p := fun _ hp => (List.mem_cons.mp hp).elim (fun q => q ▸ h) (t _)
theorem all_app (h : ∀ p ∈ A, P p) (t : ∀ p ∈ B, P p) : ∀ p ∈ A ++ B, P p := fun p hp => (List.mem_append.mp hp).elim (h p) (t p)
theorem sub_cons (h : a ∈ l') (t : ∀ p ∈ l, p ∈ l') : ∀ p ∈ a :: l, p ∈ l' := all_cons h t
theorem sub_nil : ∀ p ∈ ([] : List α), p ∈ l := all_nil
theorem sub_app (h : ∀ p ∈ A, p ∈ l) (t : ∀ p ∈ B, p ∈ l) : ∀ p ∈ A ++ B, p ∈ l := all_app h t
theorem mm0 : a ∈ a :: l := .head _
theorem mm1 : b ∈ a :: b :: l := .tail _ mm0
theorem mm2 : c ∈ a :: b :: c :: l := .tail _ mm1
theorem mm3 : d ∈ a :: b :: c :: d :: l := .tail _ mm2
theorem mm4 : e ∈ a :: b :: c :: d :: e :: l := .tail _ mm3
theorem mm5 : x ∈ a :: b :: c :: d :: e :: x :: l := .tail _ mm4
theorem mm6 : y ∈ a :: b :: c :: d :: e :: x :: y :: l := .tail _ mm5
theorem tl1 : ∀ p ∈ l, p ∈ a :: l := fun _ => .tail _
theorem tl2 : ∀ p ∈ l, p ∈ a :: b :: l := fun _ h => .tail _ (tl1 _ h)
theorem tl3 : ∀ p ∈ l, p ∈ a :: b :: c :: l := fun _ h => .tail _ (tl2 _ h)
theorem tl4 : ∀ p ∈ l, p ∈ a :: b :: c :: d :: l := fun _ h => .tail _ (tl3 _ h)
theorem tl5 : ∀ p ∈ l, p ∈ a :: b :: c :: d :: e :: l := fun _ h => .tail _ (tl4 _ h)
theorem tl6 : ∀ p ∈ l, p ∈ a :: b :: c :: d :: e :: x :: l := fun _ h => .tail _ (tl5 _ h)
theorem tl7 : ∀ p ∈ l, p ∈ a :: b :: c :: d :: e :: x :: y :: l := fun _ h => .tail _ (tl6 _ h)
/-- the first goes behind the next four -/
theorem rot4 : ∀ p ∈ b :: c :: d :: e :: a :: l, p ∈ a :: b :: c :: d :: e :: l := sub_cons mm1 (sub_cons mm2 (sub_cons mm3 (sub_cons mm4 (sub_cons mm0 tl5))))
theorem rot3 : ∀ p ∈ b :: c :: d :: a :: l, p ∈ a :: b :: c :: d :: l := sub_cons mm1 (sub_cons mm2 (sub_cons mm3 (sub_cons mm0 tl4)))
theorem rot2 : ∀ p ∈ b :: c :: a :: l, p ∈ a :: b :: c :: l := sub_cons mm1 (sub_cons mm2 (sub_cons mm0 tl3))
theorem rot1 : ∀ p ∈ b :: a :: l, p ∈ a :: b :: l := sub_cons mm1 (sub_cons mm0 tl2)
theorem take4 : ∀ p ∈ [a, b, c, d], p ∈ a :: b :: c :: d :: l := sub_cons mm0 (sub_cons mm1 (sub_cons mm2 (sub_cons mm3 sub_nil)))
theorem take3 : ∀ p ∈ [a, b, c], p ∈ a :: b :: c :: l := sub_cons mm0 (sub_cons mm1 (sub_cons mm2 sub_nil))
theorem take2 : ∀ p ∈ [a, b], p ∈ a :: b :: l := sub_cons mm0 (sub_cons mm1 sub_nil)
end
section
variable {α : Type} {a0 a1 a2 a3 a4 a5 a6 a7 a8 a9 a10 a11 a12 a13 a14 : α} {l l' A B C D M T : List α}
theorem mm7 : a7 ∈ a0 :: a1 :: a2 :: a3 :: a4 :: a5 :: a6 :: a7 :: l := .tail _ mm6
theorem mm8 : a8 ∈ a0 :: a1 :: a2 :: a3 :: a4 :: a5 :: a6 :: a7 :: a8 :: l := .tail _ mm7
theorem mm9 : a9 ∈ a0 :: a1 :: a2 :: a3 :: a4 :: a5 :: a6 :: a7 :: a8 :: a9 :: l := .tail _ mm8
theorem mm10 : a10 ∈ a0 :: a1 :: a2 :: a3 :: a4 :: a5 :: a6 :: a7 :: a8 :: a9 :: a10 :: l := .tail _ mm9
theorem mm11 : a11 ∈ a0 :: a1 :: a2 :: a3 :: a4 :: a5 :: a6 :: a7 :: a8 :: a9 :: a10 :: a11 :: l := .tail _ mm10
theorem mm12 : a12 ∈ a0 :: a1 :: a2 :: a3 :: a4 :: a5 :: a6 :: a7 :: a8 :: a9 :: a10 :: a11 :: a12 :: l := .tail _ mm11
theorem mm13 : a13 ∈ a0 :: a1 :: a2 :: a3 :: a4 :: a5 :: a6 :: a7 :: a8 :: a9 :: a10 :: a11 :: a12 :: a13 :: l := .tail _ mm12
theorem tl8 : ∀ p ∈ l, p ∈ a0 :: a1 :: a2 :: a3 :: a4 :: a5 :: a6 :: a7 :: l := fun _ h => .tail _ (tl7 _ h)
theorem tl9 : ∀ p ∈ l, p ∈ a0 :: a1 :: a2 :: a3 :: a4 :: a5 :: a6 :: a7 :: a8 :: l := fun _ h => .tail _ (tl8 _ h)
theorem tl10 : ∀ p ∈ l, p ∈ a0 :: a1 :: a2 :: a3 :: a4 :: a5 :: a6 :: a7 :: a8 :: a9 :: l := fun _ h => .tail _ (tl9 _ h)
theorem tl11 : ∀ p ∈ l, p ∈ a0 :: a1 :: a2 :: a3 :: a4 :: a5 :: a6 :: a7 :: a8 :: a9 :: a10 :: l := fun _ h => .tail _ (tl10 _ h)
theorem tl12 : ∀ p ∈ l, p ∈ a0 :: a1 :: a2 :: a3 :: a4 :: a5 :: a6 :: a7 :: a8 :: a9 :: a10 :: a11 :: l := fun _ h => .tail _ (tl11 _ h)
theorem up1 (h : ∀ p ∈ T, p ∈ l) : ∀ p ∈ T, p ∈ a0 :: l := fun p q => .tail _ (h p q)
theorem up2 (h : ∀ p ∈ T, p ∈ l) : ∀ p ∈ T, p ∈ a0 :: a1 :: l := up1 (a0 := a0) (up1 h)
theorem up3 (h : ∀ p ∈ T, p ∈ l) : ∀ p ∈ T, p ∈ a0 :: a1 :: a2 :: l := up1 (a0 := a0) (up2 h)
theorem up4 (h : ∀ p ∈ T, p ∈ l) : ∀ p ∈ T, p ∈ a0 :: a1 :: a2 :: a3 :: l := up1 (a0 := a0) (up3 h)
theorem up5 (h : ∀ p ∈ T, p ∈ l) : ∀ p ∈ T, p ∈ a0 :: a1 :: a2 :: a3 :: a4 :: l := up1 (a0 := a0) (up4 h)
theorem up6 (h : ∀ p ∈ T, p ∈ l) : ∀ p ∈ T, p ∈ a0 :: a1 :: a2 :: a3 :: a4 :: a5 :: l := up1 (a0 := a0) (up5 h)
theorem up7 (h : ∀ p ∈ T, p ∈ l) : ∀ p ∈ T, p ∈ a0 :: a1 :: a2 :: a3 :: a4 :: a5 :: a6 :: l := up1 (a0 := a0) (up6 h)
theorem up8 (h : ∀ p ∈ T, p ∈ l) : ∀ p ∈ T, p ∈ a0 :: a1 :: a2 :: a3 :: a4 :: a5 :: a6 :: a7 :: l := up1 (a0 := a0) (up7 h)
theorem up9 (h : ∀ p ∈ T, p ∈ l) : ∀ p ∈ T, p ∈ a0 :: a1 :: a2 :: a3 :: a4 :: a5 :: a6 :: a7 :: a8 :: l := up1 (a0 := a0) (up8 h)
theorem up10 (h : ∀ p ∈ T, p ∈ l) : ∀ p ∈ T, p ∈ a0 :: a1 :: a2 :: a3 :: a4 :: a5 :: a6 :: a7 :: a8 :: a9 :: l := up1 (a0 := a0) (up9 h)
theorem up11 (h : ∀ p ∈ T, p ∈ l) : ∀ p ∈ T, p ∈ a0 :: a1 :: a2 :: a3 :: a4 :: a5 :: a6 :: a7 :: a8 :: a9 :: a10 :: l := up1 (a0 := a0) (up10 h)
theorem up12 (h : ∀ p ∈ T, p ∈ l) : ∀ p ∈ T, p ∈ a0 :: a1 :: a2 :: a3 :: a4 :: a5 :: a6 :: a7 :: a8 :: a9 :: a10 :: a11 :: l := up1 (a0 := a0) (up11 h)
theorem up13 (h : ∀ p ∈ T, p ∈ l) : ∀ p ∈ T, p ∈ a0 :: a1 :: a2 :: a3 :: a4 :: a5 :: a6 :: a7 :: a8 :: a9 :: a10 :: a11 :: a12 :: l := up1 (a0 := a0) (up12 h)
theorem up14 (h : ∀ p ∈ T, p ∈ l) : ∀ p ∈ T, p ∈ a0 :: a1 :: a2 :: a3 :: a4 :: a5 :: a6 :: a7 :: a8 :: a9 :: a10 :: a11 :: a12 :: a13 :: l := up1 (a0 := a0) (up13 h)
theorem sub_rfl : ∀ p ∈ T, p ∈ T := fun _ h => h
theorem apL : ∀ p ∈ A, p ∈ A ++ B := fun _ h => List.mem_append_left _ h
theorem apR : ∀ p ∈ B, p ∈ A ++ B := fun _ h => List.mem_append_right _ h
theorem apRL : ∀ p ∈ B, p ∈ A ++ (B ++ C) := fun _ h => apR _ (apL _ h)
theorem apRR : ∀ p ∈ C, p ∈ A ++ (B ++ C) := fun _ h => apR _ (apR _ h)
theorem apRRL : ∀ p ∈ C, p ∈ A ++ (B ++ (C ++ D)) := fun _ h => apR _ (apRL _ h)
theorem apRRR : ∀ p ∈ D, p ∈ A ++ (B ++ (C ++ D)) := fun _ h => apR _ (apRR _ h)
theorem inL (h : ∀ p ∈ T, p ∈ A) : ∀ p ∈ T, p ∈ A ++ B := fun p q => apL p (h p q)
theorem inR (h : ∀ p ∈ T, p ∈ B) : ∀ p ∈ T, p ∈ A ++ B := fun p q => apR p (h p q)
theorem mL {x : α} (h : x ∈ A) : x ∈ A ++ B := List.mem_append_left _ h
theorem mR {x : α} (h : x ∈ B) : x ∈ A ++ B := List.mem_append_right _ h
end
theorem rot5 {α : Type} {a b c d e f : α} {l : List α} : ∀ p ∈ b :: c :: d :: e :: f :: a :: l, p ∈ a :: b :: c :: d :: e :: f :: l := sub_cons mm1 (sub_cons mm2 (sub_cons mm3 (sub_cons mm4 (sub_cons mm5 (sub_cons mm0 tl6)))))
theorem turn_ok {o : Value} : ∀ r, letTemporaryGo (PySem.Expr.Name (PySem.Str.ofString "_") ⟨0, 0, 0, 0⟩) o r = pure () := fun _ => rfl
/-- the tail of a subscript does not look at its base -/
theorem turn {prog : Program} {w : World} {A : Around} {E : Value → Shared → Prop} {s : Shared} {value slice : PySem.Expr} {o i : Value} {Q : Value → Shared → Prop}
    (h : wpAny (model prog w) A (subscriptTail (PySem.Expr.Name (PySem.Str.ofString "_") ⟨0, 0, 0, 0⟩) slice o i) Q E s) : wpAny (model prog w) A (subscriptTail value slice o i) Q E s := kba_turn turn_ok h
theorem drop_get {α : Type} {l : List α} {i : Nat} {x : α} (h : l[i]? = some x) : l.drop i = x :: l.drop (i + 1) := by
  obtain ⟨hlt, e⟩ := List.getElem?_eq_some_iff.mp h
  rw [List.drop_eq_getElem_cons hlt, e]
theorem get_of_len {α β : Type} {l : List α} {m : List β} {i : Nat} {x : β} (h : m[i]? = some x) (e : m.length = l.length) : ∃ r, l[i]? = some r :=
  ⟨l[i]'(e ▸ (List.getElem?_eq_some_iff.mp h).1), by simp⟩
theorem not_mem4 {z a b c d : Addr} {o1 o2 o3 o4 : Obj} (h1 : @Ne Nat z a) (h2 : @Ne Nat z b) (h3 : @Ne Nat z c) (h4 : @Ne Nat z d) : z ∉ [(a, o1), (b, o2), (c, o3), (d, o4)].map (·.1) := by
  simp only [List.map_cons, List.map_nil, List.mem_cons, List.not_mem_nil, or_false]
  rintro (z | z | z | z)
  · exact h1 z
  · exact h2 z
  · exact h3 z
  · exact h4 z
theorem sizes {g h : Heap} {L : Addr} {N l : List (Addr × Obj)} (x : News g L h N) (s : ∀ p ∈ l, p ∈ N) : ∀ p ∈ l, p.1 ≠ h.objs.size := fun p hp => Nat.ne_of_lt (Heap.lt_size (x.get (s p hp)))
def Off4 (a b c d : Addr) (z : Nat) : Prop := a ≠ z ∧ b ≠ z ∧ c ≠ z ∧ d ≠ z
def Off5 (a b c d e : Addr) (z : Nat) : Prop := a ≠ z ∧ b ≠ z ∧ c ≠ z ∧ d ≠ z ∧ e ≠ z
def Off3 (a b c : Addr) (z : Nat) : Prop := a ≠ z ∧ b ≠ z ∧ c ≠ z
theorem sizes3 {g h : Heap} {L a b c : Addr} {o1 o2 o3 : Obj} {T : List (Addr × Obj)} (x : News g L h ((a, o1) :: (b, o2) :: (c, o3) :: T)) : Off3 a b c h.objs.size :=
  have s := sizes x (fun _ h => h)
  ⟨s _ mm0, s _ mm1, s _ mm2⟩
theorem sz3 {a b c : Addr} {o1 o2 o3 : Obj} {T : List (Addr × Obj)} {z : Nat} (x : Off3 a b c z) (t : ∀ p ∈ T, p.1 ≠ z) : ∀ p ∈ (a, o1) :: (b, o2) :: (c, o3) :: T, p.1 ≠ z :=
  all_cons x.1 (all_cons x.2.1 (all_cons x.2.2 t))
theorem sizes4 {g h : Heap} {L a b c d : Addr} {o1 o2 o3 o4 : Obj} {T : List (Addr × Obj)} (x : News g L h ((a, o1) :: (b, o2) :: (c, o3) :: (d, o4) :: T)) : Off4 a b c d h.objs.size :=
  have s := sizes x (fun _ h => h)
  ⟨s _ mm0, s _ mm1, s _ mm2, s _ mm3⟩
theorem sizes5 {g h : Heap} {L a b c d e : Addr} {o1 o2 o3 o4 o5 : Obj} {T : List (Addr × Obj)} (x : News g L h ((a, o1) :: (b, o2) :: (c, o3) :: (d, o4) :: (e, o5) :: T)) : Off5 a b c d e h.objs.size :=
  have s := sizes x (fun _ h => h)
  ⟨s _ mm0, s _ mm1, s _ mm2, s _ mm3, s _ mm4⟩
theorem sz4 {a b c d : Addr} {o1 o2 o3 o4 : Obj} {T : List (Addr × Obj)} {z : Nat} (x : Off4 a b c d z) (t : ∀ p ∈ T, p.1 ≠ z) : ∀ p ∈ (a, o1) :: (b, o2) :: (c, o3) :: (d, o4) :: T, p.1 ≠ z :=
  all_cons x.1 (all_cons x.2.1 (all_cons x.2.2.1 (all_cons x.2.2.2 t)))
theorem sz5 {a b c d e : Addr} {o1 o2 o3 o4 o5 : Obj} {T : List (Addr × Obj)} {z : Nat} (x : Off5 a b c d e z) (t : ∀ p ∈ T, p.1 ≠ z) : ∀ p ∈ (a, o1) :: (b, o2) :: (c, o3) :: (d, o4) :: (e, o5) :: T, p.1 ≠ z :=
  all_cons x.1 (all_cons x.2.1 (all_cons x.2.2.1 (all_cons x.2.2.2.1 (all_cons x.2.2.2.2 t))))
theorem ne_of_eq_size {I p : Addr} {n : Nat} (e : I = n) (hp : @Ne Nat p n) : @Ne Nat I p := fun z => hp (z.symm.trans e)
end Mine
end
section
open PySem PySem.W PyProof.Rows PySem.Calls PySem.Spec
set_option Elab.async false
set_option maxRecDepth 100000


namespace Mine
section
variable {w : World} {pg : Program} {loose : List Str} {mean : ExcName → Option Value} {mg mb : Str → Option Value}

theorem pick_spec {dp un : Nat} {gd : Option (List Code)} {cn : Str} {cs : Scope} {L a : Addr} {ccd : Value} {cl : List (Str × Addr)} {outer : List Env} {A₀ : Around} {base h₀ : Heap} {m : Str → Option Value} {s : Shared}
    {Q E : Value → Shared → Prop} {p q : Addr} {vs : List Value} {ns : List Int} {k many : Int} {t tm : Tok} {n nq : Nat}
    (B : Below A₀ base outer h₀) (F : Fr h₀ L s.heap m) (X : (hd.heap_39 w.params).In h₀) (T : Top pg loose mean mg mb h₀) (hk : cs.kind = .function) (hdp : dp < 900)
    (N : News h₀ L s.heap [(p, listOf #[.ref q, .int k t] n), (q, listOf vs.toArray nq)]) (hpq : @Ne Nat q p) (hi : IntsAre vs ns) (hl : vs.length ≤ 60) (hk0 : 0 ≤ k) (hk1 : k < 1000) (hm : 0 < many) (hm2 : many ≤ 100)
    (h : ∀ h' tk r tr t' n', 0 ≤ r → r < many → Kept [p] s.heap h' → h'.get? p = some (listOf #[.ref q, .int (k + 1) t'] n') → Q (.int r tr) { s with heap := h', toks := tk }) :
    wpAny (model PySem.Challenge.rw_pq0349_01.row.prog w) (ktrTop dp un gd cn cs L a ccd cl outer) (call (.ref 170) [.ref p, .int many tm]) Q E s := by
  revert X; k_fill; intro X
  refine wpAny_call ?_
  k_dflt (refine' Mine.enterP [("many", .int many tm), ("purse", .ref p)] ?k1 ?k2 ?k3 ?k4 ?k5 ?kA ?kF ?kK ?k6 ?k7 ?k8 ?k9 ?kB ?kbody ?c2 ?c3 ?c4 ?c5; (case kA => exact rfl); (case kF => exact rfl); (case kK => assumption); (case k1 => assumption); (case k2 => assumption); (case k3 => assumption); (case k4 => assumption); (case k5 => assumption); (case k6 => k_is); (case k7 => k_is); (case k8 => (show @LT.lt Nat _ _ 1000; (try dsimp only [ktrTop]); omega)); (case k9 => exact BindsTo.of_eq rfl); (case c5 => decide); (case kB => exact locs rfl); (case c2 => exact rfl); (case c3 => exact rfl); (case c4 => exact rfl); k_whole)
  intro g L' h₁ tk0 hg hL F' N' B' X' T'
  simp only [Mine.bindM] at F'
  (try dsimp only)
  have h0 : ∀ x ∈ [(p, listOf #[.ref q, .int k t] n), (q, listOf vs.toArray nq)], s.heap.get? x.1 = some x.2 := fun x hx => (N x hx).1
  clear B F X T N
  k_steps
  refine len_list (items := vs.toArray) ?hl ?hf ?_
  case hl => is_list
  case hf => simp only [List.size_toArray]; omega
  (try simp only [List.size_toArray])
  k_steps
  all_goals (refine h _ _ _ _ _ _ ?_ ?_ (kept_end hg h0 (by assumption) ?_) (News.get (by assumption) (List.Mem.head _)))
  all_goals (first | exact Int.fmod_nonneg_of_pos _ hm | exact Int.fmod_lt_of_pos _ hm | skip)
  all_goals (intro x hx hn; simp only [List.mem_cons, List.not_mem_nil, or_false] at hx hn; rcases hx with rfl | rfl <;> first | exact absurd rfl hn | exact News.get (by assumption) (List.Mem.tail _ (List.Mem.head _)))
end
end Mine
end
section
open PySem PySem.W PyProof.Rows PySem.Calls PySem.Spec
set_option Elab.async false
set_option maxRecDepth 100000
set_option maxHeartbeats 2000000

namespace Mine

abbrev bmF : List Value := [.ref 31, .type "Exception", .type "BaseException", .type "object"]
abbrev excObj (C : Value) (d : Option Addr) (t : Addr) : Obj := { cls := C, dict := d, data := .fields #[.ref t, .none, .none, .none, .bool false, .none] }
abbrev txtDict (w : World) (x : Str) (t u : Tok) : Obj := dictOf [⟨PyData.keyHash w.params "text", .str "text" u, .str x t⟩] 1

structure IsFault (w : World) (C : Addr) : Prop where
  there : ∃ nm q N bs sn sub ab col dd k0 k1 k2 k3 k5, (hd.heap_39 w.params).lookup C = some (excClassObj nm q C N bs bmF true sn sub ab col dd k0 k1 k2 k3 k5 "Exception.__new__")
  init : findIn (hd.heap_39 w.params) (.ref C) "__init__" = some (some (.ref 28))
  sa : findIn (hd.heap_39 w.params) (.ref C) "__setattr__" = some (some (.builtin "object.__setattr__"))
  ga : findIn (hd.heap_39 w.params) (.ref C) "__getattribute__" = some (some (.builtin "BaseException.__getattribute__"))
  gat : findIn (hd.heap_39 w.params) (.ref C) "__getattr__" = some none
  text : findIn (hd.heap_39 w.params) (.ref C) "text" = some none

theorem fault44 (w : World) : IsFault w 44 where
  there := ⟨_, _, _, _, _, _, _, _, _, _, _, _, _, _, by exact rfl⟩
  init := by kernel_rfl
  sa := by kernel_rfl
  ga := by kernel_rfl
  gat := by kernel_rfl
  text := by kernel_rfl
theorem fault56 (w : World) : IsFault w 56 where
  there := ⟨_, _, _, _, _, _, _, _, _, _, _, _, _, _, by exact rfl⟩
  init := by kernel_rfl
  sa := by kernel_rfl
  ga := by kernel_rfl
  gat := by kernel_rfl
  text := by kernel_rfl

section
variable {M : Model} {A : Around} {E : Value → Shared → Prop} {h : Heap} {g : Array GenState} {d : Drawn} {t : Nat} {os : OsState}
variable {nm q : Str} {C N : Addr} {bs : List Value} {sn : List Str} {sub : List Value} {ab : Bool} {col : Option Bool} {dd : Option Addr} {k0 k1 k2 k3 k5 : Option Value}

theorem has_C (C : Addr) : (Value.ref C :: bmF).contains (.ref C) = true := by simp
theorem has_B (C : Addr) : (Value.ref C :: bmF).contains (.type "BaseException") = true := by simp [bmF]
theorem has_E (C : Addr) : (Value.ref C :: bmF).contains (.type "Exception") = true := by simp [bmF]
theorem no_A (C : Addr) : (Value.ref C :: bmF).contains (.type "AttributeError") = false := by simp [bmF]
theorem no_N (C : Addr) : (Value.ref C :: bmF).contains (.type "NameError") = false := by simp [bmF]
theorem no_T (C : Addr) : (Value.ref C :: bmF).contains (.type "tuple") = false := by simp [bmF]

theorem chk_new {rest : List Value} {Q : Unit → Shared → Prop} (hC : h.get? C = some (excClassObj nm q C N bs bmF true sn sub ab col dd k0 k1 k2 k3 k5 "Exception.__new__"))
    (hq : Q () ⟨h, g, d, t, os⟩) : wpAny M A (checkBuiltinCall "Exception.__new__" ⟨.ref C :: rest, []⟩) Q E ⟨h, g, d, t, os⟩ := by
  have FE := PySem.F.excBase_Exception
  have hstar := FE.noStar
  simp only [checkBuiltinCall, FE.newKind, FE.newSplit, FE.newRow]
  repeat (first | refine wpAny_loadPart_at hC ?_ | (refine wpAny_isSubtype_exc hC ?_; rw [has_E]) | refine wpAny_staticBase_exc hC ?_ | refine wpAny_madeBy_exc hC ?_ | simp only [bne_self_eq_false, Bool.false_eq_true, if_false] | wp_step)
  exact hq

theorem chk_init {e : Addr} {oe : Obj} {rest : List Value} {Q : Unit → Shared → Prop}
    (hC : h.get? C = some (excClassObj nm q C N bs bmF true sn sub ab col dd k0 k1 k2 k3 k5 "Exception.__new__")) (he : h.get? e = some oe) (hcls : oe.cls = .ref C) (hq : Q () ⟨h, g, d, t, os⟩) :
    wpAny M A (checkBuiltinCall "Exception.__init__" ⟨.ref e :: rest, []⟩) Q E ⟨h, g, d, t, os⟩ := by
  have FE := PySem.F.excBase_Exception
  have hshort := FE.noStar
  simp only [checkBuiltinCall, FE.initKind, FE.initSplit, FE.initRow]
  repeat (first | (with_reducible refine wpAny_loadPart_at he ?_; rw [hcls]) | with_reducible refine wpAny_loadPart_at hC ?_ | (with_reducible refine wpAny_isSubtype_exc hC ?_; rw [has_E]) | wp_step)
  refine wpAny_onRaise ?_
  rw [show ∀ (a b : String) (n : Nat), Bind.check ⟨.positional, "*", "Exception", .self, [⟨"args", .varPos, false⟩]⟩ a b n (List.map (fun x => x.fst) ({ pos := Value.ref e :: rest } : Args).kw) = pure () from
    fun a b n => check_star_args _ _ _ _ _ _]
  exact wpAny_pure hq
end

section
variable {prog : Program} {w : World} {A : Around} {E : Value → Shared → Prop} {h : Heap} {g : Array GenState} {d : Drawn} {t : Nat} {os : OsState}
variable {nm q : Str} {C N : Addr} {bs : List Value} {sn : List Str} {sub : List Value} {ab : Bool} {col : Option Bool} {dd : Option Addr} {k0 k1 k2 k3 k5 : Option Value}

theorem new_made {R : Result → Shared → Prop} {rest : List Value} (hC : h.get? C = some (excClassObj nm q C N bs bmF true sn sub ab col dd k0 k1 k2 k3 k5 "Exception.__new__"))
    (hq : R (.ok (.ret (.ref (h.objs.size + 1)))) ⟨(h.push { cls := .type "tuple", data := .seq rest.toArray }).push (excObj (.ref C) none h.objs.size), g, d, t, os⟩) (hrest : rest.length ≤ sizeLine) :
    codeAny (model prog w) A (.builtin "Exception.__new__" ⟨.ref C :: rest, []⟩) R ⟨h, g, d, t, os⟩ := by
  have FE := PySem.F.excBase_Exception
  have hends := FE.ends
  refine codeAny_builtinAt FE.entry ?_
  unfold Builtin.«BaseException.__new__»
  refine PySem.wpAt_bind ?_
  show PySem.wpAt _ _ _ (stack >>= _) _ _ _
  refine PySem.wpAt_bind (PySem.wpAt_stack fun p below => PySem.wpAt_of_wpAny ?_)
  wp_walk
  refine PySem.wpAt_of_wpAny ?_
  rw [FE.owner]
  repeat (first | with_reducible refine wpAny_madeHere_exc FE.canon hC ?_ | with_reducible refine wpAny_loadPart_at hC ?_ | (with_reducible refine wpAny_isSubtype_exc hC ?_; first | rw [has_E] | rw [no_A] | rw [no_N]) | wp_step)
  show R _ _
  rw [Heap.size_push]
  exact hq

theorem binit {s : Shared} {e t0 : Addr} {x : Value} {C : Value} {Q : Fin → Shared → Prop} (he : s.heap.get? e = some (excObj C none t0))
    (hq : ∀ h' t1, h'.get? e = some (excObj C none t1) → (∀ b o, b ≠ e → s.heap.get? b = some o → h'.get? b = some o) → Q (.done (.ret .none)) { s with heap := h' }) :
    wpAny (model prog w) A (Builtin.«BaseException.__init__» ⟨[.ref e, x], []⟩) Q E s := by
  unfold Builtin.«BaseException.__init__»
  dsimp only
  rw [if_neg (by simp)]
  unfold newTuple Builtin.BaseException.bexcPut
  have he₁ := Heap.get?_push_of_some (h := s.heap) { cls := .type "tuple", data := .seq #[x] } he
  refine wpAny_bind (wpAny_newObj_type (wpAny_bind (wpAny_bind (wpAny_field he₁ rfl rfl (wpAny_bind (wpAny_setField he₁ rfl (by show 0 < 6; decide) ?_))))) (by size_fits))
  refine wpAny_letGo (wpAny_pure (hq _ s.heap.objs.size ?_ fun b o hb ho => ?_))
  · rw [Heap.get?_update_self _ he₁ rfl]; rfl
  · rw [Heap.get?_update_other _ _ (Ne.symm hb)]; exact Heap.get?_push_of_some _ ho

theorem type_call_fault {rest : List Value} {Q : Fin → Shared → Prop} (W : IsFault w C) (X : (hd.heap_39 w.params).In h) (hC : h.get? C = some (excClassObj nm q C N bs bmF true sn sub ab col dd k0 k1 k2 k3 k5 "Exception.__new__"))
    {oI : Obj} (hfI : h.get? 28 = some oI) (hfc : oI.cls = .type "function")
    (hq : ∀ h' e t0, (∀ b o, h.get? b = some o → h'.get? b = some o) → h.objs.size ≤ e → h'.get? e = some (excObj (.ref C) none t0) →
      wpAny (model prog w) A (call (.ref 28) (.ref e :: rest)) (fun r s' => r = .none ∧ Q (.done (.ret (.ref e))) s') E ⟨h', g, d, t, os⟩) (hrest : rest.length ≤ sizeLine) :
    wpAny (model prog w) A (Builtin.«type.__call__» ⟨.ref C :: rest, []⟩) Q E ⟨h, g, d, t, os⟩ := by
  have FE := PySem.F.excBase_Exception
  repeat (first | with_reducible refine wpAny_loadPart_at hC ?_ | with_reducible refine wpAny_madeBy_exc hC ?_ | wp_step)
  refine codeAny_call_builtin_code (Code.quiet_builtin _ FE.quiet) (chk_new hC ?_)
  refine new_made hC ?_ hrest
  show wpAny _ _ _ _ _ _
  have up : ∀ b o, h.get? b = some o → ((h.push { cls := .type "tuple", data := .seq rest.toArray }).push (excObj (.ref C) none h.objs.size)).get? b = some o := fun b o e => Heap.get?_push_of_some _ (Heap.get?_push_of_some _ e)
  have hC₁ := up _ _ hC
  have hfI₁ := up _ _ hfI
  have hget : ((h.push { cls := .type "tuple", data := .seq rest.toArray }).push (excObj (.ref C) none h.objs.size)).get? (h.objs.size + 1) = some (excObj (.ref C) none h.objs.size) := by heap_get
  unfold isInstance
  repeat (first | with_reducible refine wpAny_loadPart_at hget ?_ | (with_reducible refine wpAny_isSubtype_exc hC₁ ?_; rw [has_C]) | wp_step)
  show wpAny _ _ (typeLookup (.ref C) _) _ _ _
  refine (looks_findIn (X.keeps up) W.init).here ?_
  refine wpAny_holding (wpAny_bind ?_)
  unfold bindSpecial
  refine wpAny_bind (wpAny_typeOf (T := "function") ⟨_, hfI₁, hfc⟩ ?_)
  rw [if_pos (by decide)]
  refine wpAny_pure (wpAny_bind (wpAny_mono (hq _ (h.objs.size + 1) h.objs.size up (Nat.le_succ _) hget) (fun r s' hr => ?_) fun _ _ x => x))
  obtain ⟨rfl, hQ⟩ := hr
  wp_walk
  exact hQ

theorem fault_call {rest : List Value} {Q : Value → Shared → Prop} (W : IsFault w C) (X : (hd.heap_39 w.params).In h)
    {oI : Obj} (hfI : h.get? 28 = some oI) (hfc : oI.cls = .type "function")
    (hq : ∀ h' e t0, (∀ b o, h.get? b = some o → h'.get? b = some o) → h.objs.size ≤ e → h'.get? e = some (excObj (.ref C) none t0) →
      wpAny (model prog w) (A.under (.builtin "type.__call__" ⟨.ref C :: rest, []⟩)) (call (.ref 28) (.ref e :: rest)) (fun r s' => r = .none ∧ Q (.ref e) s') E ⟨h', g, d, t, os⟩) (hrest : rest.length ≤ sizeLine) :
    wpAny (model prog w) A (call (.ref C) rest) Q E ⟨h, g, d, t, os⟩ := by
  obtain ⟨nm, q, N, bs, sn, sub, ab, col, dd, k0, k1, k2, k3, k5, hl⟩ := W.there
  have hC := X _ _ hl
  have f1 := tc_lookup
  have f2 := tc_bind (.ref C)
  have hT : (⟨h, g, d, t, os⟩ : Shared).TypeIs (.ref C) "type" := ⟨_, hC, rfl⟩
  refine wpAny_call (codeAny_of_tree ?_)
  show wpAny _ _ (callAny (.ref C) _) _ _ _
  repeat (any_goals (first | assumption | with_reducible refine wpAny_loadPart_at hC ?_ | wp_step))
  refine ⟨rfl, ?_⟩
  refine codeAny_call_builtin_at (Code.quiet_builtin _ (by decide +kernel)) entry_typeCall (wpAny_check_type_call_sub hC (type_call_fault W X hC hfI hfc (fun h' e t0 hk he hg => ?_) hrest))
  exact hq h' e t0 hk he hg
end
end Mine
end
section
open PySem PySem.W PyProof.Rows PySem.Calls PySem.Spec
set_option Elab.async false
set_option maxRecDepth 100000
set_option maxHeartbeats 2000000
namespace Mine
section
variable {prog : Program} {w : World} {A : Around} {E : Value → Shared → Prop} {s : Shared} {C e t1 : Addr} {x : Str} {t : Tok}

theorem exc_setText {Q : Unit → Shared → Prop} (W : IsFault w C) (X : (hd.heap_39 w.params).In s.heap) (he : s.heap.get? e = some (excObj (.ref C) none t1))
    (hq : ∀ h' d u tk, h'.get? e = some (excObj (.ref C) (some d) t1) → h'.get? d = some (txtDict w x t u) → s.heap.objs.size ≤ d → (∀ b o, b ≠ e → s.heap.get? b = some o → h'.get? b = some o) → Q () { s with heap := h', toks := tk }) :
    wpAny (model prog w) A (setAttr (.ref e) "text" (.str x t)) Q E s := by
  have I : InstAt s.heap e (excObj (.ref C) none t1) C none := ⟨he, rfl, rfl, trivial⟩
  obtain ⟨nm, q, N, bs, sn, sub, ab, col, dd, k0, k1, k2, k3, k5, hl⟩ := W.there
  have hC := X _ _ hl
  have SF := PySem.F.store_object
  have SE := PySem.F.store_Exception
  refine set_plain X I W.sa ?_
  have hcl : clsIn (hd.heap_39 w.params) C = some { name := nm, bases := bs, mro := .ref C :: bmF, ns := N, qualname := q, hasDict := true, slotNames := sn, subclasses := sub, abstract := ab, collection := col, hasDel := false } := by
    unfold clsIn; rw [hl]
  have sub : Looks (model prog w) s.heap (isInstance (.ref e) (.type "object")) true := I.type.andThen (looks_mroIn X (by unfold mroIn; rw [hcl, Option.bind_some]; simp))
  refine codeAny_call_builtin SF.slot.plain SF.entry (@check_slot (model prog w) _ _ _ "object.__setattr__" "object" "__setattr__" (.ref e) [.str "text" s.toks, .str x t] [] _ SF.kind SF.split sub (SF.args (.ref e) (.str "text" s.toks) (.str x t)) ?_)
  rw [osa_eq, refuse_eq]
  refine wpAny_bind (wpAny_bind (I.type _ _ _ _ (fun _ _ e => e) (wpAny_bind (wpAny_mroOf_exc hC ?_))))
  rw [refuseLoop_ref, refuseLoop_ref, SE.passes]
  refine wpAny_pure (wpAny_bind (I.type _ _ _ _ (fun _ _ e => e) (wpAny_bind (looks_findIn X W.text _ _ _ _ (fun _ _ e => e) (wpAny_bind (wpAny_pure ?_))))))
  dsimp only
  unfold Builtin.ObjectAttr.storeInOwnDict
  refine wpAny_bind (wpAny_pure ?_)
  rw [if_neg (by simp)]
  dsimp only
  refine wpAny_bind ?_
  unfold Builtin.ObjectAttr.ownDictForStores instanceDict
  refine wpAny_bind (wpAny_loadPart (show Heap.get? _ _ = _ from he) ?_)
  dsimp only
  refine wpAny_bind (looks_clsIn X hcl _ _ _ _ (fun _ _ e => e) ?_)
  dsimp only
  simp only [Bool.not_true, Bool.false_eq_true, if_false]
  have hx₁ : (s.heap.push { cls := .type "dict", data := .dict #[] }).get? e = some (excObj (.ref C) none t1) := Heap.get?_push_of_some _ he
  have hxs : e ≠ s.heap.objs.size := Nat.ne_of_lt (Heap.lt_size he)
  have hgd : ((s.heap.push { cls := .type "dict", data := .dict #[] }).update e fun o => { o with dict := some s.heap.objs.size }).get? s.heap.objs.size = some { cls := .type "dict", data := .dict #[] } :=
    (Heap.get?_update_ne _ _ _ _ hxs.symm).trans (Heap.get?_push_at rfl rfl)
  rw [if_neg (by simp [typeHasDict])]
  refine wpAny_bind (wpAny_alloc (wpAny_bind (wpAny_update hx₁ (wpAny_pure ?_))))
  dsimp only
  unfold Builtin.ObjectAttr.storeInDict Builtin.ObjectAttr.newKeyGuard nsSet
  refine wpAny_bind (wpAny_pure (wpAny_bind (wpAny_bind (wpAny_bind (wpAny_askSetting (wpAny_pure (wpAny_bind (wpAny_mkText (wpAny_bind (wpAny_loadPart hgd ?_)))))))))) 
  dsimp only
  rw [if_neg (by decide)]
  refine wpAny_updatePart hgd ?_
  have hd1 : (((s.heap.push { cls := .type "dict", data := .dict #[] }).update e fun o => { o with dict := some s.heap.objs.size }).update s.heap.objs.size (Obj.putName "text" (PyData.keyHash w.params "text") (.str "text" (s.toks + 1)) (.str x t))).get? s.heap.objs.size = some (txtDict w x t (s.toks + 1)) := by
    rw [Heap.get?_update_self _ hgd rfl]; rfl
  refine wpAny_bind (wpAny_lookBehind hd1 rfl ?_)
  refine wpAny_pure ?_
  refine hq _ s.heap.objs.size (s.toks + 1) _ ?_ hd1 (Nat.le_refl _) fun b o hb ho => ?_
  · refine (Heap.get?_update_other _ _ hxs.symm).trans ((Heap.get?_update_self _ hx₁ rfl).trans rfl)
  · exact (Heap.get?_update_other _ _ (Nat.ne_of_gt (Heap.lt_size ho))).trans ((Heap.get?_update_other _ _ (Ne.symm hb)).trans (Heap.get?_push_of_some _ ho))
end
end Mine
end
section
open PySem PySem.W PyProof.Rows PySem.Calls PySem.Spec
set_option Elab.async false
set_option maxRecDepth 100000
set_option maxHeartbeats 2000000


namespace Mine
section
variable {w : World} {pg : Program} {loose : List Str} {mean : ExcName → Option Value} {mg mb : Str → Option Value}

theorem init_spec {dp un : Nat} {gd : Option (List Code)} {cn : Str} {cs : Scope} {L a : Addr} {ccd : Value} {cl : List (Str × Addr)} {outer : List Env} {A₀ : Around} {base h₀ : Heap} {m : Str → Option Value} {s : Shared}
    {Q E : Value → Shared → Prop} {e t0 : Addr} {x : Str} {t : Tok} {C : Addr}
    (B : Below A₀ base outer h₀) (F : Fr h₀ L s.heap m) (X : (hd.heap_39 w.params).In h₀) (T : Top pg loose mean mg mb h₀) (hk : cs.kind = .function) (hdp : dp < 950) (W : IsFault w C)
    (N : News h₀ L s.heap [(e, excObj (.ref C) none t0)])
    (hq : ∀ h' tk d t1 u, Kept [e] s.heap h' → h'.get? e = some (excObj (.ref C) (some d) t1) → h'.get? d = some (txtDict w x t u) → s.heap.get? d = none → Q .none { s with heap := h', toks := tk }) :
    wpAny (model PySem.Challenge.rw_pq0349_01.row.prog w) (ktrTop dp un gd cn cs L a ccd cl outer) (call (.ref 28) [.ref e, .str x t]) Q E s := by
  revert X; k_fill; intro X
  refine wpAny_call ?_
  have h0 : ∀ y ∈ [(e, excObj (.ref C) none t0)], s.heap.get? y.1 = some y.2 := fun y hy => (N y hy).1
  k_dflt (refine' Mine.enterP [("text", .str x t), ("self", .ref e)] ?k1 ?k2 ?k3 ?k4 ?k5 ?kA ?kF ?kK ?k6 ?k7 ?k8 ?k9 ?kB ?kbody ?c2 ?c3 ?c4 ?c5; (case kA => exact rfl); (case kF => exact rfl); (case kK => assumption); (case k1 => assumption); (case k2 => assumption); (case k3 => assumption); (case k4 => assumption); (case k5 => assumption); (case k6 => k_is); (case k7 => k_is); (case k8 => (show @LT.lt Nat _ _ 1000; (try dsimp only [ktrTop]); omega)); (case k9 => exact BindsTo.of_eq rfl); (case c5 => decide); (case kB => exact locs rfl); (case c2 => exact rfl); (case c3 => exact rfl); (case c4 => exact rfl); k_whole)
  intro g L' h₁ tk0 hg hL F' N' B' X' T'
  simp only [Mine.bindM] at F'
  clear B F X T N
  (try dsimp only)
  have FE := PySem.F.excBase_Exception
  obtain ⟨nm, q, Nn, bs, sn, sub, ab, col, dd, k0, k1, k2, k3, k5, hl⟩ := W.there
  k_steps
  refine' method_type (K := hd.heap_39 w.params) (v := .builtin "Exception.__init__") ?F ?X ?m ?st ?e ?h ?_
  case F => exact F'
  case X => exact X'
  case m => kernel_rfl
  case st => kernel_rfl
  case e => k_dflt k_is
  case h => kernel_rfl
  k_steps
  refine wpAny_call (codeAny_call_builtin FE.init.plain FE.initEntry (chk_init (F'.keep _ _ (X' _ _ hl)) (N' _ (List.Mem.head _)).1 rfl (binit (N' _ (List.Mem.head _)).1 fun h2 t2 he2 hk2 => ?_)))
  dsimp only
  have hmods : ∀ b ∈ [e], g.get? b = none ∧ b ≠ L' := fun b hb => by rw [List.mem_singleton.mp hb]; exact ⟨(N' _ (List.Mem.head _)).2.2, (N' _ (List.Mem.head _)).2.1⟩
  have F2 : Fr g L' h2 _ := fr_kept F' (mods := [e]) (fun b o ho hb => hk2 b o (fun z => hb (by rw [z]; exact .head _)) ho) hmods
  have N2 : News g L' h2 [(e, excObj (.ref C) none t2)] := fun y hy => by rw [List.mem_singleton.mp hy]; exact ⟨he2, (N' _ (List.Mem.head _)).2⟩
  clear F' N'
  k_steps
  refine exc_setText W (X'.keeps F2.keep) he2 fun h3 d u tk3 he3 hd3 hge hk3 => ?_
  have F3 : Fr g L' h3 _ := fr_kept F2 (mods := [e]) (fun b o ho hb => hk3 b o (fun z => hb (by rw [z]; exact .head _)) ho) hmods
  have N3 : News g L' h3 [(e, excObj (.ref C) (some d) t2)] := fun y hy => by rw [List.mem_singleton.mp hy]; exact ⟨he3, (N2 _ (List.Mem.head _)).2⟩
  k_steps
  refine hq h3 _ d t2 u (kept_end hg h0 F3 fun y hy hn => ?_) he3 hd3 (get_none_of_le (Nat.le_trans hL (Nat.le_trans (Nat.le_of_lt F2.ns.lt) hge)))
  rw [List.mem_singleton.mp hy] at hn
  exact absurd (List.Mem.head _) hn
end
end Mine
end
section
open PySem PySem.W PyProof.Rows PySem.Calls PySem.Spec
set_option Elab.async false
set_option maxRecDepth 100000
set_option maxHeartbeats 2000000
namespace Mine
theorem under_type {dp un : Nat} {gd : Option (List Code)} {cn : Str} {cs : Scope} {L a : Addr} {ccd : Value} {cl : List (Str × Addr)} {outer : List Env} {C : Addr} {args : List Value} :
    (ktrTop dp un gd cn cs L a ccd cl outer).under (.builtin "type.__call__" ⟨.ref C :: args, []⟩) = ktrTop (dp + 1) (un + 1) gd cn cs L a ccd cl outer := by
  have h1 : (Code.builtin "type.__call__" ⟨.ref C :: args, []⟩).isGuard = false := by kernel_rfl
  have h2 : (Code.builtin "type.__call__" ⟨.ref C :: args, []⟩).weight = 1 := by kernel_rfl
  have h3 : (Code.builtin "type.__call__" ⟨.ref C :: args, []⟩).envs = [] := by kernel_rfl
  have h4 : (Code.builtin "type.__call__" ⟨.ref C :: args, []⟩).cUnits = 1 := by kernel_rfl
  unfold Around.under Code.guards
  rw [h1, h2, h3, h4]
  rfl

section
variable {w : World} {pg : Program} {loose : List Str} {mean : ExcName → Option Value} {mg mb : Str → Option Value}

theorem fault_made {dp un : Nat} {gd : Option (List Code)} {cn : Str} {cs : Scope} {L a : Addr} {ccd : Value} {cl : List (Str × Addr)} {outer : List Env} {A₀ : Around} {base h₀ : Heap} {m : Str → Option Value} {s : Shared}
    {Q E : Value → Shared → Prop} {x : Str} {t : Tok} {C : Addr}
    (B : Below A₀ base outer h₀) (F : Fr h₀ L s.heap m) (X : (hd.heap_39 w.params).In h₀) (T : Top pg loose mean mg mb h₀) (hk : cs.kind = .function) (hdp : dp < 940) (W : IsFault w C)
    (hq : ∀ h' tk e d t1 u, (∀ b o, s.heap.get? b = some o → h'.get? b = some o) → s.heap.get? e = none → s.heap.get? d = none → h'.get? e = some (excObj (.ref C) (some d) t1) → h'.get? d = some (txtDict w x t u) → Q (.ref e) { s with heap := h', toks := tk }) :
    wpAny (model PySem.Challenge.rw_pq0349_01.row.prog w) (ktrTop dp un gd cn cs L a ccd cl outer) (call (.ref C) [.str x t]) Q E s := by
  have X1 := X.keeps F.keep
  have e28 : ∃ oI, (hd.heap_39 w.params).lookup 28 = some oI ∧ oI.cls = .type "function" := ⟨_, rfl, rfl⟩
  obtain ⟨oI, hI, hIc⟩ := e28
  refine fault_call (h := s.heap) W X1 (X1 _ _ hI) hIc (fun h' e t0 hk' he hg => ?_) (by simp [sizeLine_eq])
  rw [under_type]
  have hen : s.heap.get? e = none := get_none_of_le he
  have up : Kept [] s.heap h' := fun b o e' _ => hk' b o e'
  have F1 : Fr h₀ L h' m := fr_kept F up (fun _ h => nomatch h)
  have hLe : e ≠ L := fun z => by
    obtain ⟨oL, es, ep, hL, _⟩ := F.ns
    rw [z, hL] at hen; cases hen
  have h0e : h₀.get? e = none := by
    cases q : h₀.get? e with
    | none => rfl
    | some o => have := F.keep _ _ q; rw [hen] at this; cases this
  refine init_spec (s := { s with heap := h' }) B F1 X T hk (by omega) W (e := e) (t0 := t0) (fun y hy => by rw [List.mem_singleton.mp hy]; exact ⟨hg, hLe, h0e⟩) fun h2 tk2 d t1 u k2 he2 hd2 hdn => ⟨rfl, ?_⟩
  refine hq h2 tk2 e d t1 u (fun b o hb => k2 b o (hk' b o hb) (fun z => by rw [List.mem_singleton.mp z, hen] at hb; cases hb)) hen ?_ he2 hd2
  cases q : s.heap.get? d with
  | none => rfl
  | some o => have := hk' _ _ q; rw [hdn] at this; cases this
end

section
variable {prog : Program} {A : Around} {E : Value → Shared → Prop} {env : Env} {w : World} {C : Addr}
theorem raise_stmt {s : Shared} {x : Expr} {pos : Pos} {Q : Flow → Shared → Prop} (W : IsFault w C) (hh : A.handled = none)
    (h : wpAny (model prog w) A (eval x env) (fun v s₁ => ∃ e d t, v = .ref e ∧ (hd.heap_39 w.params).In s₁.heap ∧ s₁.heap.get? e = some (excObj (.ref C) (some d) t) ∧ E (.ref e) s₁) E s) :
    wpAny (model prog w) A (exec (.Raise (some x) none pos) env) Q E s := by
  obtain ⟨nm, q, N, bs, sn, sub, ab, col, dd, k0, k1, k2, k3, k5, hl⟩ := W.there
  rw [arm_exec_Raise]
  refine wpAny_bind (wpAny_standAt ?_)
  show wpAny (model prog w) A (raiseStmt env (some (do let v ← eval x env; standAt pos; pure v)) none) Q E s
  unfold raiseStmt
  refine wpAny_bind (wpAny_bind (wpAny_mono h (fun v s₁ h₁ => wpAny_bind (wpAny_standAt (wpAny_pure ?_))) fun _ _ x => x))
  obtain ⟨e, d, t, rfl, X, he, hE⟩ := h₁
  have hC := X _ _ hl
  obtain ⟨hp, g, d', tk, os⟩ := s₁
  repeat (first | with_reducible refine wpAny_loadPart_at he ?_ | with_reducible refine wpAny_loadPart_at hC ?_ | (with_reducible refine wpAny_isSubtype_exc hC ?_; rw [has_B]) | wp_step)
  exact wpAny_raiseNew_none hh hE
end
end Mine
end
section
open PySem PySem.W PyProof.Rows PySem.Calls PySem.Spec
set_option Elab.async false
set_option maxRecDepth 100000
set_option maxHeartbeats 2000000
namespace Mine
theorem mapFields_dict (o : Obj) (f : Array Value → Array Value) : (o.mapFields f).dict = o.dict := by
  obtain ⟨c, d, dt, sl⟩ := o; cases dt <;> rfl

/-- the exception `e` (of class `C`, its dict `d`) bears a trace whose head is not of `base`; `fl` is the head's fourth field -/
def TrD (h base : Heap) (e C d : Addr) (fl : Value) : Prop :=
  ∃ oe vs T oT ts, h.get? e = some oe ∧ (oe.cls = .ref C ∧ oe.dict = some d) ∧ oe.data = .fields vs ∧ vs[1]? = some (.ref T) ∧ base.get? T = none ∧ T ≠ e ∧ h.get? T = some oT ∧ oT.data = .fields ts ∧ ts[3]? = some fl
def FlyD (base : Heap) (l : List Env) (e C d : Addr) (fl : Value) (h : Heap) : Prop :=
  base.StaysIn h ∧ base.get? e = none ∧ h.FunFrames base l ∧ TrD h base e C d fl

section
variable {M : Model} {A : Around} {E : Value → Shared → Prop} {s : Shared} {base : Heap} {env : Env} {outer : List Env} {L e C d : Addr}

theorem entryD {oe : Obj} {vs : Array Value} {head : Value} {hadNext : Bool} {Q : Unit → Shared → Prop}
    (hfr : A.frames = some (env :: outer)) (hl : s.heap.FunFrames base (env :: outer)) (hf : env.frame = some L)
    (he : s.heap.get? e = some oe) (hkb : base.StaysIn s.heap) (hen : base.get? e = none) (hc : oe.cls = .ref C ∧ oe.dict = some d) (hd : oe.data = .fields vs) (hsz : 1 < vs.size)
    (h : ∀ h', FlyD base (env :: outer) e C d (rawInt L) h' → s.heap.UpToSlots h' → Q () { s with heap := h' }) :
    wpAny M A (do let a ← frameOf env; let pl ← entryPlaceOf L hadNext; let b ← EntryCells.newEntry head a .none (rawInt L) .none pl; setField (.ref e) 1 b) Q E s := by
  have hene : e ∉ (env :: outer).filterMap (·.frame) := fun hm => by
    obtain ⟨_, o, ho, hnf⟩ := hl.mem hm
    rw [he] at ho; cases ho; exact hnf vs hd
  refine wpAny_bind (wpAny_frameOf_fun hfr hl hf fun h₁ hs₁ => ?_)
  refine wpAny_bind (wpAny_entryPlaceOf fun pl hpl => ?_)
  unfold EntryCells.newEntry newFields
  refine wpAny_bind (wpAny_newObj_type ?_ (hpl.sizeOk5 _ _ _ _ _))
  generalize hT0 : ({ cls := .type "traceback", dict := none, data := .fields ([head, .ref L, .none, rawInt L, .none] ++ (if pl.isEmpty then List.replicate 6 Value.none else pl)).toArray } : Obj) = oT
  have he₁ : h₁.get? e = some oe := (hs₁.2.1 e hene).trans he
  have kb₁ : base.StaysIn h₁ := fun b o hbo => (hs₁.2.1 b fun hm => by rw [(hl.mem hm).1] at hbo; cases hbo).trans (hkb b o hbo)
  have he₂ := Heap.get?_push_of_some (h := h₁) oT he₁
  refine wpAny_setField he₂ hd hsz (h _ ?_ ?_)
  all_goals
    have hTe : h₁.objs.size ≠ e := Nat.ne_of_gt (Heap.lt_size he₁)
    have hd₃ := Obj.data_mapFields hd (·.setIfInBounds 1 (Value.ref h₁.objs.size))
    have he₃ := Heap.get?_update_self (Obj.mapFields (·.setIfInBounds 1 (Value.ref h₁.objs.size))) he₂ (Obj.isFreed_of_fields hd₃)
    have hT₃ := (Heap.get?_update_other (h₁.push oT) (Obj.mapFields (·.setIfInBounds 1 (Value.ref h₁.objs.size))) (Ne.symm hTe)).trans (Heap.get?_push_size h₁ (by rw [← hT0]; rfl))
    have keep : ∀ b o, b ≠ e → h₁.get? b = some o → ((h₁.push oT).update e (Obj.mapFields (·.setIfInBounds 1 (Value.ref h₁.objs.size)))).get? b = some o := fun b o hbe hb => by
      rw [Heap.get?_update_other _ _ (Ne.symm hbe)]
      exact Heap.get?_push_of_some _ hb
    have noRec : ∀ b o, s.heap.get? b = some o → (∀ vs, o.data ≠ .fields vs) → b ≠ e := fun b o hb hnf q => by
      rw [q, he] at hb; cases hb; exact hnf vs hd
  · refine ⟨fun b o hbo => keep b o (fun q => by rw [q, hen] at hbo; cases hbo) (kb₁ b o hbo), hen, hl.of_keeps fun b o hb hnf => ?_, ?_⟩
    · obtain ⟨sl, hs⟩ := hs₁.2.2 b o hb
      exact ⟨_, keep b _ (noRec b o hb hnf) hs, rfl⟩
    · refine ⟨_, _, h₁.objs.size, _, _, he₃, ⟨(Obj.cls_mapFields _ _).trans hc.1, (mapFields_dict _ _).trans hc.2⟩, hd₃, by simp [hsz], kb₁.fresh, hTe, hT₃, by rw [← hT0], ?_⟩
      first | (simp; done) | (rcases hpl with rfl | ⟨_, _, _, _, _, _, _, rfl⟩ <;> simp)
  · intro b o hb hnf
    obtain ⟨sl, hs⟩ := hs₁.2.2 b o hb
    exact ⟨sl, keep b _ (noRec b o hb hnf) hs⟩

theorem noteFirstD {oe : Obj} {vs : Array Value} {Q : Unit → Shared → Prop}
    (hfr : A.frames = some (env :: outer)) (hl : s.heap.FunFrames base (env :: outer)) (hf : env.frame = some L)
    (he : s.heap.get? e = some oe) (hkb : base.StaysIn s.heap) (hen : base.get? e = none) (hc : oe.cls = .ref C ∧ oe.dict = some d) (hd : oe.data = .fields vs) (h1 : vs[1]? = some .none)
    (h : ∀ h', FlyD base (env :: outer) e C d (rawInt L) h' → s.heap.UpToSlots h' → Q () { s with heap := h' }) : wpAny M A (noteFrame (.ref e) env) Q E s := by
  unfold noteFrame
  simp only [hf]
  refine wpAny_bind (wpAny_field he hd h1 ?_)
  rw [if_neg (by decide)]
  exact entryD hfr hl hf he hkb hen hc hd (Array.getElem?_eq_some_iff.mp h1).1 h

theorem noteNextD {Q : Unit → Shared → Prop} (hfr : A.frames = some (env :: outer)) (hf : env.frame = some L) (hfl : FlyD base (env :: outer) e C d .none s.heap)
    (h : ∀ h', FlyD base (env :: outer) e C d (rawInt L) h' → s.heap.UpToSlots h' → Q () { s with heap := h' }) : wpAny M A (noteFrame (.ref e) env) Q E s := by
  obtain ⟨hkb, hen, hl, oe, vs, T, oT, ts, he, hc, hd, h1, hnT, hTe, hT, hdT, h3⟩ := hfl
  unfold noteFrame
  simp only [hf]
  refine wpAny_bind (wpAny_field he hd h1 ?_)
  rw [if_pos (show (Value.ref T != Value.none) = true from by simp)]
  refine wpAny_bind (wpAny_field hT hdT h3 ?_)
  rw [if_neg (show ¬ ((Value.none == rawInt L) = true) from by simp [rawInt])]
  refine wpAny_bind (wpAny_setField hT hdT (Array.getElem?_eq_some_iff.mp h3).1 ?_)
  have other : ∀ b, b ≠ T → (s.heap.update T (Obj.mapFields (·.setIfInBounds 3 Value.none))).get? b = s.heap.get? b := fun b hb => Heap.get?_update_other _ _ (Ne.symm hb)
  have noRec : ∀ b o, s.heap.get? b = some o → (∀ vs, o.data ≠ .fields vs) → b ≠ T := fun b o hb hnf q => by
    rw [q, hT] at hb; cases hb; exact hnf ts hdT
  refine entryD hfr (hl.of_keeps fun b o hb hnf => ⟨o, (other b (noRec b o hb hnf)).trans hb, rfl⟩) hf ((other e (Ne.symm hTe)).trans he)
    (fun b o hbo => (other b fun q => by rw [q, hnT] at hbo; cases hbo).trans (hkb b o hbo)) hen hc hd (Array.getElem?_eq_some_iff.mp h1).1
    fun h' x1 x2 => h h' x1 fun b o hb hnf => x2 b o ((other b (noRec b o hb hnf)).trans hb) hnf

theorem flightD {l : List Env} {fl : Value} {Q : Unit → Shared → Prop} (hfl : FlyD base l e C d fl s.heap)
    (h : ∀ h', FlyD base l e C d .none h' → s.heap.UpToSlots h' → Q () { s with heap := h' }) : wpAny M A (setFlight (.ref e) none) Q E s := by
  obtain ⟨hkb, hen, hl, oe, vs, T, oT, ts, he, hc, hd, h1, hnT, hTe, hT, hdT, h3⟩ := hfl
  have hsz3 : 3 < ts.size := (Array.getElem?_eq_some_iff.mp h3).1
  have other : ∀ b, b ≠ T → (s.heap.update T (Obj.mapFields (·.setIfInBounds 3 ((none : Option Addr).elim Value.none fun f => rawInt f)))).get? b = s.heap.get? b :=
    fun b hb => Heap.get?_update_other _ _ (Ne.symm hb)
  have noRec : ∀ b o, s.heap.get? b = some o → (∀ vs, o.data ≠ .fields vs) → b ≠ T := fun b o hb hnf q => by
    rw [q, hT] at hb; cases hb; exact hnf ts hdT
  unfold setFlight
  refine wpAny_bind (wpAny_field he hd h1 ?_)
  rw [if_pos (show (Value.ref T != Value.none) = true from by simp)]
  refine wpAny_setField hT hdT hsz3 (h _ ⟨fun b o hbo => (other b fun q => by rw [q, hnT] at hbo; cases hbo).trans (hkb b o hbo), hen,
    hl.of_keeps fun b o hb hnf => ⟨o, (other b (noRec b o hb hnf)).trans hb, rfl⟩, ?_⟩ fun b o hb hnf => ⟨o.slots, (other b (noRec b o hb hnf)).trans hb⟩)
  exact ⟨oe, vs, T, _, _, (other e (Ne.symm hTe)).trans he, hc, hd, h1, hnT, hTe, Heap.get?_update_self _ hT (Obj.isFreed_of_fields (Obj.data_mapFields hdT _)), Obj.data_mapFields hdT _, by simp [hsz3]⟩

theorem FlyD.less {fl : Value} {h : Heap} (x : FlyD base (env :: outer) e C d fl h) : FlyD base outer e C d fl h :=
  let ⟨a, b, ⟨_, _, c⟩, r⟩ := x; ⟨a, b, c, r⟩

theorem leaveFirstD {t : Addr} {Q : Unit → Shared → Prop}
    (hfr : A.frames = some (env :: outer)) (hl : s.heap.FunFrames base (env :: outer)) (hf : env.frame = some L)
    (he : s.heap.get? e = some (excObj (.ref C) (some d) t)) (hkb : base.StaysIn s.heap) (hen : base.get? e = none)
    (h : ∀ h', FlyD base outer e C d .none h' → s.heap.UpToSlots h' → Q () { s with heap := h' }) : wpAny M A (leaving env (.ref e)) Q E s := by
  unfold leaving
  exact wpAny_bind (noteFirstD hfr hl hf he hkb hen ⟨rfl, rfl⟩ rfl rfl fun h' x u => flightD x fun h'' x' u' => h h'' x'.less (u.trans u'))
theorem leaveNextD {Q : Unit → Shared → Prop} (hfr : A.frames = some (env :: outer)) (hf : env.frame = some L) (hfl : FlyD base (env :: outer) e C d .none s.heap)
    (h : ∀ h', FlyD base outer e C d .none h' → s.heap.UpToSlots h' → Q () { s with heap := h' }) : wpAny M A (leaving env (.ref e)) Q E s := by
  unfold leaving
  exact wpAny_bind (noteNextD hfr hf hfl fun h' x u => flightD x fun h'' x' u' => h h'' x'.less (u.trans u'))
end
end Mine
end
section
open PySem PySem.W PyProof.Rows PySem.Calls PySem.Spec
set_option Elab.async false
set_option maxRecDepth 100000
set_option maxHeartbeats 2000000
namespace Mine
abbrev frs (l : List Env) : List Addr := l.filterMap (·.frame)

/-- an exception of class `C` with the text `x` flies through the frames `l`; all that `G` bears stands (the frames up to their slots) -/
def Flies (w : World) (l : List Env) (C : Addr) (x : Str) (G h' : Heap) (e : Addr) : Prop :=
  ∃ base d t u, (∀ b o, G.get? b = some o → b ∉ frs l → base.get? b = some o) ∧ base.get? d = some (txtDict w x t u) ∧ G.get? e = none ∧ FlyD base l e C d .none h' ∧ G.UpToSlots h'

theorem frs_cons {env : Env} {outer : List Env} {L b : Addr} (hf : env.frame = some L) (h : b ∈ frs (env :: outer)) : b = L ∨ b ∈ frs outer := by
  obtain ⟨env', he, hf'⟩ := List.mem_filterMap.mp h
  rcases List.mem_cons.mp he with rfl | he
  · exact .inl (Option.some.inj (hf'.symm.trans hf))
  · exact .inr (List.mem_filterMap.mpr ⟨env', he, hf'⟩)
theorem frs_in {env : Env} {outer : List Env} {b : Addr} (h : b ∈ frs outer) : b ∈ frs (env :: outer) := by
  obtain ⟨env', he, hf'⟩ := List.mem_filterMap.mp h
  exact List.mem_filterMap.mpr ⟨env', List.mem_cons_of_mem _ he, hf'⟩
theorem frs_self {env : Env} {outer : List Env} {L : Addr} (hf : env.frame = some L) : L ∈ frs (env :: outer) := List.mem_filterMap.mpr ⟨env, List.mem_cons_self, hf⟩

section
variable {M : Model} {A : Around} {E : Value → Shared → Prop} {s : Shared} {base g G : Heap} {env : Env} {outer : List Env} {L e C d t1 : Addr} {w : World} {x : Str} {t u : Tok} {m : Str → Option Value}

theorem raise_leaves {Q : Unit → Shared → Prop} (K : Below A base outer g) (F : Fr g L s.heap m) (hf : env.frame = some L) (hk : env.scope.kind = .function)
    (hG : ∀ b o, G.get? b = some o → s.heap.get? b = some o) (hGL : G.get? L = none) (hGe : G.get? e = none)
    (he : s.heap.get? e = some (excObj (.ref C) (some d) t1)) (hd : s.heap.get? d = some (txtDict w x t u))
    (hnf : ∀ b ∈ frs (env :: outer), b ≠ d)
    (hQ : ∀ h', Flies w outer C x G h' e → Q () { s with heap := h' }) : wpAny M (A.deeper env) (leaving env (.ref e)) Q E s := by
  have K' := pushX K F hf hk
  have hed : e ≠ d := fun z => by rw [z, hd] at he; cases he
  refine leaveFirstD (base := hideAll s.heap (e :: frs (env :: outer))) K'.stack (funFrames_hide K'.frames fun env' he' b hb => List.mem_cons_of_mem _ (List.mem_filterMap.mpr ⟨env', he', hb⟩)) hf he (fun b o q => of_hideAll _ q) (hideAll_none _ List.mem_cons_self) fun h' hfl hu => ?_
  refine hQ h' ⟨_, d, t, u, fun b o hb hnb => hideAll_get _ (hG b o hb) fun q => ?_, hideAll_get _ hd fun q => ?_, hGe, hfl, (Heap.UpToSlots.of_keeps hG).trans hu⟩
  · rcases List.mem_cons.mp q with z | z
    · rw [z, hGe] at hb; cases hb
    · rcases frs_cons hf z with z | z
      · rw [z, hGL] at hb; cases hb
      · exact hnb z
  · rcases List.mem_cons.mp q with z | z
    · exact hed z.symm
    · exact hnf d z rfl

theorem frs_live {h : Heap} (K : Below A base outer g) (F : Fr g L h m) (hf : env.frame = some L) (hd : h.get? d = none) : ∀ b ∈ frs (env :: outer), b ≠ d := fun b hb z => by
  subst z
  rcases frs_cons hf hb with z | z
  · obtain ⟨oL, es, ep, hL, _⟩ := F.ns
    rw [z, hL] at hd; cases hd
  · obtain ⟨_, o, ho, _⟩ := K.frames.mem z
    rw [F.keep _ _ ho] at hd; cases hd
/-- a fault made in a frame leaves it -/
theorem raise_end {h₁ : Heap} {Q : Unit → Shared → Prop} (K : Below A base outer g) (F : Fr g L h₁ m) (hf : env.frame = some L) (hk : env.scope.kind = .function)
    (hg : ∀ b o, G.get? b = some o → g.get? b = some o) (hL : G.objs.size ≤ L) (up : ∀ b o, h₁.get? b = some o → s.heap.get? b = some o) (hen : h₁.get? e = none) (hdn : h₁.get? d = none)
    (he : s.heap.get? e = some (excObj (.ref C) (some d) t1)) (hd : s.heap.get? d = some (txtDict w x t u))
    (hQ : ∀ h', Flies w outer C x G h' e → Q () { s with heap := h' }) : wpAny M (A.deeper env) (leaving env (.ref e)) Q E s :=
  raise_leaves K (F.keeps up) hf hk (fun b o q => up _ _ (F.keep _ _ (hg b o q))) (get_none_of_le hL) (by
    cases q : G.get? e with
    | none => rfl
    | some o => have := F.keep _ _ (hg _ _ q); rw [hen] at this; cases this) he hd (frs_live K F hf hdn) hQ

theorem flies_leaves {G₂ : Heap} {Q : Unit → Shared → Prop} (hfr : A.frames = some outer) (hf : env.frame = some L)
    (hG : ∀ b o, G.get? b = some o → G₂.get? b = some o) (hGL : G.get? L = none) (H : Flies w (env :: outer) C x G₂ s.heap e)
    (hQ : ∀ h', Flies w outer C x G h' e → Q () { s with heap := h' }) : wpAny M (A.deeper env) (leaving env (.ref e)) Q E s := by
  obtain ⟨bs, d, t, u, h1, h2, h3, h4, h5⟩ := H
  refine leaveNextD (Around.frames_deeper hfr) hf h4 fun h' hfl hu => hQ h' ⟨bs, d, t, u, fun b o hb hnb => h1 b o (hG b o hb) fun q => ?_, h2, ?_, hfl, ((Heap.UpToSlots.of_keeps hG).trans h5).trans hu⟩
  · rcases frs_cons hf q with z | z
    · rw [z, hGL] at hb; cases hb
    · exact hnb z
  · cases q : G.get? e with
    | none => rfl
    | some o => have := hG _ _ q; rw [h3] at this; cases this
end

section
variable {A₀ : Around} {base g G B h₅ : Heap} {env : Env} {outer : List Env} {L : Addr} {m : Str → Option Value}
theorem self_none (F : Fr g L h₅ m) : g.get? L = none := Heap.get?_none_of_le F.above

theorem groundD (K : Below A₀ base outer g) (F : Fr g L G m) (hf : env.frame = some L) (hBG : ∀ b o, G.get? b = some o → b ∉ frs (env :: outer) → B.get? b = some o) (hBh : B.StaysIn h₅) (hsm : G.UpToSlots h₅) :
    ∃ g', KtsTurn (frs outer) g g' ∧ Fr g' L h₅ m ∧ Below A₀ base outer g' := by
  have nL : ∀ b o, g.get? b = some o → b ≠ L := fun b o e z => by rw [z, self_none F] at e; cases e
  obtain ⟨T, S⟩ := kts_turn_at (h := h₅) (fs := frs outer) (g := g)
    (fun b hb => let ⟨_, o, ho, _⟩ := K.frames.mem hb; ⟨o, ho⟩)
    (fun b o e nm => hBh b o (hBG b o (F.keep b o e) (fun hm => (frs_cons hf hm).elim (nL b o e) nm)))
    (fun b o e hm => by
      obtain ⟨_, o', ho', hd⟩ := K.frames.mem hm
      rw [e] at ho'
      cases ho'
      exact hsm b o (F.keep b o e) hd)
  refine ⟨_, T, ⟨hsm.ns F.ns, S, by rw [T.size]; exact F.above⟩, ⟨K.stack, fun b o e => T.other b o (K.stays b o e) (fun hm => by rw [(K.frames.mem hm).1] at e; cases e), K.frames.of_keeps fun b o e _ => ?_⟩⟩
  obtain ⟨sl, hs⟩ := T.up e
  exact ⟨_, hs, rfl⟩
end

section
variable {prog : Program} {w : World} {A₀ : Around} {E : Value → Shared → Prop} {s' : Shared} {base g G : Heap} {outer : List Env} {L a e C : Addr} {m : Str → Option Value} {cn : Str} {cs : Scope} {ccd : Value} {cl : List (Str × Addr)}
  {n xn : Str} {b₀ : Stmt} {suite : List Stmt} {pos np : Pos} {rest : List ExceptHandler} {Q : Flow → Shared → Prop} {pg : Program} {loose : List Str} {mean : ExcName → Option Value} {mg mb : Str → Option Value} {x : Str}

theorem catchD (W : IsFault w C) (R : Flies w (envX cn cs L a ccd cl :: outer) C x G s'.heap e) (F : Fr g L G m) (K : Below A₀ base outer g) (XB : (hd.heap_39 w.params).In base) (TB : Top pg loose mean mg mb base)
    (ex : nsIn (hd.heap_39 w.params) mainGlobals xn = some (some (.ref C)))
    (k : ∀ h' g' tk d t u oe, KtsTurn (frs outer) g g' → Fr g' L h' (fun y => if y = n then some (.ref e) else m y) → Below A₀ base outer g' → (∀ b o, G.get? b = some o → b ∉ frs (envX cn cs L a ccd cl :: outer) → h'.get? b = some o) →
      h'.get? e = some oe → oe.cls = .ref C → oe.dict = some d → (∀ c, oe.data ≠ .cls c) → h'.get? d = some (txtDict w x t u) →
      wpAny (model prog w) ((A₀.deeper (envX cn cs L a ccd cl)).mark (some (.ref e))) (execs (b₀ :: suite) (envX cn cs L a ccd cl))
        (fun f s₄ => wpAny (model prog w) (A₀.deeper (envX cn cs L a ccd cl)) (do bindName (envX cn cs L a ccd cl) n .none; unbindBehindTheSuite (envX cn cs L a ccd cl) n pos) (fun _ s₅ => Q f s₅) E s₄)
        (AsSuiteRaised (model prog w) ((A₀.deeper (envX cn cs L a ccd cl)).mark (some (.ref e))) (envX cn cs L a ccd cl) n pos (notedBy (model prog w) ((A₀.deeper (envX cn cs L a ccd cl)).mark (some (.ref e))) (envX cn cs L a ccd cl) (cameBackBy (model prog w) (A₀.deeper (envX cn cs L a ccd cl)) (envX cn cs L a ccd cl) E)))
        { s' with heap := h', toks := tk })
    (hk : cs.kind = .function := by rfl) (hlo : (envX cn cs L a ccd cl).kindOf n = some .local := by rfl) (hx : (envX cn cs L a ccd cl).kindOf xn = some .globalImplicit := by rfl) (hd : (xn == ("__debug__" : Str)) = false := by decide) :
    wpAny (model prog w) (A₀.deeper (envX cn cs L a ccd cl)) (noteFrame (.ref e) (envX cn cs L a ccd cl))
      (fun _ s₂ => wpAny (model prog w) (A₀.deeper (envX cn cs L a ccd cl)) (setFlight (.ref e) none) (fun _ s₃ =>
        wpAny (model prog w) (A₀.deeper (envX cn cs L a ccd cl)) (handleBy (.ref e) (envX cn cs L a ccd cl) (.ExceptHandler (some (.Name xn np)) (some n) (b₀ :: suite) pos :: rest)) Q E s₃) E s₂) E s' := by
  obtain ⟨B, d, t, u, hBG, hBd, hGe, hfl, hsm⟩ := R
  obtain ⟨nm, q', N, bs, sn, sub, ab, col, dd, k0, k1, k2, k3, k5, hl⟩ := W.there
  refine noteNextD (Around.frames_deeper K.stack) rfl hfl fun h₄ hfl₄ hsm₄ => ?_
  refine flightD hfl₄ fun h₅ hfl₅ hsm₅ => ?_
  obtain ⟨g₅, T₅, F₅, K₅⟩ := groundD (env := envX cn cs L a ccd cl) K F rfl hBG hfl₅.1 ((hsm.trans hsm₄).trans hsm₅)
  have X₅ := XB.keeps K₅.stays
  have P₅ : TopRead pg loose mg mb g₅ := topRead_of (TB.keeps K₅.stays)
  have hC₅ := F₅.keep _ _ (X₅ _ _ hl)
  obtain ⟨oe, vs, T, oT, ts, he, hc, hdd, r⟩ := id hfl₅.2.2.2
  refine wpAny_handleBy_cons (codeAny_handlers_test (nameX_K F₅ X₅ P₅ ex ?_ hk hx hd)) (by intro q; cases q)
  refine wpAny_excMatches_sub_self (bm := bmF) hC₅ he hc.1 (by simp [bmF]) (codeAny_handlers_suite_as ?_)
  refine flightD hfl₅ fun h₆ hfl₆ hsm₆ => ?_
  obtain ⟨g₆, T₆, F₆, K₆⟩ := groundD (env := envX cn cs L a ccd cl) K F rfl hBG hfl₆.1 (((hsm.trans hsm₄).trans hsm₅).trans hsm₆)
  obtain ⟨oe, vs, T, oT, ts, he, hc, hdd, r⟩ := id hfl₆.2.2.2
  have hBL : B.get? L = none := by
    obtain ⟨_, ⟨L', _, hf, hn', _⟩, _⟩ := hfl₆.2.2.1
    obtain rfl : L = L' := Option.some.inj hf
    exact hn'
  have heL : e ≠ L := fun z => by
    obtain ⟨oL, es, ep, hL, hLd, _⟩ := F₆.ns
    rw [← z, he] at hL; cases hL; rw [hdd] at hLd; cases hLd
  refine wpAny_storeName_local hlo F₆.ns (fun h₇ hn₇ hs₇ => ?_) (by show (cs.kind == .class || (cs.kind == .module && L != mainGlobals)) = false; rw [hk]; rfl)
  refine k h₇ g₆ _ d t u oe T₆ (F₆.set hn₇ hs₇) K₆ (fun b o hb hnb => ?_) ((hs₇.2 e heL).trans he) hc.1 hc.2 (fun c z => by rw [hdd] at z; cases z) ?_
  · refine (hs₇.2 b fun z => hnb (z ▸ frs_self rfl)).trans (hfl₆.1 _ _ (hBG b o hb hnb))
  · refine (hs₇.2 d fun z => ?_).trans (hfl₆.1 _ _ hBd)
    rw [z, hBL] at hBd; cases hBd
end
end Mine
end
section
open PySem PySem.W PyProof.Rows PySem.Calls PySem.Spec
set_option Elab.async false
set_option maxRecDepth 100000
set_option maxHeartbeats 2000000
namespace Mine
section
variable {prog : Program} {w : World} {A : Around} {E : Value → Shared → Prop} {h : Heap} {g : Array GenState} {dr : Drawn} {tk : Nat} {os : OsState} {e d C : Addr} {oe : Obj} {x : Str} {t u : Tok}

theorem looks_text {M : Model} (hd : h.get? d = some (txtDict w x t u)) : Looks M h (nsGet d "text") (some (.str x t)) := by
  refine looks_nsIn (K := [(d, txtDict w x t u)]) (fun a o q => ?_) ?_
  · simp only [List.lookup] at q
    split at q
    · rename_i z; cases q; rw [beq_iff_eq.mp z]; exact hd
    · cases q
  · unfold nsIn
    simp only [List.lookup, beq_self_eq_true]
    rfl

theorem text_entry {tk' : Tok} {Q : Fin → Shared → Prop} (W : IsFault w C) (X : (hd.heap_39 w.params).In h) (he : h.get? e = some oe) (hc : oe.cls = .ref C) (hdc : oe.dict = some d) (hnc : ∀ c, oe.data ≠ .cls c) (hd : h.get? d = some (txtDict w x t u))
    (hq : Q (.done (.ret (.str x t))) ⟨h, g, dr, tk, os⟩) :
    wpAny (model prog w) A (Builtin.«object.__getattribute__» ⟨[.ref e, .str "text" tk'], []⟩) Q E ⟨h, g, dr, tk, os⟩ := by
  obtain ⟨nm, q, N, bs, sn, sub, ab, col, dd, k0, k1, k2, k3, k5, hl⟩ := W.there
  have hC := X _ _ hl
  unfold Builtin.«object.__getattribute__»
  repeat (first | (with_reducible refine wpAny_loadPart_at he ?_; rw [hc]) | (with_reducible refine Looks.here (looks_findIn X W.text) ?_) | wp_step)
  split
  · rename_i c hcd
    exact absurd hcd (hnc c)
  unfold instanceDict
  repeat (first | (with_reducible refine wpAny_loadPart_at he ?_; rw [hc]) | with_reducible refine wpAny_loadPart_at hC ?_ | wp_step)
  rw [hdc]
  repeat (first | (with_reducible refine Looks.here (looks_text hd) ?_) | wp_step)
  exact hq

theorem chk_ga {M : Model} {nm q : Str} {N : Addr} {bs : List Value} {sn : List Str} {sub : List Value} {ab : Bool} {col : Option Bool} {dd : Option Addr} {k0 k1 k2 k3 k5 : Option Value} {nameV : Value} {Q : Unit → Shared → Prop}
    (hC : h.get? C = some (excClassObj nm q C N bs bmF true sn sub ab col dd k0 k1 k2 k3 k5 "Exception.__new__")) (he : h.get? e = some oe) (hc : oe.cls = .ref C) (hq : Q () ⟨h, g, dr, tk, os⟩) :
    wpAny M A (checkBuiltinCall "BaseException.__getattribute__" ⟨[.ref e, nameV], []⟩) Q E ⟨h, g, dr, tk, os⟩ := by
  have hk : builtinKind "BaseException.__getattribute__" = some .slot := by decide +kernel
  have hsplit : splitId "BaseException.__getattribute__" = some ("BaseException", "__getattribute__") := by decide +kernel
  have ha := PySem.F.args_bexc_ga (.ref e) nameV
  simp only [checkBuiltinCall, hk, hsplit]
  refine wpAny_bind ?_
  unfold isInstance
  repeat (first | (with_reducible refine wpAny_loadPart_at he ?_; rw [hc]) | (with_reducible refine wpAny_isSubtype_exc hC ?_; rw [has_B]) | wp_step)
  exact hq

theorem text_attr {expr : Bool} {Q : Value → Shared → Prop} (W : IsFault w C) (X : (hd.heap_39 w.params).In h) (he : h.get? e = some oe) (hc : oe.cls = .ref C) (hdc : oe.dict = some d) (hnc : ∀ c, oe.data ≠ .cls c) (hd : h.get? d = some (txtDict w x t u))
    (hq : Q (.str x t) ⟨h, g, dr, tk + 1, os⟩) : wpAny (model prog w) A (getAttr (.ref e) "text" expr) Q E ⟨h, g, dr, tk, os⟩ := by
  obtain ⟨nm, q, N, bs, sn, sub, ab, col, dd, k0, k1, k2, k3, k5, hl⟩ := W.there
  have hC := X _ _ hl
  have GA : Slot "ValueError" "__getattribute__" "BaseException.__getattribute__" := PySem.F.excAttr_ValueError.ga
  have f3 := GA.bind (.ref e)
  have hx0 : (expr && onTheHeap (Value.builtin "BaseException.__getattribute__")) = false := by cases expr <;> rfl
  have hx2 : (Value.builtin "BaseException.__getattribute__" == Value.builtin "object.__getattribute__") = false := by decide +kernel
  have hx1 : (onTheHeap (Value.ref C) && Value.builtin "BaseException.__getattribute__" == Value.builtin "object.__getattribute__") = false := by rw [hx2]; rfl
  unfold getAttr getAttrBy
  repeat (any_goals (first | assumption | (with_reducible refine wpAny_loadPart_at he ?_; rw [hc]) | (with_reducible refine Looks.here (looks_findIn X W.ga) ?_) | (with_reducible refine Looks.here (looks_findIn X W.gat) ?_) | wp_step))
  refine codeAny_call_builtin GA.plain PySem.F.entry_bexc_ga ?_
  refine chk_ga hC he hc ?_
  refine text_entry W X he hc hdc hnc hd ?_
  dsimp only
  exact wpAny_pure hq
end
end Mine
end
section
open PySem PySem.W PyProof.Rows PySem.Calls PySem.Spec
set_option Elab.async false
set_option maxRecDepth 100000
set_option maxHeartbeats 2000000
namespace Mine

/-- a token: a mark, a name, a whole number, or another (of which the value is never asked) -/
inductive Tk where
  | op (m : Str)
  | name (x : Str)
  | int (k : Int)
  | real
  | char
def Tk.kind : Tk → Str
  | .op _ => "OP"
  | .name _ => "NAME"
  | .int _ => "INT"
  | .real => "REAL"
  | .char => "CHAR"
def Tk.Val : Tk → Value → Prop
  | .op m, v => ∃ t, v = .str m t
  | .name x, v => ∃ t, v = .str x t
  | .int k, v => ∃ t, v = .int k t
  | .real, _ => True
  | .char, _ => True

def TokAt (h : Heap) (v : Value) (tk : Tk) : Prop := ∃ a kt val third, v = .ref a ∧ IsTup h a [.str tk.kind kt, val, third].toArray ∧ tk.Val val
theorem TokAt.keeps {h h' : Heap} {v : Value} {tk : Tk} (x : TokAt h v tk) (k : ∀ b o, h.get? b = some o → h'.get? b = some o) : TokAt h' v tk :=
  let ⟨a, kt, val, th, e, ht, hv⟩ := x; ⟨a, kt, val, th, e, ht.keeps k, hv⟩
def ToksAt (h : Heap) (tl : Addr) (toks : List Tk) : Prop :=
  ∃ vs : List Value, h.IsList tl vs.toArray ∧ vs.length = toks.length ∧ ∀ (i : Nat) (tk : Tk), toks[i]? = some tk → ∃ v : Value, vs[i]? = some v ∧ TokAt h v tk
theorem ToksAt.keeps {h h' : Heap} {tl : Addr} {toks : List Tk} (x : ToksAt h tl toks) (k : ∀ b o, h.get? b = some o → h'.get? b = some o) : ToksAt h' tl toks :=
  let ⟨vs, hl, hn, ht⟩ := x; ⟨vs, hl.at fun o => k tl o, hn, fun i tk e => let ⟨v, hv, r⟩ := ht i tk e; ⟨v, hv, r.keeps k⟩⟩

/-- where a call stands -/
structure Here (w : World) (pg : Program) (loose : List Str) (mean : ExcName → Option Value) (mg mb : Str → Option Value) (cs : Scope) (A₀ : Around) (base h₀ : Heap) (outer : List Env) (L : Addr) (m : Str → Option Value) (h : Heap) : Prop where
  B : Below A₀ base outer h₀
  F : Fr h₀ L h m
  XB : (hd.heap_39 w.params).In base
  TB : Top pg loose mean mg mb base
  hk : cs.kind = .function
theorem Here.X {w : World} {pg : Program} {loose : List Str} {mean : ExcName → Option Value} {mg mb : Str → Option Value} {cs : Scope} {A₀ : Around} {base h₀ : Heap} {outer : List Env} {L : Addr} {m : Str → Option Value} {h : Heap}
    (H : Here w pg loose mean mg mb cs A₀ base h₀ outer L m h) : (hd.heap_39 w.params).In h₀ := H.XB.keeps H.B.stays
theorem Here.T {w : World} {pg : Program} {loose : List Str} {mean : ExcName → Option Value} {mg mb : Str → Option Value} {cs : Scope} {A₀ : Around} {base h₀ : Heap} {outer : List Env} {L : Addr} {m : Str → Option Value} {h : Heap}
    (H : Here w pg loose mean mg mb cs A₀ base h₀ outer L m h) : Top pg loose mean mg mb h₀ := H.TB.keeps H.B.stays

/-- what a call of `f` does that changes nothing that stood: it gives a value of which `post` holds -/
def Pure (w : World) (pg : Program) (loose : List Str) (mean : ExcName → Option Value) (mg mb : Str → Option Value) (lim : Nat) (f : Value) (args : List Value) (h : Heap) (post : Heap → Value → Prop) : Prop :=
  ∀ ⦃dp un : Nat⦄ ⦃gd : Option (List Code)⦄ ⦃cn : Str⦄ ⦃cs : Scope⦄ ⦃L a : Addr⦄ ⦃ccd : Value⦄ ⦃cl : List (Str × Addr)⦄ ⦃outer : List Env⦄ ⦃A₀ : Around⦄ ⦃base h₀ : Heap⦄ ⦃m : Str → Option Value⦄ ⦃s : Shared⦄ ⦃Q E : Value → Shared → Prop⦄,
    Here w pg loose mean mg mb cs A₀ base h₀ outer L m s.heap → s.heap = h → dp + lim < 900 →
    (∀ h' tk v, Kept [] s.heap h' → post h' v → Q v { s with heap := h', toks := tk }) →
    wpAny (model PySem.Challenge.rw_pq0349_01.row.prog w) (ktrTop dp un gd cn cs L a ccd cl outer) (call f args) Q E s

/-- the like, of a call that may raise a fault -/
def PureX (w : World) (pg : Program) (loose : List Str) (mean : ExcName → Option Value) (mg mb : Str → Option Value) (lim : Nat) (f : Value) (args : List Value) (h : Heap) (post : Heap → Value → Prop) (exc : Str → Prop) : Prop :=
  ∀ ⦃dp un : Nat⦄ ⦃gd : Option (List Code)⦄ ⦃cn : Str⦄ ⦃cs : Scope⦄ ⦃L a : Addr⦄ ⦃ccd : Value⦄ ⦃cl : List (Str × Addr)⦄ ⦃outer : List Env⦄ ⦃A₀ : Around⦄ ⦃base h₀ : Heap⦄ ⦃m : Str → Option Value⦄ ⦃s : Shared⦄ ⦃Q E : Value → Shared → Prop⦄,
    Here w pg loose mean mg mb cs A₀ base h₀ outer L m s.heap → s.heap = h → dp + lim < 900 →
    (∀ h' tk v, Kept [] s.heap h' → post h' v → Q v { s with heap := h', toks := tk }) →
    (∀ h' tk e x, exc x → Flies w (envX cn cs L a ccd cl :: outer) 44 x s.heap h' e → E (.ref e) { s with heap := h', toks := tk }) →
    wpAny (model PySem.Challenge.rw_pq0349_01.row.prog w) (ktrTop dp un gd cn cs L a ccd cl outer) (call f args) Q E s
theorem Pure.toX {w : World} {pg : Program} {loose : List Str} {mean : ExcName → Option Value} {mg mb : Str → Option Value} {lim : Nat} {f : Value} {args : List Value} {h : Heap} {post : Heap → Value → Prop} {exc : Str → Prop}
    (x : Pure w pg loose mean mg mb lim f args h post) : PureX w pg loose mean mg mb lim f args h post exc :=
  fun _ _ _ _ _ _ _ _ _ _ _ _ _ _ _ _ _ H e hd q _ => x H e hd q

theorem kept_nil {h g h' : Heap} {L : Addr} {m : Str → Option Value} (hg : ∀ b o, h.get? b = some o → b ∉ ([] : List (Addr × Obj)).map (·.1) → g.get? b = some o) (F : Fr g L h' m) : Kept [] h h' := fun b o e _ => F.keep b o (hg b o e (fun q => nomatch q))
end Mine
end
section
open PySem PySem.W PyProof.Rows PySem.Calls PySem.Spec
set_option Elab.async false
set_option maxRecDepth 100000
set_option maxHeartbeats 2000000


local macro_rules | `(tactic| walk_at "call builtin:len") => `(tactic| (k_here; (with_reducible show wpAny _ _ (call (Value.builtin "len") [Value.ref _]) _ _ _); (refine' len_list ?k1 ?k2 ?_; (case k1 => is_list); (case k2 => (simp only [List.size_toArray]; omega))); (try simp only [List.size_toArray])))

local macro_rules | `(tactic| walk_at "subscriptTail") => `(tactic| (k_here; (with_reducible show wpAny _ _ (subscriptTail _ _ (Value.ref _) (Value.int _ _)) _ _ _); (refine' item_listL ?k1 ?k2 ?k3 ?k4 ?_; (case k1 => is_list); (case k4 => with_reducible assumption); (case k2 => omega); (case k3 => omega))))
local macro_rules | `(tactic| walk_at "subscriptTail") => `(tactic| (k_here; (with_reducible show wpAny _ _ (subscriptTail _ _ (Value.ref _) (Value.int _ _)) _ _ _); k_dflt (refine' item_tupleT ?t ?a ?b ?c ?d ?_; (case t => first | assumption | exact Fr.tup (by assumption) (by assumption)); (case a => decide); (case b => decide); (case c => rfl); (case d => rfl); k_whole)))

namespace Mine
section
variable {w : World} {pg : Program} {loose : List Str} {mean : ExcName → Option Value} {mg mb : Str → Option Value} {tl : Addr} {toks : List Tk} {k : Int} {t : Tok} {h : Heap}

def kindS (toks : List Tk) (i : Nat) : Str := match toks[i]? with | some tk => tk.kind | none => ""
def isOp (toks : List Tk) (i : Nat) (x : Str) : Bool := match toks[i]? with | some (.op m) => m == x | _ => false

theorem kind_at_spec (TK : ToksAt h tl toks) (hn : toks.length ≤ 1000) (h0 : 0 ≤ k) :
    Pure w pg loose mean mg mb 1 (.ref 114) [.ref tl, .int k t] h (fun _ v => ∃ t', v = .str (kindS toks k.toNat) t') := by
  intro dp un gd cn cs L a ccd cl outer A₀ base h₀ m s Q E H hs hdp hq
  subst hs
  have B := H.B
  have F := H.F
  have X := H.X
  have T := H.T
  have hk := H.hk
  have N : News h₀ L s.heap [] := News.nil
  revert X; k_fill; intro X
  refine wpAny_call ?_
  k_dflt (refine' Mine.enterP [("at", .int k t), ("tokens", .ref tl)] ?k1 ?k2 ?k3 ?k4 ?k5 ?kA ?kF ?kK ?k6 ?k7 ?k8 ?k9 ?kB ?kbody ?c2 ?c3 ?c4 ?c5; (case kA => exact rfl); (case kF => exact rfl); (case kK => assumption); (case k1 => assumption); (case k2 => assumption); (case k3 => assumption); (case k4 => assumption); (case k5 => assumption); (case k6 => k_is); (case k7 => k_is); (case k8 => (show @LT.lt Nat _ _ 1000; (try dsimp only [ktrTop]); omega)); (case k9 => exact BindsTo.of_eq rfl); (case c5 => decide); (case kB => exact locs rfl); (case c2 => exact rfl); (case c3 => exact rfl); (case c4 => exact rfl); k_whole)
  intro g L' h₁ tk0 hg hL F' N' B' X' T'
  simp only [Mine.bindM] at F'
  clear B F X T N H
  (try dsimp only)
  refine gen1 ?_
  intro Qq hQq
  refine letAE ?_
  intro Aq Eq
  obtain ⟨vs, hl, hvn, htk⟩ := TK.keeps (h' := g) fun b o e => hg b o e (fun q => nomatch q)
  k_steps
  · have hlt : k.toNat < toks.length := by omega
    obtain ⟨v, hv, a', kt, val, th, rfl, ht, hval⟩ := htk k.toNat toks[k.toNat] (by simp [hlt])
    refine item_listL (F'.lst hl) h0 (by omega) hv ?_
    k_steps
    subst hQq
    refine hq _ _ _ (kept_nil hg F') ⟨kt, ?_⟩
    simp [kindS, hlt]
  · subst hQq
    refine hq _ _ _ (kept_nil hg F') ?_
    rw [kindS, List.getElem?_eq_none (by omega)]
    exact ⟨_, rfl⟩

theorem is_op_spec {x : Str} {tx : Tok} (TK : ToksAt h tl toks) (hn : toks.length ≤ 1000) (h0 : 0 ≤ k) :
    Pure w pg loose mean mg mb 1 (.ref 121) [.ref tl, .int k t, .str x tx] h (fun _ v => v = .bool (isOp toks k.toNat x)) := by
  intro dp un gd cn cs L a ccd cl outer A₀ base h₀ m s Q E H hs hdp hq
  subst hs
  have B := H.B
  have F := H.F
  have X := H.X
  have T := H.T
  have hk := H.hk
  have N : News h₀ L s.heap [] := News.nil
  revert X; k_fill; intro X
  refine wpAny_call ?_
  k_dflt (refine' Mine.enterP [("text", .str x tx), ("at", .int k t), ("tokens", .ref tl)] ?k1 ?k2 ?k3 ?k4 ?k5 ?kA ?kF ?kK ?k6 ?k7 ?k8 ?k9 ?kB ?kbody ?c2 ?c3 ?c4 ?c5; (case kA => exact rfl); (case kF => exact rfl); (case kK => assumption); (case k1 => assumption); (case k2 => assumption); (case k3 => assumption); (case k4 => assumption); (case k5 => assumption); (case k6 => k_is); (case k7 => k_is); (case k8 => (show @LT.lt Nat _ _ 1000; (try dsimp only [ktrTop]); omega)); (case k9 => exact BindsTo.of_eq rfl); (case c5 => decide); (case kB => exact locs rfl); (case c2 => exact rfl); (case c3 => exact rfl); (case c4 => exact rfl); k_whole)
  intro g L' h₁ tk0 hg hL F' N' B' X' T'
  simp only [Mine.bindM] at F'
  clear B F X T N H
  (try dsimp only)
  refine gen1 ?_
  intro Qq hQq
  refine letAE ?_
  intro Aq Eq
  obtain ⟨vs, hl, hvn, htk⟩ := TK.keeps (h' := g) fun b o e => hg b o e (fun q => nomatch q)
  by_cases hlt : k.toNat < toks.length
  · obtain ⟨v, hv, a', kt, val, th, rfl, ht, hval⟩ := htk k.toNat toks[k.toNat] (by simp [hlt])
    have e : toks[k.toNat]? = some toks[k.toNat] := by simp [hlt]
    generalize toks[k.toNat] = tk at ht hval e
    cases tk <;> simp only [Tk.kind, Tk.Val] at ht hval <;> (try obtain ⟨t9, hval⟩ := hval) <;> (try subst hval)
    all_goals k_steps
    all_goals (subst hQq; refine hq _ _ _ (kept_nil hg F') ?_; simp [isOp, e] <;> decide)
  · k_steps
    subst hQq
    refine hq _ _ _ (kept_nil hg F') ?_
    have e : toks[k.toNat]? = none := List.getElem?_eq_none (by omega)
    simp only [isOp, e]
    congr 1
    exact decide_eq_false (by omega)
end
end Mine
end
section
open PySem PySem.W PyProof.Rows PySem.Calls PySem.Spec
set_option Elab.async false
set_option maxRecDepth 100000
set_option maxHeartbeats 4000000
local macro_rules | `(tactic| walk_at "call builtin:len") => `(tactic| (k_here; (with_reducible show wpAny _ _ (call (Value.builtin "len") [Value.ref _]) _ _ _); (refine' len_list ?k1 ?k2 ?_; (case k1 => is_list); (case k2 => (simp only [List.size_toArray]; omega))); (try simp only [List.size_toArray])))
local macro_rules | `(tactic| walk_at "subscriptTail") => `(tactic| (k_here; (with_reducible show wpAny _ _ (subscriptTail _ _ (Value.ref _) (Value.int _ _)) _ _ _); (refine' item_listL ?k1 ?k2 ?k3 ?k4 ?_; (case k1 => is_list); (case k4 => with_reducible assumption); (case k2 => omega); (case k3 => omega))))
local macro_rules | `(tactic| walk_at "exec Raise some none") => `(tactic| (k_here; (with_reducible show wpAny _ _ (exec (Stmt.Raise (some (Expr.Call (Expr.Name (Str.ofString "SyntaxFault") _) _ _ _)) none _) _) _ _ _); k_dflt (refine Mine.raise_stmt (Mine.fault44 _) rfl ?_)))
local macro_rules | `(tactic| walk_at "exec Raise some none") => `(tactic| (k_here; (with_reducible show wpAny _ _ (exec (Stmt.Raise (some (Expr.Call (Expr.Name (Str.ofString "CheckFault") _) _ _ _)) none _) _) _ _ _); k_dflt (refine Mine.raise_stmt (Mine.fault56 _) rfl ?_)))
local macro_rules | `(tactic| walk_at "subscriptTail") => `(tactic| (k_here; (with_reducible show wpAny _ _ (subscriptTail _ _ (Value.ref _) (Value.int _ _)) _ _ _); k_dflt (refine' item_tupleT ?t ?a ?b ?c ?d ?_; (case t => first | assumption | exact Fr.tup (by assumption) (by assumption)); (case a => decide); (case b => decide); (case c => rfl); (case d => rfl); k_whole)))

namespace Mine
section
variable {w : World} {pg : Program} {loose : List Str} {mean : ExcName → Option Value} {mg mb : Str → Option Value} {tl : Addr} {toks : List Tk} {k : Int} {t : Tok} {h : Heap}
def nameOf (toks : List Tk) (i : Nat) : Option Str := match toks[i]? with | some (.name x) => some x | _ => none
def intOf (toks : List Tk) (i : Nat) : Option Int := match toks[i]? with | some (.int x) => some x | _ => none
/-- a pair, made -/
def PairAt (h₀ h : Heap) (v : Value) (a b : Value) : Prop := ∃ r, v = .ref r ∧ IsTup h r [a, b].toArray ∧ h₀.get? r = none
theorem pair_made {h g h' : Heap} {L r : Addr} {news : List (Addr × Obj)} {a b : Value} {o : Obj} (hG : ∀ b o, h.get? b = some o → g.get? b = some o) (N : News g L h' ((r, o) :: news)) (ht : IsTup h' r [a, b].toArray) : PairAt h h' (.ref r) a b :=
  ⟨r, rfl, ht, by
    cases q : h.get? r with
    | none => rfl
    | some o => have := (N _ (List.Mem.head _)).2.2; rw [hG _ _ q] at this; cases this⟩

theorem need_name_spec (TK : ToksAt h tl toks) (hn : toks.length ≤ 1000) (h0 : 0 ≤ k) (h1 : k ≤ 1000) :
    PureX w pg loose mean mg mb 6 (.ref 135) [.ref tl, .int k t] h (fun h' v => ∃ x tx tk, nameOf toks k.toNat = some x ∧ PairAt h h' v (.str x tx) (.int (k + 1) tk)) (fun x => nameOf toks k.toNat = none ∧ x = "a name is missing") := by
  intro dp un gd cn cs L a ccd cl outer A₀ base h₀ m s Q E H hs hdp hq hx
  subst hs
  have B := H.B
  have F := H.F
  have X := H.X
  have T := H.T
  have hk := H.hk
  have N : News h₀ L s.heap [] := News.nil
  revert X; k_fill; intro X
  refine wpAny_call ?_
  k_dflt (refine' Mine.enterP [("at", .int k t), ("tokens", .ref tl)] ?k1 ?k2 ?k3 ?k4 ?k5 ?kA ?kF ?kK ?k6 ?k7 ?k8 ?k9 ?kB ?kbody ?c2 ?c3 ?c4 ?c5; (case kA => exact rfl); (case kF => exact rfl); (case kK => assumption); (case k1 => assumption); (case k2 => assumption); (case k3 => assumption); (case k4 => assumption); (case k5 => assumption); (case k6 => k_is); (case k7 => k_is); (case k8 => (show @LT.lt Nat _ _ 1000; (try dsimp only [ktrTop]); omega)); (case k9 => exact BindsTo.of_eq rfl); (case c5 => decide); (case kB => exact locs rfl); (case c2 => exact rfl); (case c3 => exact rfl); (case c4 => exact rfl); k_whole)
  intro g L' h₁ tk0 hg hL F' N' B' X' T'
  simp only [Mine.bindM] at F'
  have hG : ∀ b o, s.heap.get? b = some o → g.get? b = some o := fun b o e => hg b o e (fun q => nomatch q)
  clear B F X T N
  (try dsimp only)
  refine gen1 ?_
  intro Qq hQq
  refine letAE ?_
  intro Aq Eq

  have TK1 := TK.keeps (h' := h₁) fun b o e => F'.keep b o (hG b o e)
  k_steps
  refine kind_at_spec TK1 hn h0 ⟨B', F', H.XB, H.TB, rfl⟩ rfl (by show _ + 1 < 900; dsimp only [ktrTop]; omega) fun h2 tk2 v k2 hv => ?_
  obtain ⟨t', rfl⟩ := hv
  have F2 := F'.keeps k2.all
  have N2 : News g L' h2 [] := News.nil
  have TK2 := TK1.keeps k2.all
  clear F' N'
  obtain ⟨vs, hl, hvn, htk⟩ := TK.keeps (h' := g) hG
  by_cases hlt : k.toNat < toks.length
  · obtain ⟨v, hv, a', kt, val, th, rfl, ht, hval⟩ := htk k.toNat toks[k.toNat] (by simp [hlt])
    have e : toks[k.toNat]? = some toks[k.toNat] := by simp [hlt]
    have ek : kindS toks k.toNat = toks[k.toNat].kind := by rw [kindS, e]
    rw [ek]
    generalize toks[k.toNat] = tk at ht hval e
    clear ek
    cases tk <;> simp only [Tk.kind, Tk.Val] at ht hval ⊢ <;> (try obtain ⟨t9, hval⟩ := hval) <;> (try subst hval)
    all_goals k_steps
    all_goals first
      | (refine fault_made B' F2 X' T' rfl (by dsimp only [ktrTop]; omega) (fault44 w) fun h3 tk3 e' d t1 u up hen hdn he hd => ?_
         refine ⟨e', d, t1, rfl, (X'.keeps F2.keep).keeps up, he, ?_⟩
         exact raise_end B' F2 rfl rfl hG hL up hen hdn he hd fun h4 hf => hx _ _ _ _ ⟨by simp only [nameOf, e], rfl⟩ hf)
      | (subst hQq; refine hq _ _ _ (kept_nil hg (by assumption)) ⟨_, t9, _, by (simp only [nameOf, e]; rfl), pair_made hG (by assumption) (News.isTup (by assumption) (List.Mem.head _))⟩)
  · have e : toks[k.toNat]? = none := List.getElem?_eq_none (by omega)
    have ek : kindS toks k.toNat = "" := by rw [kindS, e]
    rw [ek]
    k_steps
    refine fault_made B' F2 X' T' rfl (by dsimp only [ktrTop]; omega) (fault44 w) fun h3 tk3 e' d t1 u up hen hdn he hd => ?_
    refine ⟨e', d, t1, rfl, (X'.keeps F2.keep).keeps up, he, ?_⟩
    exact raise_end B' F2 rfl rfl hG hL up hen hdn he hd fun h4 hf => hx _ _ _ _ ⟨by simp only [nameOf, e], rfl⟩ hf

theorem need_int_spec (TK : ToksAt h tl toks) (hn : toks.length ≤ 1000) (h0 : 0 ≤ k) (h1 : k ≤ 1000) :
    PureX w pg loose mean mg mb 6 (.ref 142) [.ref tl, .int k t] h (fun h' v => ∃ x tx tk, intOf toks k.toNat = some x ∧ PairAt h h' v (.int x tx) (.int (k + 1) tk)) (fun x => intOf toks k.toNat = none ∧ x = "a whole number is missing") := by
  intro dp un gd cn cs L a ccd cl outer A₀ base h₀ m s Q E H hs hdp hq hx
  subst hs
  have B := H.B
  have F := H.F
  have X := H.X
  have T := H.T
  have hk := H.hk
  have N : News h₀ L s.heap [] := News.nil
  revert X; k_fill; intro X
  refine wpAny_call ?_
  k_dflt (refine' Mine.enterP [("at", .int k t), ("tokens", .ref tl)] ?k1 ?k2 ?k3 ?k4 ?k5 ?kA ?kF ?kK ?k6 ?k7 ?k8 ?k9 ?kB ?kbody ?c2 ?c3 ?c4 ?c5; (case kA => exact rfl); (case kF => exact rfl); (case kK => assumption); (case k1 => assumption); (case k2 => assumption); (case k3 => assumption); (case k4 => assumption); (case k5 => assumption); (case k6 => k_is); (case k7 => k_is); (case k8 => (show @LT.lt Nat _ _ 1000; (try dsimp only [ktrTop]); omega)); (case k9 => exact BindsTo.of_eq rfl); (case c5 => decide); (case kB => exact locs rfl); (case c2 => exact rfl); (case c3 => exact rfl); (case c4 => exact rfl); k_whole)
  intro g L' h₁ tk0 hg hL F' N' B' X' T'
  simp only [Mine.bindM] at F'
  have hG : ∀ b o, s.heap.get? b = some o → g.get? b = some o := fun b o e => hg b o e (fun q => nomatch q)
  clear B F X T N
  (try dsimp only)
  refine gen1 ?_
  intro Qq hQq
  refine letAE ?_
  intro Aq Eq

  have TK1 := TK.keeps (h' := h₁) fun b o e => F'.keep b o (hG b o e)
  k_steps
  refine kind_at_spec TK1 hn h0 ⟨B', F', H.XB, H.TB, rfl⟩ rfl (by show _ + 1 < 900; dsimp only [ktrTop]; omega) fun h2 tk2 v k2 hv => ?_
  obtain ⟨t', rfl⟩ := hv
  have F2 := F'.keeps k2.all
  have N2 : News g L' h2 [] := News.nil
  have TK2 := TK1.keeps k2.all
  clear F' N'
  obtain ⟨vs, hl, hvn, htk⟩ := TK.keeps (h' := g) hG
  by_cases hlt : k.toNat < toks.length
  · obtain ⟨v, hv, a', kt, val, th, rfl, ht, hval⟩ := htk k.toNat toks[k.toNat] (by simp [hlt])
    have e : toks[k.toNat]? = some toks[k.toNat] := by simp [hlt]
    have ek : kindS toks k.toNat = toks[k.toNat].kind := by rw [kindS, e]
    rw [ek]
    generalize toks[k.toNat] = tk at ht hval e
    clear ek
    cases tk <;> simp only [Tk.kind, Tk.Val] at ht hval ⊢ <;> (try obtain ⟨t9, hval⟩ := hval) <;> (try subst hval)
    all_goals k_steps
    all_goals first
      | (refine fault_made B' F2 X' T' rfl (by dsimp only [ktrTop]; omega) (fault44 w) fun h3 tk3 e' d t1 u up hen hdn he hd => ?_
         refine ⟨e', d, t1, rfl, (X'.keeps F2.keep).keeps up, he, ?_⟩
         exact raise_end B' F2 rfl rfl hG hL up hen hdn he hd fun h4 hf => hx _ _ _ _ ⟨by simp only [intOf, e], rfl⟩ hf)
      | (subst hQq; refine hq _ _ _ (kept_nil hg (by assumption)) ⟨_, t9, _, by (simp only [intOf, e]; rfl), pair_made hG (by assumption) (News.isTup (by assumption) (List.Mem.head _))⟩)
  · have e : toks[k.toNat]? = none := List.getElem?_eq_none (by omega)
    have ek : kindS toks k.toNat = "" := by rw [kindS, e]
    rw [ek]
    k_steps
    refine fault_made B' F2 X' T' rfl (by dsimp only [ktrTop]; omega) (fault44 w) fun h3 tk3 e' d t1 u up hen hdn he hd => ?_
    refine ⟨e', d, t1, rfl, (X'.keeps F2.keep).keeps up, he, ?_⟩
    exact raise_end B' F2 rfl rfl hG hL up hen hdn he hd fun h4 hf => hx _ _ _ _ ⟨by simp only [intOf, e], rfl⟩ hf

theorem need_op_spec {x : Str} {tx : Tok} (TK : ToksAt h tl toks) (hn : toks.length ≤ 1000) (h0 : 0 ≤ k) (h1 : k ≤ 1000) (hx : x.length ≤ 10) :
    PureX w pg loose mean mg mb 6 (.ref 128) [.ref tl, .int k t, .str x tx] h (fun h' v => isOp toks k.toNat x = true ∧ ∃ tk, v = .int (k + 1) tk) (fun y => isOp toks k.toNat x = false ∧ y = "a mark is missing: " ++ x) := by
  intro dp un gd cn cs L a ccd cl outer A₀ base h₀ m s Q E H hs hdp hq hX
  subst hs
  have B := H.B
  have F := H.F
  have X := H.X
  have T := H.T
  have hk := H.hk
  have N : News h₀ L s.heap [] := News.nil
  revert X; k_fill; intro X
  refine wpAny_call ?_
  k_dflt (refine' Mine.enterP [("text", .str x tx), ("at", .int k t), ("tokens", .ref tl)] ?k1 ?k2 ?k3 ?k4 ?k5 ?kA ?kF ?kK ?k6 ?k7 ?k8 ?k9 ?kB ?kbody ?c2 ?c3 ?c4 ?c5; (case kA => exact rfl); (case kF => exact rfl); (case kK => assumption); (case k1 => assumption); (case k2 => assumption); (case k3 => assumption); (case k4 => assumption); (case k5 => assumption); (case k6 => k_is); (case k7 => k_is); (case k8 => (show @LT.lt Nat _ _ 1000; (try dsimp only [ktrTop]); omega)); (case k9 => exact BindsTo.of_eq rfl); (case c5 => decide); (case kB => exact locs rfl); (case c2 => exact rfl); (case c3 => exact rfl); (case c4 => exact rfl); k_whole)
  intro g L' h₁ tk0 hg hL F' N' B' X' T'
  simp only [Mine.bindM] at F'
  have hG : ∀ b o, s.heap.get? b = some o → g.get? b = some o := fun b o e => hg b o e (fun q => nomatch q)
  clear B F X T N
  (try dsimp only)
  refine gen1 ?_
  intro Qq hQq
  refine letAE ?_
  intro Aq Eq

  have TK1 := TK.keeps (h' := h₁) fun b o e => F'.keep b o (hG b o e)
  k_steps
  refine is_op_spec TK1 hn h0 ⟨B', F', H.XB, H.TB, rfl⟩ rfl (by show _ + 1 < 900; dsimp only [ktrTop]; omega) fun h2 tk2 v k2 hv => ?_
  subst hv
  have F2 := F'.keeps k2.all
  have N2 : News g L' h2 [] := News.nil
  clear F' N'
  cases hb : isOp toks k.toNat x
  · k_steps
    refine fault_made B' F2 X' T' rfl (by dsimp only [ktrTop]; omega) (fault44 w) fun h3 tk3 e' d t1 u up hen hdn he hd => ?_
    refine ⟨e', d, t1, rfl, (X'.keeps (Fr.keep F2)).keeps up, he, ?_⟩
    exact raise_end B' F2 rfl rfl hG hL up hen hdn he hd fun h4 hf => hX _ _ _ _ ⟨hb, rfl⟩ hf
  · k_steps
    subst hQq
    refine hq _ _ _ (kept_nil hg (by assumption)) ⟨hb, _, rfl⟩
theorem need_end_spec (TK : ToksAt h tl toks) (hn : toks.length ≤ 1000) (h0 : 0 ≤ k) (h1 : k ≤ 1000) :
    PureX w pg loose mean mg mb 6 (.ref 149) [.ref tl, .int k t] h (fun h' v => ¬ k.toNat < toks.length ∧ v = .none) (fun y => k.toNat < toks.length ∧ y = "more than a statement") := by
  intro dp un gd cn cs L a ccd cl outer A₀ base h₀ m s Q E H hs hdp hq hx
  subst hs
  have B := H.B
  have F := H.F
  have X := H.X
  have T := H.T
  have hk := H.hk
  have N : News h₀ L s.heap [] := News.nil
  revert X; k_fill; intro X
  refine wpAny_call ?_
  k_dflt (refine' Mine.enterP [("at", .int k t), ("tokens", .ref tl)] ?k1 ?k2 ?k3 ?k4 ?k5 ?kA ?kF ?kK ?k6 ?k7 ?k8 ?k9 ?kB ?kbody ?c2 ?c3 ?c4 ?c5; (case kA => exact rfl); (case kF => exact rfl); (case kK => assumption); (case k1 => assumption); (case k2 => assumption); (case k3 => assumption); (case k4 => assumption); (case k5 => assumption); (case k6 => k_is); (case k7 => k_is); (case k8 => (show @LT.lt Nat _ _ 1000; (try dsimp only [ktrTop]); omega)); (case k9 => exact BindsTo.of_eq rfl); (case c5 => decide); (case kB => exact locs rfl); (case c2 => exact rfl); (case c3 => exact rfl); (case c4 => exact rfl); k_whole)
  intro g L' h₁ tk0 hg hL F' N' B' X' T'
  simp only [Mine.bindM] at F'
  have hG : ∀ b o, s.heap.get? b = some o → g.get? b = some o := fun b o e => hg b o e (fun q => nomatch q)
  clear B F X T N
  (try dsimp only)
  refine gen1 ?_
  intro Qq hQq
  refine letAE ?_
  intro Aq Eq

  obtain ⟨vs, hl, hvn, htk⟩ := TK.keeps (h' := g) hG
  by_cases hlt : k.toNat < toks.length
  · k_steps
    refine fault_made B' F' X' T' rfl (by dsimp only [ktrTop]; omega) (fault44 w) fun h3 tk3 e' d t1 u up hen hdn he hd => ?_
    refine ⟨e', d, t1, rfl, (X'.keeps (Fr.keep F')).keeps up, he, ?_⟩
    exact raise_end B' F' rfl rfl hG hL up hen hdn he hd fun h4 hf => hx _ _ _ _ ⟨hlt, rfl⟩ hf
  · k_steps
    subst hQq
    exact hq _ _ _ (kept_nil hg (by assumption)) ⟨hlt, rfl⟩
end
end Mine
end
section
open PySem PySem.W PyProof.Rows PySem.Calls PySem.Spec
set_option Elab.async false
set_option maxRecDepth 100000
set_option maxHeartbeats 2000000
namespace Mine
theorem Fr.as {h₀ h : Heap} {L : Addr} {m m' : Str → Option Value} (F : Fr h₀ L h m) (e : ∀ y, m y = m' y) : Fr h₀ L h m' := (funext e : m = m') ▸ F

theorem flat_int {v : Value} {n : Int} (h : PyProof.V.Flat v (.int n)) : ∃ t, v = .int n t := by
  have := h default
  cases this
  exact ⟨_, rfl⟩
/-- a word that the walk leaves as it lies -/
def Hold (P : Prop) : Prop := P

/-- the end of a turn: the next turn's word holds and the iterator stands as it stood -/
def TurnEnd (J : Heap → Prop) (fp : List Addr) (h : Heap) (s₂ s₃ : Shared) : Prop :=
  ∃ h' tk, s₃ = { s₂ with heap := h', toks := tk } ∧ J h' ∧ ∀ b ∈ fp, ∀ o, h.get? b = some o → h'.get? b = some o
def TurnPost (Q : Flow → Shared → Prop) (J : Heap → Prop) (fp : List Addr) (h : Heap) (s₂ : Shared) (f : Flow) (s₃ : Shared) : Prop :=
  match f with
  | .ret v => Q (.ret v) s₃
  | .brk => Q .next s₃
  | _ => TurnEnd J fp h s₂ s₃

def LoopRaw (prog : Program) (w : World) (A : Around) (target : Expr) (body : List Stmt) (env : Env) (Q : Flow → Shared → Prop) (E : Value → Shared → Prop) (it : Value) (s₂ : Shared) : Prop :=
  ∃ (I : Addr) (fp wr : List Addr) (n : Nat) (P : Nat → Value → Prop) (St : Nat → Heap → Prop) (J : Nat → Heap → Prop), it = .ref I ∧ Walks prog w A I fp wr n P St ∧ St 0 s₂.heap ∧ J 0 s₂.heap ∧
    (∀ i h h', J i h → St i h → (∀ b o, b ∉ wr → h.get? b = some o → h'.get? b = some o) → J i h') ∧
    (∀ i v h tk, i < n → P i v → J i h → St (i + 1) h → wpAny (model prog w) A (assign target env v) (fun _ s₃ => wpAny (model prog w) A (execs body env) (TurnPost Q (J (i + 1)) fp h s₂) E s₃) E { s₂ with heap := h, toks := tk }) ∧
    (∀ h tk, J n h → Q .next { s₂ with heap := h, toks := tk }) ∧
    (∀ i v (s' : Shared) (Q' : Unit → Shared → Prop) (E' : Value → Shared → Prop), i < n → P i v → St (i + 1) s'.heap → Q' () s' → wpAny (model prog w) A (letOwnedTupleGo target it v) Q' E' s')

section
variable {prog : Program} {w : World} {A : Around} {env : Env} {target iter : Expr} {body : List Stmt} {Q : Flow → Shared → Prop} {E : Value → Shared → Prop} {s : Shared} {pos : Pos}

theorem for_open (h : wpAny (model prog w) A (eval iter env) (fun xv s₁ => wpAny (model prog w) A (pyIter xv) (fun it s₂ => LoopRaw prog w A target body env Q E it s₂) E s₁) E s)
    (hs : ∀ x, foldedSetIterable iter env x = pure x := by intro _; rfl) (hE : PassesOwn (model prog w) A env E := by passes_own) :
    wpAny (model prog w) A (exec (.For target iter body [] pos) env) Q E s := by
  refine wpAny_For (wpAny_mono h (fun xv s₁ h₁ => wpAny_mono h₁ (fun it s₂ h₂ => ?_) fun _ _ e => e) fun _ _ e => e) hs
  obtain ⟨I, fp, wr, n, P, St, J, rfl, W, st0, j0, stable, turn, done, ht⟩ := h₂
  refine codeAny_forLoop_any (fun k s' => ∃ h tk i, s' = { s₂ with heap := h, toks := tk } ∧ St i h ∧ J i h ∧ i ≤ n ∧ k = n + 1 - i) ?_ (n + 1) ⟨s₂.heap, s₂.toks, 0, rfl, st0, j0, Nat.zero_le _, rfl⟩
  rintro k s' ⟨h, tk, i, rfl, st, j, hi, rfl⟩
  by_cases hlt : i < n
  · refine W.item i _ _ _ hlt st fun v h₁ tk₁ hP hst₁ hk₁ => ?_
    refine ht i v _ _ _ hlt hP hst₁ ?_
    refine wpAny_mono (turn i v h₁ tk₁ hlt hP (stable i h h₁ j st hk₁) hst₁) (fun _ s₃ h₃ => wpAny_mono h₃ (fun f s₄ h₄ => ?_) hE) hE
    have fin : TurnEnd (J (i + 1)) fp h₁ s₂ s₄ → ∃ m, m < n + 1 - i ∧ ∃ h tk j, s₄ = { s₂ with heap := h, toks := tk } ∧ St j h ∧ J j h ∧ j ≤ n ∧ m = n + 1 - j := by
      rintro ⟨h', tk', rfl, j', kf⟩
      exact ⟨n + 1 - (i + 1), by omega, h', tk', i + 1, rfl, W.frame _ _ _ hst₁ kf, j', hlt, rfl⟩
    cases f with
    | ret v => exact h₄
    | brk => exact h₄
    | next => exact fin h₄
    | cont => exact fin h₄
  · have hin : i = n := by omega
    subst hin
    exact W.done _ _ _ st fun h₁ tk₁ hk₁ => wpAny_execs_nil (done h₁ tk₁ (stable i h h₁ j st hk₁))

theorem loop_range {r : Addr} {a₀ b₀ : Int} {t u v : Tok} {n : Nat} (J : Nat → Heap → Prop) (hr : IsRange s.heap r a₀ b₀ 1 t u v) (hh : A.handled = none)
    (hsmall : Builtin.Range.small a₀ b₀ 1 = true) (hn : Builtin.Range.rangeSize a₀ b₀ 1 = (n : Int)) (j0 : J 0 s.heap)
    (stable : ∀ i h h', J i h → (∀ b o, h.get? b = some o → (b ≠ s.heap.objs.size ∨ o.cls ≠ .type "range_iterator") → h'.get? b = some o) → J i h')
    (turn : ∀ i h tk t I oI, i < n → J i h → I = s.heap.objs.size → h.get? I = some oI → oI.cls = .type "range_iterator" →
      wpAny (model prog w) A (assign target env (.int (a₀ + i) t)) (fun _ s₃ => wpAny (model prog w) A (execs body env) (TurnPost Q (J (i + 1)) [I] h s) E s₃) E { s with heap := h, toks := tk })
    (done : ∀ h tk, J n h → Q .next { s with heap := h, toks := tk })
    (ht : ∀ (it v : Value), letOwnedTupleGo target it v = pure () := by intro _ _; rfl) :
    wpAny (model prog w) A (pyIter (.ref r)) (fun it s₂ => LoopRaw prog w A target body env Q E it s₂) E s := by
  refine wpAny_pyIter_range hr hsmall ?_
  have W := Walks.range (prog := prog) (w := w) hh s.heap.objs.size a₀ 1 n
  refine ⟨_, _, _, n, _, _, J, rfl, W, ?_, stable 0 _ _ j0 fun b o e _ => Heap.get?_push_of_some _ e, fun i h h' j st k => ?_, fun i v h tk hi hP j st => ?_, fun h tk j => done h tk j, fun i v s' Q' E' _ _ _ q => wpAny_of_eq (ht _ _) q⟩
  · show IsRangeIter _ _ _ _ _
    rw [hn]; simpa using Heap.get?_push_size _ rfl
  · refine stable i h h' j fun b o e hb => ?_
    by_cases q : b = s.heap.objs.size
    · subst q
      rcases hb with hb | hb
      · exact absurd rfl hb
      · rw [show h.get? s.heap.objs.size = _ from st] at e
        cases e
        exact absurd rfl hb
    · exact k b o (fun z => q (List.mem_singleton.mp z)) e
  · obtain ⟨t, rfl⟩ := hP
    rw [Int.mul_one]
    exact turn i h tk t _ _ hi j rfl st rfl

theorem loop_list {l : Addr} {items : List Value} (J : Nat → Heap → Prop) (hl : s.heap.IsList l items.toArray) (hh : A.handled = none) (j0 : J 0 s.heap)
    (stable : ∀ i h h', J i h → (∀ b o, h.get? b = some o → (b ≠ s.heap.objs.size ∨ o.cls ≠ .type "list_iterator") → h'.get? b = some o) → J i h')
    (turn : ∀ i v h tk I oI, items[i]? = some v → J i h → I = s.heap.objs.size → h.get? I = some oI → oI.cls = .type "list_iterator" → h.IsList l items.toArray →
      wpAny (model prog w) A (assign target env v) (fun _ s₃ => wpAny (model prog w) A (execs body env) (TurnPost Q (J (i + 1)) [I, l] h s) E s₃) E { s with heap := h, toks := tk })
    (done : ∀ h tk, J items.length h → Q .next { s with heap := h, toks := tk })
    (ht : (∀ (it v : Value), letOwnedTupleGo target it v = pure ()) ∨ ∃ elts x1 pos, target = .Tuple elts x1 pos ∧ ∀ (i : Nat) v, items[i]? = some v → ∃ T, v = .ref T) :
    wpAny (model prog w) A (pyIter (.ref l)) (fun it s₂ => LoopRaw prog w A target body env Q E it s₂) E s := by
  have hne : l ≠ s.heap.objs.size := fun z => by
    obtain ⟨o, ho, _⟩ := hl
    exact absurd (Heap.lt_size ho) (by rw [z]; exact Nat.lt_irrefl _)
  refine wpAny_pyIter_list hl ?_
  have W := Walks.list (prog := prog) (w := w) hh s.heap.objs.size l hne items.toArray
  refine ⟨_, _, _, _, _, _, J, rfl, W, ⟨⟨_, Heap.get?_push_size _ rfl, rfl, rfl⟩, hl.at fun o e => Heap.get?_push_of_some _ e⟩, stable 0 _ _ j0 fun b o e _ => Heap.get?_push_of_some _ e, fun i h h' j st k => ?_, fun i v h tk hi hP j st => ?_, fun h tk j => done h tk (by simpa using j), fun i v s' Q' E' _ hP st q => ?_⟩
  · refine stable i h h' j fun b o e hb => ?_
    by_cases q : b = s.heap.objs.size
    · subst q
      obtain ⟨o', ho', hc', _⟩ := st.1
      rcases hb with hb | hb
      · exact absurd rfl hb
      · rw [ho'] at e
        cases e
        exact absurd hc' hb
    · exact k b o (fun z => q (List.mem_singleton.mp z)) e
  · obtain ⟨o', ho', hc', _⟩ := st.1
    exact turn i v h tk _ o' (by simpa using hP) j rfl ho' hc' st.2
  · rcases ht with ht | ⟨elts, x1, pos, rfl, ht⟩
    · exact wpAny_of_eq (ht _ _) q
    · obtain ⟨T, rfl⟩ := ht i v (by simpa using hP)
      exact wpAny_letOwnedTupleGo_listiter st.1 q

theorem loop_tuple {l : Addr} {items : List Value} (J : Nat → Heap → Prop) (hl : s.heap.IsTuple l items.toArray) (hh : A.handled = none) (j0 : J 0 s.heap)
    (stable : ∀ i h h', J i h → (∀ b o, h.get? b = some o → (b ≠ s.heap.objs.size ∨ o.cls ≠ .type "tuple_iterator") → h'.get? b = some o) → J i h')
    (turn : ∀ i v h tk I oI, items[i]? = some v → J i h → I = s.heap.objs.size → h.get? I = some oI → oI.cls = .type "tuple_iterator" → h.IsTuple l items.toArray →
      wpAny (model prog w) A (assign target env v) (fun _ s₃ => wpAny (model prog w) A (execs body env) (TurnPost Q (J (i + 1)) [I, l] h s) E s₃) E { s with heap := h, toks := tk })
    (done : ∀ h tk, J items.length h → Q .next { s with heap := h, toks := tk })
    (ht : ∀ (it v : Value), letOwnedTupleGo target it v = pure () := by intro _ _; rfl) :
    wpAny (model prog w) A (pyIter (.ref l)) (fun it s₂ => LoopRaw prog w A target body env Q E it s₂) E s := by
  have hne : l ≠ s.heap.objs.size := fun z => by
    obtain ⟨o, ho, _⟩ := hl
    exact absurd (Heap.lt_size ho) (by rw [z]; exact Nat.lt_irrefl _)
  refine wpAny_pyIter_tuple hl ?_
  have W := Walks.tuple (prog := prog) (w := w) hh s.heap.objs.size l hne items.toArray
  refine ⟨_, _, _, _, _, _, J, rfl, W, ⟨⟨_, Heap.get?_push_size _ rfl, rfl, rfl⟩, hl.at fun o e => Heap.get?_push_of_some _ e⟩, stable 0 _ _ j0 fun b o e _ => Heap.get?_push_of_some _ e, fun i h h' j st k => ?_, fun i v h tk hi hP j st => ?_, fun h tk j => done h tk (by simpa using j), fun i v s' Q' E' _ hP st q => wpAny_of_eq (ht _ _) q⟩
  · refine stable i h h' j fun b o e hb => ?_
    by_cases q : b = s.heap.objs.size
    · subst q
      obtain ⟨o', ho', hc', _⟩ := st.1
      rcases hb with hb | hb
      · exact absurd rfl hb
      · rw [ho'] at e
        cases e
        exact absurd hc' hb
    · exact k b o (fun z => q (List.mem_singleton.mp z)) e
  · obtain ⟨o', ho', hc', _⟩ := st.1
    exact turn i v h tk _ o' (by simpa using hP) j rfl ho' hc' st.2
end

theorem fr_stable {g h h' : Heap} {L I : Addr} {m : Str → Option Value} {P : Obj → Prop} (F : Fr g L h m) (hI : @LT.lt Nat _ L I) (kp : ∀ b o, h.get? b = some o → (b ≠ I ∨ P o) → h'.get? b = some o) : Fr g L h' m := by
  obtain ⟨⟨oL, es, ep, hL, r⟩, k, ab⟩ := F
  exact ⟨⟨oL, es, ep, kp L oL hL (.inl (Nat.ne_of_lt hI)), r⟩, fun b o e => kp b o (k b o e) (.inl (Nat.ne_of_lt (Nat.lt_trans (Nat.lt_of_lt_of_le (Heap.lt_size e) ab) hI))), ab⟩
theorem news_one {g h : Heap} {L I : Addr} {m : Str → Option Value} {o : Obj} (F : Fr g L h m) (hI : @LT.lt Nat _ L I) (e : h.get? I = some o) : News g L h [(I, o)] := fun p hp => by
  rw [List.mem_singleton.mp hp]
  exact ⟨e, Nat.ne_of_gt hI, get_none_of_le (Nat.le_trans F.above (Nat.le_of_lt hI))⟩
theorem fp_one {g h h' : Heap} {L I : Addr} {o : Obj} {news : List (Addr × Obj)} (e : h.get? I = some o) (N : News g L h' news) (hm : (I, o) ∈ news) : ∀ b ∈ [I], ∀ o, h.get? b = some o → h'.get? b = some o := fun b hb o' e' => by
  rw [List.mem_singleton.mp hb] at e' ⊢
  rw [e] at e'; cases e'
  exact N.get hm

theorem size_of {a b : Int} {n : Nat} (h : n = (b - a).toNat) : Builtin.Range.rangeSize a b 1 = (n : Int) := by
  unfold Builtin.Range.rangeSize
  rw [if_pos (by decide)]
  split <;> omega
theorem small_of {a b : Int} (h1 : 0 ≤ a) (h2 : a ≤ 10000) (h3 : -10000 ≤ b) (h4 : b ≤ 10000) : Builtin.Range.small a b 1 = true := by
  have e : Builtin.Range.rangeSize a b 1 = (if a < b then b - a else 0) := by
    unfold Builtin.Range.rangeSize
    rw [if_pos (by decide)]
    split <;> omega
  unfold Builtin.Range.small Builtin.Range.rangeFitsLong
  rw [e]
  simp only [Bool.and_eq_true, Bool.or_eq_true, decide_eq_true_eq, beq_iff_eq]
  split <;> (refine ⟨⟨⟨⟨?_, ?_⟩, ?_⟩, ?_⟩, ?_⟩) <;> first | omega | (constructor <;> omega) | (right; simp; omega) | (simp)
end Mine
end
section
open PySem PySem.W PyProof.Rows PySem.Calls PySem.Spec
set_option Elab.async false
set_option maxRecDepth 100000
set_option maxHeartbeats 4000000
local macro_rules | `(tactic| walk_at "call builtin:len") => `(tactic| (k_here; (with_reducible show wpAny _ _ (call (Value.builtin "len") [Value.ref _]) _ _ _); (refine' len_list ?k1 ?k2 ?_; (case k1 => is_list); (case k2 => (simp only [List.size_toArray]; omega))); (try simp only [List.size_toArray])))
local macro_rules | `(tactic| walk_at "subscriptTail") => `(tactic| (k_here; (with_reducible show wpAny _ _ (subscriptTail _ _ (Value.ref _) (Value.int _ _)) _ _ _); (refine' item_listL ?k1 ?k2 ?k3 ?k4 ?_; (case k1 => is_list); (case k4 => with_reducible assumption); (case k2 => omega); (case k3 => omega))))
local macro_rules | `(tactic| walk_at "exec Raise some none") => `(tactic| (k_here; (with_reducible show wpAny _ _ (exec (Stmt.Raise (some (Expr.Call (Expr.Name (Str.ofString "SyntaxFault") _) _ _ _)) none _) _) _ _ _); k_dflt (refine Mine.raise_stmt (Mine.fault44 _) rfl ?_)))
local macro_rules | `(tactic| walk_at "exec Raise some none") => `(tactic| (k_here; (with_reducible show wpAny _ _ (exec (Stmt.Raise (some (Expr.Call (Expr.Name (Str.ofString "CheckFault") _) _ _ _)) none _) _) _ _ _); k_dflt (refine Mine.raise_stmt (Mine.fault56 _) rfl ?_)))
local macro_rules | `(tactic| walk_at "eval Name") => `(tactic| (k_here; k_dflt (refine' ld ?k1 ?k2 ?_; (case k1 => k_asm); (case k2 => first | exact rfl | assumption); k_whole)))
local macro_rules | `(tactic| walk_at "loadName") => `(tactic| (k_here; k_dflt (refine' ldn ?k1 ?k2 ?_; (case k1 => k_asm); (case k2 => first | exact rfl | assumption); k_whole)))
local macro_rules | `(tactic| walk_at "exec For Name Call cons nil") => `(tactic| (k_here; k_dflt (refine' Mine.for_open ?_)))
local macro_rules | `(tactic| walk_at "exec For Name Name cons nil") => `(tactic| (k_here; k_dflt (refine' Mine.for_open ?_)))
local macro_rules | `(tactic| walk_at "exec For Tuple Name cons nil") => `(tactic| (k_here; k_dflt (refine' Mine.for_open ?_)))

namespace Mine
section
variable {w : World} {pg : Program} {loose : List Str} {mean : ExcName → Option Value} {mg mb : Str → Option Value} {tl : Addr} {toks : List Tk} {k : Int} {t : Tok} {h : Heap}

/-- where the bracket closes that opens at the place where the count begins -/
def closeGo : List Tk → Nat → Int → Option Nat
  | [], _, _ => none
  | .op m :: r, p, d => if m = "(" then closeGo r (p + 1) (d + 1) else if m = ")" then (if d - 1 = 0 then some p else closeGo r (p + 1) (d - 1)) else closeGo r (p + 1) d
  | _ :: r, p, d => closeGo r (p + 1) d
theorem closeGo_open {p : Nat} {d : Int} (e : isOp toks p "(" = true) : closeGo (toks.drop p) p d = closeGo (toks.drop (p + 1)) (p + 1) (d + 1) := by
  unfold isOp at e
  split at e
  · rename_i m hm
    obtain ⟨hp, hm⟩ := List.getElem?_eq_some_iff.mp hm
    rw [List.drop_eq_getElem_cons hp, hm, closeGo, if_pos (by simpa using e)]
  · cases e
theorem closeGo_close {p : Nat} {d : Int} (e₀ : isOp toks p "(" = false) (e : isOp toks p ")" = true) : closeGo (toks.drop p) p d = if d - 1 = 0 then some p else closeGo (toks.drop (p + 1)) (p + 1) (d - 1) := by
  unfold isOp at e e₀
  split at e
  · rename_i m hm
    rw [hm] at e₀
    obtain ⟨hp, hm⟩ := List.getElem?_eq_some_iff.mp hm
    rw [List.drop_eq_getElem_cons hp, hm, closeGo, if_neg (by simpa using e₀), if_pos (by simpa using e)]
  · cases e
theorem closeGo_skip {p : Nat} {d : Int} (hp : p < toks.length) (e₀ : isOp toks p "(" = false) (e : isOp toks p ")" = false) : closeGo (toks.drop p) p d = closeGo (toks.drop (p + 1)) (p + 1) d := by
  rw [List.drop_eq_getElem_cons hp]
  unfold isOp at e e₀
  have hm : toks[p]? = some toks[p] := by simp [hp]
  rw [hm] at e e₀
  cases q : toks[p] with
  | op m =>
    rw [q] at e e₀
    rw [closeGo, if_neg (by simpa using e₀), if_neg (by simpa using e)]
  | _ => rw [closeGo]; intro m z; cases z
def closeAt (toks : List Tk) (i : Nat) : Option Nat := closeGo (toks.drop i) i 0

theorem cl_sz {n m : Nat} {k : Int} (h0 : 0 ≤ k) (h : m = n) : Builtin.Range.rangeSize k (m : Int) 1 = ((n - k.toNat : Nat) : Int) := size_of (by omega)
theorem cl_sm {n m : Nat} {k : Int} (h0 : 0 ≤ k) (h1 : k ≤ 1000) (h : m = n) (hn : n ≤ 1000) : Builtin.Range.small k (m : Int) 1 = true := small_of h0 (by omega) (by omega) (by omega)
theorem cl_at {n i : Nat} {k : Int} (h0 : 0 ≤ k) (hn : n ≤ 1000) (hi : i < n - k.toNat) : (k + (i : Int)).toNat = k.toNat + i ∧ k.toNat + i < n ∧ ((k.toNat + i : Nat) : Int) = k + i ∧ 0 ≤ k + (i : Int) ∧ k + (i : Int) < 1000 := by omega
theorem cl_st {i : Nat} {d e : Int} (h2 : -(i : Int) ≤ d) (h3 : d ≤ i) (h : e = 1 ∨ e = -1 ∨ e = 0) : -((i + 1 : Nat) : Int) ≤ d + e ∧ d + e ≤ ((i + 1 : Nat) : Int) := by omega
theorem cl_len {n m : Nat} : n ≤ m + (n - m) := by omega
inductive CJ (g : Heap) (L' tl : Addr) (toks : List Tk) (k : Int) (t : Tok) (dn : Str) (i : Nat) (h : Heap) : Prop
  | mk (m : Str → Option Value) (d : Int) (td : Tok) (e1 : closeGo (toks.drop (k.toNat + i)) (k.toNat + i) d = closeAt toks k.toNat) (e2 : -(i : Int) ≤ d) (e3 : d ≤ i) (F : Fr g L' h m) (hmd : m dn = some (.int d td)) (hma : m "at" = some (.int k t)) (hmt : m "tokens" = some (.ref tl)) : CJ g L' tl toks k t dn i h
theorem close_at_spec (TK : ToksAt h tl toks) (hn : toks.length ≤ 1000) (h0 : 0 ≤ k) (h1 : k ≤ 1000) :
    PureX w pg loose mean mg mb 6 (.ref 156) [.ref tl, .int k t] h (fun h' v => ∃ i tk, closeAt toks k.toNat = some i ∧ v = .int i tk) (fun y => closeAt toks k.toNat = none ∧ y = "a bracket is not closed") := by
  intro dp un gd cn cs L a ccd cl outer A₀ base h₀ m s Q E H hs hdp hq hx
  subst hs
  have B := H.B
  have F := H.F
  have X := H.X
  have T := H.T
  have hk := H.hk
  have N : News h₀ L s.heap [] := News.nil
  revert X; k_fill; intro X
  refine wpAny_call ?_
  k_dflt (refine' Mine.enterP [("at", .int k t), ("tokens", .ref tl)] ?k1 ?k2 ?k3 ?k4 ?k5 ?kA ?kF ?kK ?k6 ?k7 ?k8 ?k9 ?kB ?kbody ?c2 ?c3 ?c4 ?c5; (case kA => exact rfl); (case kF => exact rfl); (case kK => assumption); (case k1 => assumption); (case k2 => assumption); (case k3 => assumption); (case k4 => assumption); (case k5 => assumption); (case k6 => k_is); (case k7 => k_is); (case k8 => (show @LT.lt Nat _ _ 1000; (try dsimp only [ktrTop]); omega)); (case k9 => exact BindsTo.of_eq rfl); (case c5 => decide); (case kB => exact locs rfl); (case c2 => exact rfl); (case c3 => exact rfl); (case c4 => exact rfl); k_whole)
  intro g L' h₁ tk0 hg hL F' N' B' X' T'
  simp only [Mine.bindM] at F'
  have hG : ∀ b o, s.heap.get? b = some o → g.get? b = some o := fun b o e => hg b o e (fun q => nomatch q)
  clear B F X T N
  (try dsimp only)
  refine gen1 ?_
  intro Qq hQq
  refine letAE ?_
  intro Aq Eq
  obtain ⟨vs, hl, hvn, htk⟩ := TK.keeps (h' := g) hG
  k_steps
  rename Fr _ _ _ _ => F1
  rename IsRange _ _ _ _ _ _ _ _ => hR
  have hI := F1.ns.lt
  refine loop_range (n := toks.length - k.toNat) (CJ g L' tl toks k t "depth") hR rfl (cl_sm h0 h1 hvn hn) (cl_sz h0 hvn) ?j0 ?stable ?turn ?done
  case j0 => exact ⟨_, 0, _, rfl, by decide, by decide, F1, rfl, rfl, rfl⟩
  case stable => rintro i h h' ⟨m, d, td, e1, e2, e3, F, hmd, hma, hmt⟩ kp; exact ⟨m, d, td, e1, e2, e3, fr_stable F hI kp, hmd, hma, hmt⟩
  case turn =>
    intro i h tk t9 I oI hi HJ hIe hIo hIc
    refine genT ?_
    intro Ra hRa
    refine byG fun GG kG => ?_
    obtain ⟨m, d, td, e1, e2, e3, F, hmd, hma, hmt⟩ := HJ
    obtain ⟨ep, hlt, ec, hk0, hk9⟩ := cl_at h0 hn hi
    refine kG ?_
    clear kG
    have hs1 := cl_st e2 e3 (.inl rfl)
    have hs2 := cl_st e2 e3 (.inr (.inl rfl))
    have hs3 := cl_st e2 e3 (.inr (.inr rfl))
    replace hs1 : Hold _ := hs1
    replace hs2 : Hold _ := hs2
    replace hs3 : Hold _ := hs3
    replace hi : Hold _ := hi
    replace ec : Hold _ := ec
    replace ep : Hold _ := ep
    clear hR
    rw [show _ = I from hIe.symm] at hI
    dsimp only at hIc ⊢
    have N := news_one F hI hIo
    clear F1
    have TKh := TK.keeps (h' := h) fun b o e => F.keep b o (hG b o e)
    k_steps
    rename Fr _ _ _ _ => F2
    rename News _ _ _ _ => N2
    refine is_op_spec (TK.keeps fun b o e => F2.keep b o (hG b o e)) hn hk0 ⟨B', F2, H.XB, H.TB, rfl⟩ rfl (by show _ + 1 < 900; dsimp only [ktrTop]; omega) fun h2 tk2 v k2 hv => ?_
    subst hv
    have F3 := F2.keeps k2.all
    have N3 := news_kept N2 k2 (fun _ _ q => nomatch q)
    clear F2 N2
    rw [show _ = _ from ep]
    cases hb : isOp toks (k.toNat + i) "("
    · k_steps
      refine is_op_spec (TK.keeps fun b o e => F3.keep b o (hG b o e)) hn hk0 ⟨B', F3, H.XB, H.TB, rfl⟩ rfl (by show _ + 1 < 900; dsimp only [ktrTop]; omega) fun h4 tk4 v k4 hv => ?_
      subst hv
      have F5 := F3.keeps k4.all
      have N5 := news_kept N3 k4 (fun _ _ q => nomatch q)
      clear F3 N3
      rw [show _ = _ from ep]
      cases hc : isOp toks (k.toNat + i) ")"
      · k_steps
        subst hRa
        refine ⟨_, _, rfl, ⟨_, d, td, ?_, by have z := hs3.1; rw [Int.add_zero] at z; exact z, by have z := hs3.2; rw [Int.add_zero] at z; exact z, F5, hmd, hma, hmt⟩, fp_one hIo N5 (List.Mem.head _)⟩
        rw [← e1, closeGo_skip hlt hb hc]; rfl
      · k_steps
        · rename _ = (0 : Int) => hz
          subst hRa hQq
          refine hq _ _ _ (kept_nil hg (by assumption)) ⟨k.toNat + i, t9, ?_, ?_⟩
          · rw [← e1, closeGo_close hb hc, if_pos hz]
          · rw [show _ = _ from ec]
        · rename ¬ _ = (0 : Int) => hz
          rename Fr _ _ _ _ => F6
          rename News _ _ _ _ => N6
          subst hRa
          refine ⟨_, _, rfl, ⟨_, d - 1, _, ?_, hs2.1, hs2.2, F6, rfl, hma, hmt⟩, fp_one hIo N6 (List.Mem.head _)⟩
          rw [← e1, closeGo_close hb hc, if_neg hz]; rfl
    · k_steps
      rename Fr _ _ _ _ => F6
      rename News _ _ _ _ => N6
      subst hRa
      refine ⟨_, _, rfl, ⟨_, d + 1, _, ?_, hs1.1, hs1.2, F6, rfl, hma, hmt⟩, fp_one hIo N6 (List.Mem.head _)⟩
      rw [← e1, closeGo_open hb]; rfl
  case done =>
    rintro h tk ⟨m, d, td, e1, e2, e3, F, hmd, hma, hmt⟩
    have N : News g L' h [] := News.nil
    clear F1 hR
    k_steps
    refine fault_made B' F X' T' rfl (by dsimp only [ktrTop]; omega) (fault44 w) fun h3 tk3 e' d' t1 u up hen hdn he hd => ?_
    refine ⟨e', d', t1, rfl, (X'.keeps (Fr.keep F)).keeps up, he, ?_⟩
    refine raise_end B' F rfl rfl hG hL up hen hdn he hd fun h4 hf => hx _ _ _ _ ⟨?_, rfl⟩ hf
    rw [← e1, List.drop_eq_nil_of_le cl_len]; rfl
end
end Mine
end
section
open PySem PySem.W PyProof.Rows PySem.Calls PySem.Spec
set_option Elab.async false
set_option maxRecDepth 100000
set_option maxHeartbeats 4000000
local macro_rules | `(tactic| walk_at "call builtin:len") => `(tactic| (k_here; (with_reducible show wpAny _ _ (call (Value.builtin "len") [Value.ref _]) _ _ _); (refine' len_list ?k1 ?k2 ?_; (case k1 => is_list); (case k2 => (simp only [List.size_toArray]; omega))); (try simp only [List.size_toArray])))
local macro_rules | `(tactic| walk_at "subscriptTail") => `(tactic| (k_here; (with_reducible show wpAny _ _ (subscriptTail _ _ (Value.ref _) (Value.int _ _)) _ _ _); (refine' item_listL ?k1 ?k2 ?k3 ?k4 ?_; (case k1 => is_list); (case k4 => with_reducible assumption); (case k2 => omega); (case k3 => omega))))
local macro_rules | `(tactic| walk_at "eval Name") => `(tactic| (k_here; k_dflt (refine' ld ?k1 ?k2 ?_; (case k1 => k_asm); (case k2 => first | exact rfl | assumption); k_whole)))
local macro_rules | `(tactic| walk_at "loadName") => `(tactic| (k_here; k_dflt (refine' ldn ?k1 ?k2 ?_; (case k1 => k_asm); (case k2 => first | exact rfl | assumption); k_whole)))
local macro_rules | `(tactic| walk_at "exec For Name Call cons nil") => `(tactic| (k_here; k_dflt (refine' Mine.for_open ?_)))
local macro_rules | `(tactic| walk_at "exec For Name Name cons nil") => `(tactic| (k_here; k_dflt (refine' Mine.for_open ?_)))
local macro_rules | `(tactic| walk_at "exec For Tuple Name cons nil") => `(tactic| (k_here; k_dflt (refine' Mine.for_open ?_)))
local macro_rules | `(tactic| walk_at "subscriptTail") => `(tactic| (k_here; (with_reducible show wpAny _ _ (subscriptTail _ _ (Value.ref _) (Value.int _ _)) _ _ _); k_dflt (refine' item_tupleT ?t ?a ?b ?c ?d ?_; (case t => first | assumption | exact Fr.tup (by assumption) (by assumption)); (case a => decide); (case b => decide); (case c => rfl); (case d => rfl); k_whole)))

namespace Mine
section
variable {w : World} {pg : Program} {loose : List Str} {mean : ExcName → Option Value} {mg mb : Str → Option Value} {tl : Addr} {toks : List Tk} {k : Int} {t : Tok} {h : Heap}
def marks : List Str := ["(", ")", ",", "=", "*", "//"]
/-- every mark is one of six -/
def MarksOk (toks : List Tk) : Prop := ∀ (i : Nat) (m : Str), toks[i]? = some (Tk.op m) → m ∈ marks

def markOf : Tk → Str
  | .op m => m
  | _ => ""
def stepOf (x : Str) : Int := if x = "(" then 1 else if x = ")" then -1 else 0
theorem step_gen {p : Nat} {d : Int} {tk : Tk} (e : toks[p]? = some tk) :
    closeGo (toks.drop p) p d = if markOf tk = ")" ∧ d + stepOf (markOf tk) = 0 then some p else closeGo (toks.drop (p + 1)) (p + 1) (d + stepOf (markOf tk)) := by
  obtain ⟨hp, e⟩ := List.getElem?_eq_some_iff.mp e
  rw [List.drop_eq_getElem_cons hp, e]
  cases tk with
  | op m =>
    rw [closeGo]
    by_cases h1 : m = "("
    · subst h1
      rw [if_pos rfl, if_neg (by rintro ⟨q, _⟩; revert q; decide)]; rfl
    · rw [if_neg h1]
      by_cases h2 : m = ")"
      · subst h2
        rw [if_pos rfl]
        have e1 : stepOf (markOf (Tk.op ")")) = -1 := by decide
        rw [e1]
        by_cases h3 : d - 1 = 0
        · rw [if_pos h3, if_pos ⟨rfl, by omega⟩]
        · rw [if_neg h3, if_neg (by rintro ⟨_, q⟩; exact h3 (by omega))]; rfl
      · have e1 : stepOf (markOf (Tk.op m)) = 0 := by simp [stepOf, markOf, h1, h2]
        rw [if_neg h2, if_neg (fun q => h2 q.1), e1, Int.add_zero]
  | _ =>
    have e1 : ¬ (("" : Str) = ")") := by decide
    have e2 : stepOf "" = 0 := by decide
    show closeGo (_ :: _) p d = if ("" : Str) = ")" ∧ d + stepOf "" = 0 then some p else closeGo _ _ (d + stepOf "")
    rw [closeGo, if_neg (fun q => e1 q.1), e2, Int.add_zero]
    intro m q; cases q
theorem kind_op {tk : Tk} (h : (tk.kind == "OP") = true) : ∃ m, tk = .op m := by
  cases tk with
  | op m => exact ⟨m, rfl⟩
  | name _ => exact absurd h (by show ¬ ((("NAME" : Str) == "OP") = true); decide)
  | int _ => exact absurd h (by show ¬ ((("INT" : Str) == "OP") = true); decide)
  | real => exact absurd h (by show ¬ ((("REAL" : Str) == "OP") = true); decide)
  | char => exact absurd h (by show ¬ ((("CHAR" : Str) == "OP") = true); decide)
theorem kind_not_op {tk : Tk} (h : (tk.kind == "OP") = false) : markOf tk = "" := by
  cases tk with
  | op m => exact absurd h (by show ¬ ((("OP" : Str) == "OP") = false); decide)
  | _ => rfl
theorem get_marks (x : Str) : (Spec.lookup (PyData.str x) [(.str "(", .int 1), (.str ")", .int (-1))]).getD (.int 0) = .int (stepOf x) := by
  have e1 : ∀ y : Str, Spec.same (.str y) (.str x) = decide (y = x) := fun y => PyProof.V.same_str y x
  unfold Spec.lookup Spec.lookup Spec.lookup stepOf
  rw [e1, e1]
  by_cases h1 : x = "("
  · subst h1; rfl
  · by_cases h2 : x = ")"
    · subst h2; rfl
    · rw [if_neg (by simpa using fun q => h1 q.symm), if_neg (by simpa using fun q => h2 q.symm), if_neg h1, if_neg h2]; rfl

theorem step_or {x : Str} : stepOf x = 1 ∨ stepOf x = -1 ∨ stepOf x = 0 := by
  unfold stepOf; split
  · exact .inl rfl
  · split
    · exact .inr (.inl rfl)
    · exact .inr (.inr rfl)
inductive CP (s : Shared) (g : Heap) (L' : Addr) (led : List (Addr × Obj)) (Φ : (Str → Option Value) → Prop) (f : Flow) (s' : Shared) : Prop
  | mk (h2 : Heap) (tk2 : Nat) (m : Str → Option Value) (ef : f = .next) (es : s' = { s with heap := h2, toks := tk2 }) (N : News g L' h2 led) (F : Fr g L' h2 m) (hm : Φ m) : CP s g L' led Φ f s'
theorem closing_spec (TK : ToksAt h tl toks) (hM : MarksOk toks) (hn : toks.length ≤ 1000) (h0 : 0 ≤ k) (h1 : k ≤ 1000) :
    Pure w pg loose mean mg mb 6 (.ref 191) [.ref tl, .int k t] h (fun _ v => match closeAt toks k.toNat with | some i => ∃ tk, v = .int (i : Int) tk | none => ∃ tk, v = .str "a bracket is not closed" tk) := by
  intro dp un gd cn cs L a ccd cl outer A₀ base h₀ m s Q E H hs hdp hq
  subst hs
  have B := H.B
  have F := H.F
  have X := H.X
  have T := H.T
  have hk := H.hk
  have N : News h₀ L s.heap [] := News.nil
  revert X; k_fill; intro X
  refine wpAny_call ?_
  k_dflt (refine' Mine.enterP [("at", .int k t), ("tokens", .ref tl)] ?k1 ?k2 ?k3 ?k4 ?k5 ?kA ?kF ?kK ?k6 ?k7 ?k8 ?k9 ?kB ?kbody ?c2 ?c3 ?c4 ?c5; (case kA => exact rfl); (case kF => exact rfl); (case kK => assumption); (case k1 => assumption); (case k2 => assumption); (case k3 => assumption); (case k4 => assumption); (case k5 => assumption); (case k6 => k_is); (case k7 => k_is); (case k8 => (show @LT.lt Nat _ _ 1000; (try dsimp only [ktrTop]); omega)); (case k9 => exact BindsTo.of_eq rfl); (case c5 => decide); (case kB => exact locs rfl); (case c2 => exact rfl); (case c3 => exact rfl); (case c4 => exact rfl); k_whole)
  intro g L' h₁ tk0 hg hL F' N' B' X' T'
  simp only [Mine.bindM] at F'
  have hG : ∀ b o, s.heap.get? b = some o → g.get? b = some o := fun b o e => hg b o e (fun q => nomatch q)
  clear B F X T N
  (try dsimp only)
  refine gen1 ?_
  intro Qq hQq
  refine letAE ?_
  intro Aq Eq
  obtain ⟨vs, hl, hvn, htk⟩ := TK.keeps (h' := g) hG
  k_steps
  rename Fr _ _ _ _ => F1
  rename IsRange _ _ _ _ _ _ _ _ => hR
  have hI := F1.ns.lt
  refine loop_range (n := toks.length - k.toNat) (CJ g L' tl toks k t "open_ones") hR rfl (cl_sm h0 h1 hvn hn) (cl_sz h0 hvn) ?j0 ?stable ?turn ?done
  case j0 => exact ⟨_, 0, _, rfl, by decide, by decide, F1, rfl, rfl, rfl⟩
  case stable => rintro i h h' ⟨m, d, td, e1, e2, e3, F, hmd, hma, hmt⟩ kp; exact ⟨m, d, td, e1, e2, e3, fr_stable F hI kp, hmd, hma, hmt⟩
  case turn =>
    intro i h tk t9 I oI hi HJ hIe hIo hIc
    refine genT ?_
    intro Ra hRa
    refine byG fun GG kG => ?_
    obtain ⟨m, d, td, e1, e2, e3, F, hmd, hma, hmt⟩ := HJ
    obtain ⟨ep, hlt, ec, hk0, hk9⟩ := cl_at h0 hn hi
    refine kG ?_
    clear kG
    replace hi : Hold _ := hi
    replace ec : Hold _ := ec
    clear hR
    rw [show _ = I from hIe.symm] at hI
    dsimp only at hIc ⊢
    have N := news_one F hI hIo
    clear F1
    obtain ⟨v, hv, a', kt, val, th, rfl, ht, hval⟩ := htk (k.toNat + i) toks[k.toNat + i] (by simp [hlt])
    have e : toks[k.toNat + i]? = some toks[k.toNat + i] := by simp [hlt]
    generalize toks[k.toNat + i] = tk' at ht hval e
    rw [← ep] at hv
    replace ep : Hold _ := ep
    refine wpAny_assign_Name (stN F N (fun h1' F1' N1' => ?_))
    refine wpAny_execs_cons (wpAny_mono (Q := CP s g L' [(I, oI)] fun m => (∃ tx, m "mark" = some (.str (markOf tk') tx)) ∧ m "open_ones" = some (.int d td) ∧ m "place" = some (.int (k + i) t9) ∧ m "at" = some (.int k t) ∧ m "tokens" = some (.ref tl)) ?first (fun f s' hh => ?rest) (fun _ _ e => e))
    case first =>
      clear F
      k_steps
      · rename Fr _ _ _ _ => F2
        rename (_ == _) = true => hk
        obtain ⟨m0, rfl⟩ := kind_op hk
        obtain ⟨t8, rfl⟩ := hval
        rename News _ _ _ _ => N2
        exact ⟨_, _, _, rfl, rfl, N2, F2, ⟨_, rfl⟩, hmd, rfl, hma, hmt⟩
      · rename Fr _ _ _ _ => F2
        rename (_ == _) = false => hk
        have em := kind_not_op hk
        rw [em]
        rename News _ _ _ _ => N2
        exact ⟨_, _, _, rfl, rfl, N2, F2, ⟨_, rfl⟩, hmd, rfl, hma, hmt⟩
    case rest =>
      clear hmd hma hmt
      obtain ⟨h2, tk2, m2, rfl, rfl, N2, F2, ⟨tx, hmm⟩, hmd, hmp, hma, hmt⟩ := hh
      clear F F1' N1' N
      dsimp only
      k_steps
      rename PyProof.V.Flat _ _ => hfl
      change PyProof.V.Flat _ ((Spec.lookup (PyData.str (markOf tk')) [(.str "(", .int 1), (.str ")", .int (-1))]).getD (.int 0)) at hfl
      rw [get_marks] at hfl
      obtain ⟨tst, rfl⟩ := flat_int hfl
      have hst := step_or (x := markOf tk')
      have hs1 := cl_st e2 e3 hst
      k_steps
      · rename (_ == _) = true => hk
        rename _ = (0 : Int) => hz
        subst hRa hQq
        refine hq _ _ _ (kept_nil hg (by assumption)) ?_
        rw [← e1, step_gen e, if_pos ⟨eq_of_beq hk, hz⟩]
        exact ⟨t9, by rw [show _ = _ from ec]⟩
      · rename _ ≠ (0 : Int) => hz
        rename Fr _ _ _ _ => F6
        rename News _ _ _ _ => N6
        subst hRa
        refine ⟨_, _, rfl, ⟨_, d + stepOf (markOf tk'), _, ?_, hs1.1, hs1.2, F6, rfl, hma, hmt⟩, fp_one hIo N6 (by k_mem)⟩
        rw [← e1, step_gen e, if_neg (fun q => hz q.2)]; rfl
      · rename (_ == _) = false => hk
        rename Fr _ _ _ _ => F6
        rename News _ _ _ _ => N6
        subst hRa
        refine ⟨_, _, rfl, ⟨_, d + stepOf (markOf tk'), _, ?_, hs1.1, hs1.2, F6, rfl, hma, hmt⟩, fp_one hIo N6 (by k_mem)⟩
        rw [← e1, step_gen e, if_neg (fun q => by rw [q.1] at hk; exact absurd hk (by decide))]; rfl
  case done =>
    rintro h tk ⟨m, d, td, e1, e2, e3, F, hmd, hma, hmt⟩
    have N : News g L' h [] := News.nil
    clear F1 hR
    k_steps
    subst hQq
    refine hq _ _ _ (kept_nil hg F) ?_
    rw [← e1, List.drop_eq_nil_of_le cl_len]
    exact ⟨_, rfl⟩
end
end Mine
end
section
open PySem PySem.W PyProof.Rows PySem.Calls PySem.Spec
set_option Elab.async false
set_option maxRecDepth 100000
set_option maxHeartbeats 4000000

namespace Mine
/-- all stands; the frames `fs` up to their slots -/
def KeptF (fs : List Addr) (h h' : Heap) : Prop := ∀ b o, h.get? b = some o → (b ∉ fs → h'.get? b = some o) ∧ (b ∈ fs → ∃ sl, h'.get? b = some { o with slots := sl })
theorem KeptF.of {fs : List Addr} {h h' : Heap} (k : Kept [] h h') : KeptF fs h h' := fun b o e => ⟨fun _ => k.all b o e, fun _ => ⟨o.slots, k.all b o e⟩⟩
theorem KeptF.trans {fs : List Addr} {h h' h'' : Heap} (x : KeptF fs h h') (y : KeptF fs h' h'') : KeptF fs h h'' := fun b o e => ⟨fun n => (y b o ((x b o e).1 n)).1 n, fun m => by
  obtain ⟨s1, e1⟩ := (x b o e).2 m
  obtain ⟨s2, e2⟩ := (y b _ e1).2 m
  exact ⟨s2, e2⟩⟩
theorem KeptF.turn {fs : List Addr} {h g g' h' : Heap} {L : Addr} {m : Str → Option Value} (hG : ∀ b o, h.get? b = some o → g.get? b = some o) (T : KtsTurn fs g g') (F : Fr g' L h' m) : KeptF fs h h' := fun b o e =>
  ⟨fun n => F.keep _ _ (T.other b o (hG b o e) n), fun m => let ⟨sl, q⟩ := T.frame b o (hG b o e) m; ⟨sl, F.keep _ _ q⟩⟩

/-- what a call does that leaves all as it stood, but the slots of the frames on the stack -/
def Calm (w : World) (pg : Program) (loose : List Str) (mean : ExcName → Option Value) (mg mb : Str → Option Value) (lim : Nat) (f : Value) (args : List Value) (h : Heap) (post : Heap → Value → Prop) : Prop :=
  ∀ ⦃dp un : Nat⦄ ⦃gd : Option (List Code)⦄ ⦃cn : Str⦄ ⦃cs : Scope⦄ ⦃L a : Addr⦄ ⦃ccd : Value⦄ ⦃cl : List (Str × Addr)⦄ ⦃outer : List Env⦄ ⦃A₀ : Around⦄ ⦃base h₀ : Heap⦄ ⦃m : Str → Option Value⦄ ⦃s : Shared⦄ ⦃Q E : Value → Shared → Prop⦄,
    Here w pg loose mean mg mb cs A₀ base h₀ outer L m s.heap → s.heap = h → dp + lim < 900 →
    (∀ h' tk v, KeptF (frs (envX cn cs L a ccd cl :: outer)) s.heap h' → post h' v → Q v { s with heap := h', toks := tk }) →
    wpAny (model PySem.Challenge.rw_pq0349_01.row.prog w) (ktrTop dp un gd cn cs L a ccd cl outer) (call f args) Q E s

section
variable {w : World} {pg : Program} {loose : List Str} {mean : ExcName → Option Value} {mg mb : Str → Option Value} {tl fa : Addr} {toks : List Tk} {k : Int} {t : Tok} {h : Heap}

theorem heard_spec {lim : Nat} {post : Heap → Value → Prop} {exc : Str → Prop} (hf : ∃ o fd, h.get? fa = some o ∧ o.data = .func fd)
    (S : ∀ h', (∀ b o, h.get? b = some o → h'.get? b = some o) → PureX w pg loose mean mg mb lim (.ref fa) [.ref tl, .int k t] h' post exc) :
    Calm w pg loose mean mg mb (lim + 2) (.ref 184) [.ref fa, .ref tl, .int k t] h (fun h' v => post h' v ∨ ∃ x t', exc x ∧ v = .str x t') := by
  intro dp un gd cn cs L a ccd cl outer A₀ base h₀ m s Q E H hs hdp hq
  subst hs
  have B := H.B
  have F := H.F
  have X := H.X
  have T := H.T
  have hk := H.hk
  have N : News h₀ L s.heap [] := News.nil
  revert X; k_fill; intro X
  refine wpAny_call ?_
  k_dflt (refine' Mine.enterP [("at", .int k t), ("tokens", .ref tl), ("told", .ref fa)] ?k1 ?k2 ?k3 ?k4 ?k5 ?kA ?kF ?kK ?k6 ?k7 ?k8 ?k9 ?kB ?kbody ?c2 ?c3 ?c4 ?c5; (case kA => exact rfl); (case kF => exact rfl); (case kK => assumption); (case k1 => assumption); (case k2 => assumption); (case k3 => assumption); (case k4 => assumption); (case k5 => assumption); (case k6 => k_is); (case k7 => k_is); (case k8 => (show @LT.lt Nat _ _ 1000; (try dsimp only [ktrTop]); omega)); (case k9 => exact BindsTo.of_eq rfl); (case c5 => decide); (case kB => exact locs rfl); (case c2 => exact rfl); (case c3 => exact rfl); (case c4 => exact rfl); k_whole)
  intro g L' h₁ tk0 hg hL F' N' B' X' T'
  simp only [Mine.bindM] at F'
  have hG : ∀ b o, s.heap.get? b = some o → g.get? b = some o := fun b o e => hg b o e (fun q => nomatch q)
  clear B F X T N
  (try dsimp only)

  obtain ⟨of, fd, hof, hofd⟩ := hf
  k_steps
  · exact F'.keep _ _ (hG _ _ hof)
  refine S h₁ (fun b o e => F'.keep b o (hG b o e)) ⟨B', F', H.XB, H.TB, rfl⟩ rfl (by show dp + 1 + lim < 900; omega) (fun h' tk v kv hp => hq _ _ _ (KeptF.of (fun b o e _ => kv.all b o (F'.keep b o (hG b o e)))) (.inl hp)) fun h' tk e x hx hfl => ?_
  refine catchD (fault44 w) hfl F' B' H.XB H.TB (by k_is) fun h6 g6 tk6 d t6 u oe T6 F6 B6 hkeep he hc hdc hnc hd => ?_
  have X6 := H.XB.keeps B6.stays
  have TT6 := H.TB.keeps B6.stays
  have N6 : News g6 L' h6 [] := News.nil
  clear F' B' X' T' N'
  k_steps
  refine text_attr (fault44 w) (X6.keeps F6.keep) he hc hdc hnc hd ?_
  dsimp only
  refine wpAny_nameGoes rfl F6.ns rfl fun h7 m7 hn7 hs7 => ?_
  exact hq _ _ _ (KeptF.turn hG T6 (F6.set hn7 hs7)) (.inr ⟨x, t6, hx, rfl⟩)
end
end Mine
end
section
open PySem PySem.W PyProof.Rows PySem.Calls PySem.Spec
set_option Elab.async false
set_option maxRecDepth 100000
set_option maxHeartbeats 2000000
namespace Mine
section
variable {prog : Program} {w : World} {A A₀ : Around} {s : Shared} {K : Frag} {base h₀ : Heap} {outer : List Env} {L : Addr} {m mg mb : Str → Option Value} {env : Env} {news : List (Addr × Obj)} {p : Program} {loose : List Str} {mean : ExcName → Option Value}
  {R : Result → Shared → Prop} {name qual : Str} {params : Arguments} {scope : Scope} {dV kV doc pm cdv ct oc : Value} {an od : Option Addr} {osl : Array (Option Value)} {f : Addr} {args : Args}

/-- the call of a def that has cells -/
theorem enterC {body : List Stmt} {binds : List (Str × Value)} (B : Below A₀ base outer h₀) (F : Fr h₀ L s.heap m) (X₀ : K.In h₀) (N : News h₀ L s.heap news) (T : Top p loose mean mg mb h₀) (hA : A.frames = some (env :: outer)) (hf : env.frame = some L) (hke : env.scope.kind = .function)
    (ho : K.lookup f = some ⟨oc, od, .func (fnOf name qual params body scope dV kV doc pm an cdv ct), osl⟩) (hcd : codeIn K cdv qual = true) (hroom : A.depth < recursionLimit)
    (hbind : BindsTo s (fnOf name qual params body scope dV kV doc pm an cdv ct) args binds) (hkind : (binds.all fun y => scope.names.lookup y.1 == some .local || scope.names.lookup y.1 == some .cell) = true)
    (hnd : ((cellsFrom 0 scope.names []).map (·.1)).Nodup)
    (h : ∀ g L' h₁ tk cells, (∀ b o, s.heap.get? b = some o → b ∉ news.map (·.1) → g.get? b = some o) → s.heap.objs.size ≤ L' → (∀ p ∈ news, @LT.lt Nat _ p.1 L') → Fr g L' h₁ (bindL (envOfC qual scope L' f cdv).kindOf binds fun _ => none) → News g L' h₁ (cells ++ news) →
      CellsAre (bindC (envOfC qual scope L' f cdv).kindOf binds fun _ => none) (cellsFrom (L' + 1) scope.names []) cells → Below A base (env :: outer) g → K.In g → Top p loose mean mg mb g →
      wpAny (model prog w) (A.deeper (envOfC qual scope L' f cdv)) (execs body (envOfC qual scope L' f cdv))
        (fun fl s' => R (.ok (.ret (match fl with | .ret v => v | _ => .none))) s')
        (fun e s' => wpAny (model prog w) (A.deeper (envOfC qual scope L' f cdv)) (leaving (envOfC qual scope L' f cdv) e) (fun _ s'' => R (.error e) s'') (fun e' s'' => R (.error e') s'') s')
        { s with heap := h₁, toks := tk })
    (hco : scope.isCoroutine = false) (hgen : scope.isGenerator = false) (hk : scope.kind = .function) : codeAny (model prog w) A (.call (.ref f) args) R s := by
  obtain ⟨FG, BG, st, _⟩ := groundX (R := R) B F N hA hf hke
  have X := X₀.keeps F.keep
  refine codeAny_call_function hroom (X _ _ ho) rfl hco hgen rfl (codeRec_of X hcd) (hbind _ _ _ _ ?_)
  refine wpAny_newFunctionEnv_cells hk (kindsX hkind _) fun env' he s' x => ?_
  subst he
  refine ⟨(T.nolimit.keeps F.keep).keeps x.toInCall.keep, codeAny_func ?_⟩
  obtain ⟨h₁, tk, rfl, _⟩ := x.done
  have hk₁ := x.toInCall.keep
  obtain ⟨cells, NC, Y⟩ := Cl.news (h₀ := s.heap) (Nat.le_refl _) fun n c hm => ⟨x.cell n c (lookup_of_mem_nodup (cellsFrom_names scope.names 0 (s.heap.objs.size + 1) [] [] rfl ▸ hnd) hm), x.above n c hm⟩
  refine h _ s.heap.objs.size h₁ tk cells (fun b o e nb => hideAll_get _ e nb) (Nat.le_refl _) (fun p hp => Heap.lt_size (N p hp).1) ⟨x.toInCall.ns, fun b o e => hk₁ b o (of_hideAll _ e), Nat.le_of_eq (hideAll_size _ _)⟩ (fun p hp => ?_) Y BG (X₀.keeps st) (T.keeps st)
  rcases List.mem_append.mp hp with hp | hp
  · refine ⟨(NC p hp).1, (NC p hp).2.1, ?_⟩
    cases q : (hideAll s.heap (news.map (·.1))).get? p.1 with
    | none => rfl
    | some o => have := of_hideAll _ q; rw [(NC p hp).2.2] at this; cases this
  · exact ⟨hk₁ _ _ (N p hp).1, Nat.ne_of_lt (Heap.lt_size (N p hp).1), hideAll_none _ (List.mem_map_of_mem hp)⟩

/-- the call of a lambda that lies in the heap -/
theorem enterL {body : Expr} {cl : List (Str × Addr)} {c' : Addr} {ctv : Value} (rb : List (Str × Value)) (B : Below A₀ base outer h₀) (F : Fr h₀ L s.heap m) (X₀ : K.In h₀) (N : News h₀ L s.heap news) (T : Top p loose mean mg mb h₀) (hA : A.frames = some (env :: outer)) (hf : env.frame = some L) (hke : env.scope.kind = .function)
    (ho : s.heap.get? f = some (kla_obj name qual params body scope cl pm c' ctv)) (hcd : s.heap.CodeRec (.ref c') qual) (hroom : A.depth < recursionLimit)
    (hbind : bindArgs (kla_fn name qual params body scope cl pm (.ref c') ctv) args = pure rb.reverse) (hloc : ∀ y ∈ rb.reverse, scope.names.lookup y.1 = some .local)
    (h : ∀ g L' h₁ tk, (∀ b o, s.heap.get? b = some o → b ∉ news.map (·.1) → g.get? b = some o) → s.heap.objs.size ≤ L' → Fr g L' h₁ (fun y => bindM rb y) → News g L' h₁ news → Below A base (env :: outer) g → K.In g → Top p loose mean mg mb g →
      wpAny (model prog w) (A.deeper (envX qual scope L' f (.ref c') cl)) (eval body (envX qual scope L' f (.ref c') cl))
        (fun v s' => R (.ok (.ret v)) s')
        (fun e s' => wpAny (model prog w) (A.deeper (envX qual scope L' f (.ref c') cl)) (leaving (envX qual scope L' f (.ref c') cl) e) (fun _ s'' => R (.error e) s'') (fun e' s'' => R (.error e') s'') s')
        { s with heap := h₁, toks := tk })
    (hco : scope.isCoroutine = false) (hgen : scope.isGenerator = false) (hk : scope.kind = .function)
    (hcell : ∀ x ∈ scope.names, x.2 ≠ .cell) : codeAny (model prog w) A (.call (.ref f) args) R s := by
  obtain ⟨FG, BG, st, _⟩ := groundX (R := R) B F N hA hf hke
  refine kla_callFunE hroom ho rfl hco hgen rfl hcd ?_
  rw [hbind]
  refine wpAny_pure (wpAny_newFunctionEnv hcell hloc (fun h₁ hns hsb => ⟨((T.nolimit).keeps F.keep).fresh _ hsb, ?_⟩) hk)
  rw [List.reverse_reverse, show (fun x => rb.lookup x) = fun x => bindM rb x from funext fun y => lookup_bindM y rb] at hns
  show codeAny _ _ (.expr body (envX qual scope s.heap.objs.size f (.ref c') cl)) _ _
  have hk₁ : ∀ b o, s.heap.get? b = some o → h₁.get? b = some o := fun b o e => hsb.extBut b o (Nat.ne_of_lt (Heap.lt_size e)) (Heap.get?_push_of_some _ e)
  exact kla_codeExpr (h _ s.heap.objs.size h₁ _ (fun b o e nb => hideAll_get _ e nb) (Nat.le_refl _) ⟨hns, fun b o e => hk₁ b o (of_hideAll _ e), Nat.le_of_eq (hideAll_size _ _)⟩
    (fun p hp => ⟨hk₁ _ _ (N p hp).1, Nat.ne_of_lt (Heap.lt_size (N p hp).1), hideAll_none _ (List.mem_map_of_mem hp)⟩) BG (X₀.keeps st) (T.keeps st))
end

section
variable {A₀ : Around} {base g h h' : Heap} {outer : List Env} {L : Addr} {m : Str → Option Value} {env : Env} {news : List (Addr × Obj)}
/-- the frame after a call that left all but the slots of the frames -/
theorem calm_back (K : Below A₀ base outer g) (F : Fr g L h m) (N : News g L h news) (hf : env.frame = some L) (k : KeptF (frs (env :: outer)) h h') :
    ∃ g', KtsTurn (frs outer) g g' ∧ Fr g' L h' m ∧ News g' L h' news ∧ Below A₀ base outer g' := by
  obtain ⟨g', T, F', B'⟩ := groundD (h₅ := h') (B := hideAll h (frs (env :: outer))) K F hf (fun b o e n => hideAll_get _ e n) (fun b o e => by
    by_cases q : b ∈ frs (env :: outer)
    · rw [hideAll_none _ q] at e; cases e
    · exact (k b o (of_hideAll _ e)).1 q) (fun b o e _ => by
    by_cases q : b ∈ frs (env :: outer)
    · exact (k b o e).2 q
    · exact ⟨o.slots, (k b o e).1 q⟩)
  refine ⟨g', T, F', fun p hp => ⟨(k _ _ (N p hp).1).1 fun q => ?_, (N p hp).2.1, T.none_ _ (N p hp).2.2⟩, B'⟩
  rcases frs_cons hf q with z | z
  · exact (N p hp).2.1 z
  · obtain ⟨_, o, ho, _⟩ := K.frames.mem z
    rw [(N p hp).2.2] at ho; cases ho

theorem KtsTurn.keptF {fs : List Addr} {h : Heap} {g₁ g₂ : Heap} (x : KeptF fs h g₁) (T : KtsTurn fs g₁ g₂) : KeptF fs h g₂ := x.trans fun b o e => ⟨fun n => T.other b o e n, fun m => T.frame b o e m⟩
theorem KeptF.up {fs : List Addr} (k : KeptF fs h h') : ∀ b o, h.get? b = some o → ∃ sl, h'.get? b = some { o with slots := sl } := fun b o e => by
  by_cases q : b ∈ fs
  · exact (k b o e).2 q
  · exact ⟨o.slots, (k b o e).1 q⟩
theorem KeptF.fr {fs : List Addr} {h g h' : Heap} {L : Addr} {m : Str → Option Value} (k : KeptF fs h g) (F : Fr g L h' m) : KeptF fs h h' := fun b o e => ⟨fun n => F.keep _ _ ((k b o e).1 n), fun q => let ⟨sl, z⟩ := (k b o e).2 q; ⟨sl, F.keep _ _ z⟩⟩

theorem isTup_up {a : Addr} {vs : Array Value} (up : ∀ b o, h.get? b = some o → ∃ sl, h'.get? b = some { o with slots := sl }) (x : IsTup h a vs) : IsTup h' a vs :=
  let ⟨o, ho, hc, n, hd⟩ := x; let ⟨_, e⟩ := up a o ho; ⟨_, e, hc, n, hd⟩
theorem isList_up {a : Addr} {vs : Array Value} (up : ∀ b o, h.get? b = some o → ∃ sl, h'.get? b = some { o with slots := sl }) (x : h.IsList a vs) : h'.IsList a vs :=
  let ⟨o, ho, hc, n, hd⟩ := x; let ⟨_, e⟩ := up a o ho; ⟨_, e, hc, n, hd⟩
theorem TokAt.up {v : Value} {tk : Tk} (up : ∀ b o, h.get? b = some o → ∃ sl, h'.get? b = some { o with slots := sl }) (x : TokAt h v tk) : TokAt h' v tk :=
  let ⟨a, kt, val, th, e, ht, hv⟩ := x; ⟨a, kt, val, th, e, isTup_up up ht, hv⟩
theorem ToksAt.up {tl : Addr} {toks : List Tk} (up : ∀ b o, h.get? b = some o → ∃ sl, h'.get? b = some { o with slots := sl }) (x : ToksAt h tl toks) : ToksAt h' tl toks :=
  let ⟨vs, hl, hn, ht⟩ := x; ⟨vs, isList_up up hl, hn, fun i tk e => let ⟨v, hv, r⟩ := ht i tk e; ⟨v, hv, r.up up⟩⟩
theorem CodeRec.up {c q} (up : ∀ b o, h.get? b = some o → ∃ sl, h'.get? b = some { o with slots := sl }) (x : h.CodeRec c q) : h'.CodeRec c q :=
  let ⟨c, oc, vs, t, e1, e2, e3, e4⟩ := x; let ⟨_, e⟩ := up c oc e2; ⟨c, _, vs, t, e1, e, e3, e4⟩
end
end Mine
end
section
open PySem PySem.W PyProof.Rows PySem.Calls PySem.Spec
set_option Elab.async false
set_option maxRecDepth 100000
set_option maxHeartbeats 4000000
local macro_rules | `(tactic| walk_at "eval Name") => `(tactic| (k_here; k_dflt (refine' wpAny_Name (wpAny_loadName_free rfl rfl rfl ⟨_, (by assumption), (by assumption)⟩ ?_) ?q; (case q => decide); k_whole)))

namespace Mine
section
variable {w : World} {pg : Program} {loose : List Str} {mean : ExcName → Option Value} {mg mb : Str → Option Value} {tl : Addr} {toks : List Tk} {k : Int} {t : Tok} {h : Heap}

/-- the lambda that asks for the mark of its cell -/
theorem lam_spec {f c' c : Addr} {nm qual x : Str} {pm ctv : Value} {oc : Obj} {tx : Tok} {p1 p2 p3 p4 p5 p6 p7 : Pos} (TK : ToksAt h tl toks) (hn : toks.length ≤ 1000) (h0 : 0 ≤ k) (h1 : k ≤ 1000) (hx : x.length ≤ 10)
    (hf : h.get? f = some (kla_obj nm qual { posonlyargs := [], args := [{ arg := "row", annotation := none, pos := p1 }, { arg := "place", annotation := none, pos := p2 }], vararg := none, kwonlyargs := [], kw_defaults := [], kwarg := none, defaults := [] }
      (.Call (.Name "need_op" p3) [.Name "row" p4, .Name "place" p5, .Name "mark" p6] [] p7)
      { kind := .function, names := [("row", .local), ("place", .local), ("mark", .free), ("need_op", .globalImplicit)], isGenerator := false, isCoroutine := false } [("mark", c)] pm c' ctv))
    (hcd : h.CodeRec (.ref c') qual) (hc : h.get? c = some oc) (hoc : oc.data = .cell (some (.str x tx))) :
    PureX w pg loose mean mg mb 7 (.ref f) [.ref tl, .int k t] h (fun h' v => isOp toks k.toNat x = true ∧ ∃ tk, v = .int (k + 1) tk) (fun y => isOp toks k.toNat x = false ∧ y = "a mark is missing: " ++ x) := by
  intro dp un gd cn cs L a ccd cl outer A₀ base h₀ m s Q E H hs hdp hq hX
  subst hs
  have B := H.B
  have F := H.F
  have X := H.X
  have T := H.T
  have hk := H.hk
  have N : News h₀ L s.heap [] := News.nil
  revert X; k_fill; intro X
  refine wpAny_call ?_
  k_dflt (refine' Mine.enterL [("place", .int k t), ("row", .ref tl)] ?k1 ?k2 ?k3 ?k4 ?k5 ?kA ?kF ?kK ?k6 ?k7 ?k8 ?k9 ?kB ?kbody ?c2 ?c3 ?c4 ?c5; (case kA => exact rfl); (case kF => exact rfl); (case kK => assumption); (case k1 => assumption); (case k2 => assumption); (case k3 => assumption); (case k4 => assumption); (case k5 => assumption); (case k6 => exact hf); (case k7 => exact hcd); (case k8 => (show @LT.lt Nat _ _ 1000; (try dsimp only [ktrTop]); omega)); (case k9 => exact rfl); (case c5 => decide); (case kB => exact locs rfl); (case c2 => exact rfl); (case c3 => exact rfl); (case c4 => exact rfl); k_whole)
  intro g L' h₁ tk0 hg hL F' N' B' X' T'
  simp only [Mine.bindM] at F'
  have hG : ∀ b o, s.heap.get? b = some o → g.get? b = some o := fun b o e => hg b o e (fun q => nomatch q)
  clear B F X T N
  (try dsimp only)
  have TK1 := TK.keeps (h' := h₁) fun b o e => F'.keep b o (hG b o e)
  have hc1 : h₁.get? c = some oc := F'.keep _ _ (hG _ _ hc)
  k_steps
  refine need_op_spec TK1 hn h0 h1 hx ⟨B', F', H.XB, H.TB, rfl⟩ rfl (by show _ + 6 < 900; dsimp only [ktrTop]; omega) (fun h2 tk2 v k2 hv => ?_) (fun h2 tk2 e y hy hfl => ?_)
  · exact hq _ _ _ (fun b o e n => k2.all _ _ (F'.keep _ _ (hG b o e))) hv
  · exact flies_leaves rfl rfl (fun b o e => F'.keep _ _ (hG b o e)) (get_none_of_le hL) hfl fun h3 hf3 => hX _ _ _ _ hy hf3
end
end Mine
end
section
open PySem PySem.W PyProof.Rows PySem.Calls PySem.Spec
set_option Elab.async false
set_option maxRecDepth 100000
set_option maxHeartbeats 4000000
local macro_rules | `(tactic| walk_at "call builtin:len") => `(tactic| (k_here; (with_reducible show wpAny _ _ (call (Value.builtin "len") [Value.ref _]) _ _ _); (refine' len_list ?k1 ?k2 ?_; (case k1 => is_list); (case k2 => (simp only [List.size_toArray]; omega))); (try simp only [List.size_toArray])))
local macro_rules | `(tactic| walk_at "subscriptTail") => `(tactic| (k_here; (with_reducible show wpAny _ _ (subscriptTail _ _ (Value.ref _) (Value.int _ _)) _ _ _); (refine' item_listL ?k1 ?k2 ?k3 ?k4 ?_; (case k1 => is_list); (case k4 => with_reducible assumption); (case k2 => omega); (case k3 => omega))))
local macro_rules | `(tactic| walk_at "eval Name") => `(tactic| (k_here; k_dflt (refine' nameX_L ?k1 ?k2 ?_; (case k1 => k_asm); (case k2 => first | exact rfl | assumption); k_whole)))
local macro_rules | `(tactic| k_ne) => `(tactic| with_reducible (first | assumption | (refine Ne.symm ?_; assumption)))
local macro_rules | `(tactic| walk_at "exec For Name Call cons nil") => `(tactic| (k_here; k_dflt (refine' Mine.for_open ?_)))
local macro_rules | `(tactic| walk_at "exec For Name Name cons nil") => `(tactic| (k_here; k_dflt (refine' Mine.for_open ?_)))
local macro_rules | `(tactic| walk_at "exec For Tuple Name cons nil") => `(tactic| (k_here; k_dflt (refine' Mine.for_open ?_)))
local macro_rules | `(tactic| walk_at "exec For Name Tuple cons nil") => `(tactic| (k_here; k_dflt (refine' Mine.for_open ?_)))
local macro_rules | `(tactic| walk_at "subscriptTail") => `(tactic| (k_here; (with_reducible show wpAny _ _ (subscriptTail _ _ (Value.ref _) (Value.int _ _)) _ _ _); k_dflt (refine' item_tupleT ?t ?a ?b ?c ?d ?_; (case t => first | assumption | exact Fr.tup (by assumption) (by assumption)); (case a => decide); (case b => decide); (case c => rfl); (case d => rfl); k_whole)))

namespace Mine
open PySem.SeqAt
def KeptM (mods fs : List Addr) (h h' : Heap) : Prop := ∀ b o, h.get? b = some o → b ∉ mods → (b ∉ fs → h'.get? b = some o) ∧ (b ∈ fs → ∃ sl, h'.get? b = some { o with slots := sl })
theorem KeptM.of {mods fs : List Addr} {h g : Heap} (k : ∀ b o, h.get? b = some o → b ∉ mods → g.get? b = some o) : KeptM mods fs h g := fun b o e n => ⟨fun _ => k b o e n, fun _ => ⟨o.slots, k b o e n⟩⟩
theorem KeptM.turn {mods fs : List Addr} {h g g' : Heap} (x : KeptM mods fs h g) (T : KtsTurn fs g g') : KeptM mods fs h g' := fun b o e n => ⟨fun m => T.other b o ((x b o e n).1 m) m, fun m => by
  obtain ⟨s1, e1⟩ := (x b o e n).2 m
  obtain ⟨s2, e2⟩ := T.frame b _ e1 m
  exact ⟨s2, e2⟩⟩
theorem KeptM.fr {mods fs : List Addr} {h g h' : Heap} {L : Addr} {m : Str → Option Value} (k : KeptM mods fs h g) (F : Fr g L h' m) : KeptM mods fs h h' := fun b o e n => ⟨fun m => F.keep _ _ ((k b o e n).1 m), fun q => let ⟨sl, z⟩ := (k b o e n).2 q; ⟨sl, F.keep _ _ z⟩⟩

theorem toks_hg {h g : Heap} {tl : Addr} {toks : List Tk} {news : List (Addr × Obj)} (TK : ToksAt h tl toks) (hP : ∀ p ∈ news, h.get? p.1 = some p.2 ∧ ∀ i n, p.2.data ≠ .seq i n) (hg : ∀ b o, h.get? b = some o → b ∉ news.map (·.1) → g.get? b = some o) : ToksAt g tl toks := by
  have key : ∀ b o i n, h.get? b = some o → o.data = .seq i n → g.get? b = some o := fun b o i n e hd => hg b o e fun q => by
    obtain ⟨p, hp, rfl⟩ := List.mem_map.mp q
    rw [(hP p hp).1] at e; cases e
    exact (hP p hp).2 i n hd
  obtain ⟨vs, ⟨o, ho, hc, n, hd⟩, hn, ht⟩ := TK
  refine ⟨vs, ⟨o, key _ _ _ _ ho hd, hc, n, hd⟩, hn, fun i tk e => ?_⟩
  obtain ⟨v, hv, a, kt, val, th, e', ⟨o', ho', hc', n', hd'⟩, hval⟩ := ht i tk e
  exact ⟨v, hv, a, kt, val, th, e', ⟨o', key _ _ _ _ ho' hd', hc', n', hd'⟩, hval⟩
abbrev tupObj (vs : Array Value) : Obj := { cls := .type "tuple", data := .seq vs 0 }
abbrev LamName : Str := ("_law_looks_right" ++ ".<locals>.") ++ "<lambda>"
/-- the table of the codes that the body has made: empty, or the lambda's code, which is `x` -/
def TabX (ps : Array Value) (x : Addr) (ox : Obj) : Prop := ps = #[] ∨ (ps = #[rawInt 121, rawInt 22, .ref x] ∧ ∃ vs t, ox.data = .fields vs ∧ vs[1]? = some (.str LamName t))
theorem KeptM.less {P x : Addr} {fs : List Addr} {h h' : Heap} {ox : Obj} (k : KeptM [P, x] fs h h') (e : h.get? x = some ox) (e' : h'.get? x = some ox) : KeptM [P] fs h h' := fun b o hb hn => by
  by_cases q : b = x
  · subst q
    rw [e] at hb; cases hb
    exact ⟨fun _ => e', fun _ => ⟨ox.slots, e'⟩⟩
  · exact k b o hb (by simp only [List.mem_cons, List.not_mem_nil, or_false] at hn ⊢; rintro (z | z); exact hn z; exact q z)
theorem news_stable {g h h' : Heap} {L I : Addr} {news : List (Addr × Obj)} {P : Obj → Prop} (N : News g L h news) (kp : ∀ b o, h.get? b = some o → (b ≠ I ∨ P o) → h'.get? b = some o) (hne : ∀ p ∈ news, p.1 ≠ I) : News g L h' news :=
  fun p hp => ⟨kp _ _ (N p hp).1 (.inl (hne p hp)), (N p hp).2⟩
theorem fp_two {g h h' : Heap} {L I D : Addr} {o o' : Obj} {news : List (Addr × Obj)} (e : h.get? I = some o) (e' : h.get? D = some o') (N : News g L h' news) (hm : (I, o) ∈ news) (hm' : (D, o') ∈ news) : ∀ b ∈ [I, D], ∀ o, h.get? b = some o → h'.get? b = some o := fun b hb ob eb => by
  rcases List.mem_cons.mp hb with rfl | hb
  · rw [e] at eb; cases eb; exact N.get hm
  · rw [List.mem_singleton.mp hb] at eb ⊢
    rw [e'] at eb; cases eb; exact N.get hm'
theorem tab_nest {g h : Heap} {L f c' : Addr} {fo oc' l c : _} {p1 p2 p3 p4 p5 : Addr × Obj} (N : News g L h [(f, fo), (c', oc'), p1, p2, p3, p4, p5, (193, tabObj (#[] ++ #[l, c, .ref c']))]) : News g L h [(c', oc'), p3, p4, p5, (193, tabObj #[l, c, .ref c'])] := fun p hp => N p (by
  simp only [List.mem_cons, List.not_mem_nil, or_false] at hp ⊢
  rcases hp with rfl | rfl | rfl | rfl | rfl
  · exact .inr (.inl rfl)
  · exact .inr (.inr (.inr (.inr (.inl rfl))))
  · exact .inr (.inr (.inr (.inr (.inr (.inl rfl)))))
  · exact .inr (.inr (.inr (.inr (.inr (.inr (.inl rfl))))))
  · exact .inr (.inr (.inr (.inr (.inr (.inr (.inr (by rfl))))))))
theorem fields_not_seq {o : Obj} {vs : Array Value} (h : o.data = .fields vs) : ∀ i n, o.data ≠ .seq i n := fun i n q => by rw [h] at q; cases q
theorem news_sub {g h : Heap} {L : Addr} {n₁ n₂ : List (Addr × Obj)} (N : News g L h n₁) (s : ∀ p ∈ n₂, p ∈ n₁) : News g L h n₂ := fun p hp => N p (s p hp)
theorem news_more {g h : Heap} {L I : Addr} {m : Str → Option Value} {o : Obj} {news : List (Addr × Obj)} (F : Fr g L h m) (hI : @LT.lt Nat _ L I) (e : h.get? I = some o) (N : News g L h news) : News g L h ((I, o) :: news) := fun p hp => by
  rcases List.mem_cons.mp hp with rfl | hp
  · exact news_one F hI e _ (List.Mem.head _)
  · exact N p hp

theorem op_true {toks : List Tk} {i : Nat} {vv : Value} (hvv : ∀ tk, toks[i]? = some tk → tk.Val vv) (e : (kindS toks i == "OP") = true) : ∃ m tv, vv = .str m tv ∧ ∀ x, isOp toks i x = (m == x) := by
  unfold kindS at e
  cases hq : toks[i]? with
  | none => rw [hq] at e; exact absurd e (by show ¬ ((("" : Str) == "OP") = true); decide)
  | some tk =>
    rw [hq] at e
    obtain ⟨m, rfl⟩ := kind_op e
    obtain ⟨tv, rfl⟩ := hvv _ hq
    exact ⟨m, tv, rfl, fun x => by simp only [isOp, hq]⟩
theorem op_false {toks : List Tk} {i : Nat} (e : (kindS toks i == "OP") = false) (x : Str) : isOp toks i x = false := by
  unfold kindS at e
  unfold isOp
  split
  · rename_i m hq
    rw [hq] at e
    exact absurd e (by show ¬ ((("OP" : Str) == "OP") = false); decide)
  · rfl

theorem kind_name {toks : List Tk} {i : Nat} {vv : Value} {y : Str} (hvv : ∀ tk, toks[i]? = some tk → tk.Val vv) (e : nameOf toks i = some y) : kindS toks i = "NAME" ∧ ∃ tv, vv = .str y tv := by
  unfold nameOf at e
  split at e
  · rename_i z hz
    cases e
    exact ⟨by rw [kindS, hz]; rfl, hvv _ hz⟩
  · cases e
theorem kind_int {toks : List Tk} {i : Nat} {vv : Value} {y : Int} (hvv : ∀ tk, toks[i]? = some tk → tk.Val vv) (e : intOf toks i = some y) : kindS toks i = "INT" ∧ ∃ tv, vv = .int y tv := by
  unfold intOf at e
  split at e
  · rename_i z hz
    cases e
    exact ⟨by rw [kindS, hz]; rfl, hvv _ hz⟩
  · cases e
theorem kind_no_name {toks : List Tk} {i : Nat} (e : nameOf toks i = none) : (kindS toks i == "NAME") = false := by
  unfold nameOf at e
  unfold kindS
  split
  · rename_i tk hz
    rw [hz] at e
    cases tk with
    | name _ => cases e
    | op _ => show (("OP" : Str) == "NAME") = false; decide
    | int _ => show (("INT" : Str) == "NAME") = false; decide
    | real => show (("REAL" : Str) == "NAME") = false; decide
    | char => show (("CHAR" : Str) == "NAME") = false; decide
  · decide
theorem kind_no_int {toks : List Tk} {i : Nat} (e : intOf toks i = none) : (kindS toks i == "INT") = false := by
  unfold intOf at e
  unfold kindS
  split
  · rename_i tk hz
    rw [hz] at e
    cases tk with
    | int _ => cases e
    | op _ => show (("OP" : Str) == "INT") = false; decide
    | name _ => show (("NAME" : Str) == "INT") = false; decide
    | real => show (("REAL" : Str) == "INT") = false; decide
    | char => show (("CHAR" : Str) == "INT") = false; decide
  · decide
theorem kind_some {toks : List Tk} {i : Nat} (e : i < toks.length) : (kindS toks i != "") = true := by
  have hz : toks[i]? = some toks[i] := by simp [e]
  unfold kindS
  rw [hz]
  generalize toks[i] = tk
  cases tk with
  | op _ => show (("OP" : Str) != "") = true; decide
  | int _ => show (("INT" : Str) != "") = true; decide
  | name _ => show (("NAME" : Str) != "") = true; decide
  | real => show (("REAL" : Str) != "") = true; decide
  | char => show (("CHAR" : Str) != "") = true; decide
theorem kind_none {toks : List Tk} {i : Nat} (e : ¬ i < toks.length) : kindS toks i = "" := by
  unfold kindS; rw [List.getElem?_eq_none (by omega)]
theorem PureX.mono {w : World} {pg : Program} {loose : List Str} {mean : ExcName → Option Value} {mg mb : Str → Option Value} {lim : Nat} {f : Value} {args : List Value} {h : Heap} {post post' : Heap → Value → Prop} {exc : Str → Prop}
    (x : PureX w pg loose mean mg mb lim f args h post exc) (i : ∀ h' v, post h' v → post' h' v) : PureX w pg loose mean mg mb lim f args h post' exc :=
  fun _ _ _ _ _ _ _ _ _ _ _ _ _ _ _ _ _ H e hd q q' => x H e hd (fun h' tk v k p => q h' tk v k (i _ _ p)) q'
theorem PairAt.less {h hz h' : Heap} {v a b : Value} (up : ∀ b o, h.get? b = some o → hz.get? b = some o) (x : PairAt hz h' v a b) : PairAt h h' v a b :=
  let ⟨r, e, ht, hn⟩ := x
  ⟨r, e, ht, by
    cases q : h.get? r with
    | none => rfl
    | some o => rw [up _ _ q] at hn; cases hn⟩
/-- a pair that a call made joins the ledger -/
theorem pair_news {g g' h h' : Heap} {L : Addr} {m : Str → Option Value} {news : List (Addr × Obj)} {v a b : Value} {fs : List Addr} (F : Fr g L h m) (N : News g' L h' news) (T : KtsTurn fs g g') (x : PairAt h h' v a b) :
    ∃ r o n, v = .ref r ∧ o.cls = .type "tuple" ∧ o.data = .seq [a, b].toArray n ∧ News g' L h' ((r, o) :: news) := by
  obtain ⟨r, rfl, ⟨o, ho, hc, n, hd⟩, hn⟩ := x
  refine ⟨r, o, n, rfl, hc, hd, fun p hp => ?_⟩
  rcases List.mem_cons.mp hp with rfl | hp
  · refine ⟨ho, fun q => ?_, T.none_ _ ?_⟩
    · obtain ⟨oL, es, ep, hL, _⟩ := F.ns
      rw [show r = L from q, hL] at hn; cases hn
    · cases q : g.get? r with
      | none => rfl
      | some o => rw [F.keep _ _ q] at hn; cases hn
  · exact N p hp
theorem NamesOk_str {a : Str} {i : Int} (h : PyData.strOk a = true) : shaped (.tuple [.str a, .int i]) = true := by
  simp [shaped, PyData.canLay0, PyData.canLayAll0, h, PyData.depth, PyData.depthAll]
theorem NamesOk_int {a i : Int} : shaped (.tuple [.int a, .int i]) = true := by
  simp [shaped, PyData.canLay0, PyData.canLayAll0, PyData.depth, PyData.depthAll]
theorem eqv_pair_str {a : Str} {i : Int} : PyData.eqv (.tuple [.str a, .int i]) (.tuple [.str a, .int i]) = true := by simp [PyData.eqv, PyData.eqvAll]
theorem eqv_pair_int {a i : Int} : PyData.eqv (.tuple [.int a, .int i]) (.tuple [.int a, .int i]) = true := by simp [PyData.eqv, PyData.eqvAll]

section
variable {w : World} {pg : Program} {loose : List Str} {mean : ExcName → Option Value} {mg mb : Str → Option Value} {tl : Addr} {toks : List Tk} {k : Int} {t : Tok} {h : Heap}

/-- what the ground bears behind a piece of the walk -/
structure LG (dp un : Nat) (gd : Option (List Code)) (cn : Str) (cs : Scope) (L a : Addr) (ccd : Value) (cl : List (Str × Addr)) (outer : List Env) (base h0 : Heap) (x tl : Addr) (toks : List Tk) (g : Heap) : Prop where
  KG : KeptM [193, x] (frs (envX cn cs L a ccd cl :: outer)) h0 g
  TK : ToksAt g tl toks
  B : Below (ktrTop dp un gd cn cs L a ccd cl outer) base (envX cn cs L a ccd cl :: outer) g
/-- the end of a piece of the walk -/
inductive LP (s : Shared) (G : Heap → Prop) (L' : Addr) (led : List (Addr × Obj)) (Φ : (Str → Option Value) → Prop) (f : Flow) (s' : Shared) : Prop
  | mk (h2 : Heap) (tk2 : Nat) (g2 : Heap) (m : Str → Option Value) (ef : f = .next) (es : s' = { s with heap := h2, toks := tk2 }) (hG : G g2) (N : News g2 L' h2 led) (F : Fr g2 L' h2 m) (hm : Φ m) : LP s G L' led Φ f s'
structure LN (toks : List Tk) (k : Int) (kt t : Tok) (vv : Value) (tl : Addr) (m : Str → Option Value) : Prop where
  hk : m "kind" = some (.str (kindS toks k.toNat) kt)
  hv : m "value" = some vv
  ha : m "at" = some (.int k t)
  ht : m "tokens" = some (.ref tl)
inductive LJ (G : Heap → Prop) (Φ : (Str → Option Value) → Prop) (h0 : Heap) (L' x D5 : Addr) (ox : Obj) (its : List Value) (sz : Nat) (i : Nat) (h : Heap) : Prop
  | mk (m : Str → Option Value) (g2 : Heap) (psj : Array Value) (xj : Addr) (oxj ocj : Obj) (hG : G g2) (N : News g2 L' h [(xj, oxj), (x, ox), (D5, tupObj its.toArray), (L' + 1, ocj), (193, tabObj psj)]) (F : Fr g2 L' h m) (hm : Φ m)
    (hT : TabX psj xj oxj) (hx1 : @Ne Nat xj (L' + 1)) (hx2 : @Ne Nat xj 193) (hx3 : @Ne Nat xj sz) (hx4 : xj = x ∧ oxj = ox ∨ h0.get? xj = none) (hoc' : ∃ ov, ocj.data = .cell ov) (hxd' : ∀ i n, oxj.data ≠ .seq i n) : LJ G Φ h0 L' x D5 ox its sz i h
theorem looks_spec (TK : ToksAt h tl toks) (hM : MarksOk toks) (hNm : ∀ (i : Nat) (x : Str), toks[i]? = some (Tk.name x) → PyData.strOk x = true) (hn : toks.length ≤ 1000) (h0 : 0 ≤ k) (h1 : k < 1000) {ps : Array Value} {x : Addr} {ox : Obj}
  ⦃dp un : Nat⦄ ⦃gd : Option (List Code)⦄ ⦃cn : Str⦄ ⦃cs : Scope⦄ ⦃L a : Addr⦄ ⦃ccd : Value⦄ ⦃cl : List (Str × Addr)⦄ ⦃outer : List Env⦄ ⦃A₀ : Around⦄ ⦃base h₀ : Heap⦄ ⦃m : Str → Option Value⦄ ⦃s : Shared⦄ ⦃Q E : Value → Shared → Prop⦄
   (H : Here w pg loose mean mg mb cs A₀ base h₀ outer L m s.heap) (hs : s.heap = h) (hdp : dp + 20 < 900) (hun : un < 9000)
   (N : News h₀ L s.heap [(193, tabObj ps), (x, ox)]) (C : CodeHd base 197 193) (hx9 : @Ne Nat x 193) (hxd : ∀ i n, ox.data ≠ .seq i n) (hTb : TabX ps x ox)
   (hQ : ∀ h' tk ps' x' ox', KeptM [193] (frs (envX cn cs L a ccd cl :: outer)) s.heap h' → h'.get? 193 = some (tabObj ps') → h'.get? x' = some ox' → (x' = x ∧ ox' = ox ∨ s.heap.get? x' = none) → @Ne Nat x' 193 → (∀ i n, ox'.data ≠ .seq i n) → TabX ps' x' ox' → Q (.bool true) { s with heap := h', toks := tk }) :
    wpAny (model PySem.Challenge.rw_pq0349_01.row.prog w) (ktrTop dp un gd cn cs L a ccd cl outer) (call (.ref 198) [.ref tl, .int k t]) Q E s := by
  subst hs
  have B := H.B
  have F := H.F
  have X := H.X
  have T := H.T
  have hk := H.hk
  have hP : ∀ p ∈ [((193 : Addr), tabObj ps), (x, ox)], s.heap.get? p.1 = some p.2 ∧ ∀ i n, p.2.data ≠ .seq i n := fun p hp => ⟨(N p hp).1, by
    rcases List.mem_cons.mp hp with rfl | hp
    · intro i n q; cases q
    · rw [List.mem_singleton.mp hp]; exact hxd⟩
  revert X; k_fill; intro X
  refine wpAny_call ?_
  k_dflt (refine' Mine.enterC (binds := [("tokens", .ref tl), ("at", .int k t)]) ?k1 ?k2 ?k3 ?k4 ?k5 ?kA ?kF ?kK ?k6 ?k7 ?k8 ?k9 ?kB ?kD ?kbody ?c2 ?c3 ?c4; (case kA => exact rfl); (case kF => exact rfl); (case kK => assumption); (case k1 => assumption); (case k2 => assumption); (case k3 => assumption); (case k4 => assumption); (case k5 => assumption); (case k6 => k_is); (case k7 => k_is); (case k8 => (show @LT.lt Nat _ _ 1000; (try dsimp only [ktrTop]); omega)); (case k9 => exact BindsTo.of_eq rfl); (case kB => exact rfl); (case kD => decide +kernel); (case c2 => exact rfl); (case c3 => exact rfl); (case c4 => exact rfl); k_whole)
  intro g L' h₁ tk0 cells hg hL l1 F' N' Y' B' X' T'
  k_lt l1
  k_cells Y'
  (try simp only [List.cons_append, List.nil_append] at N')
  rename Obj => oc
  rename _ = Data.cell _ => hoc
  replace F' : Fr g L' h₁ (fun y => if y = "at" then some (.int k t) else if y = "tokens" then some (.ref tl) else none) := Fr.as F' (fun y => rfl)
  have TKg := toks_hg TK hP hg
  have KG : KeptM [193, x] (frs (envX cn cs L a ccd cl :: outer)) s.heap g := KeptM.of hg
  obtain ⟨vs, hl, hvn, htk⟩ := TKg
  clear B F X T N
  (try dsimp only)
  refine gen1 ?_
  intro Qq hQq
  refine letAE ?_
  intro Aq Eq
  refine wpAny_execs_cons (wpAny_mono (Q := LP s (· = g) L' [(L' + 1, oc), (193, tabObj ps), (x, ox)] fun m => (∃ kt, m "kind" = some (.str (kindS toks k.toNat) kt)) ∧ m "at" = some (.int k t) ∧ m "tokens" = some (.ref tl)) ?S1 (fun f s' hh => ?R1) (fun _ _ e => e))
  case' S1 =>
    by_cases hlt : k.toNat < toks.length
    · obtain ⟨v, hv, a', kt, val, th, rfl, ht, hval⟩ := htk k.toNat toks[k.toNat] (by simp [hlt])
      have ek : kindS toks k.toNat = toks[k.toNat].kind := by rw [kindS, show toks[k.toNat]? = some toks[k.toNat] by simp [hlt]]
      rw [← ek] at ht
      k_steps
      all_goals first | (exfalso; omega) | (rename Fr _ _ _ _ => FF; rename News _ _ _ _ => NN; exact ⟨_, _, _, _, by trivial, rfl, rfl, NN, FF, ⟨_, rfl⟩, by first | exact rfl | assumption, by first | exact rfl | assumption⟩)
    · have ek : kindS toks k.toNat = "" := by rw [kindS, List.getElem?_eq_none (by omega)]
      rw [ek]
      k_steps
      all_goals first | (exfalso; omega) | (rename Fr _ _ _ _ => FF; rename News _ _ _ _ => NN; exact ⟨_, _, _, _, by trivial, rfl, rfl, NN, FF, ⟨_, rfl⟩, by first | exact rfl | assumption, by first | exact rfl | assumption⟩)
  obtain ⟨h2, tk2, g2, m2, rfl, rfl, eg, N2, F2, ⟨kt, hmk⟩, hma, hmt⟩ := hh
  replace eg := eg.symm
  subst eg
  clear F' N'
  (try dsimp only)
  refine wpAny_execs_cons (wpAny_mono (Q := LP s (· = g) L' [(L' + 1, oc), (193, tabObj ps), (x, ox)] fun m => (∃ vv, (∀ tk, toks[k.toNat]? = some tk → tk.Val vv) ∧ m "value" = some vv) ∧ m "kind" = some (.str (kindS toks k.toNat) kt) ∧ m "at" = some (.int k t) ∧ m "tokens" = some (.ref tl)) ?S2 (fun f s' hh => ?R2) (fun _ _ e => e))
  case' S2 =>
    by_cases hlt : k.toNat < toks.length
    · obtain ⟨v, hv, a', kt, val, th, rfl, ht, hval⟩ := htk k.toNat toks[k.toNat] (by simp [hlt])
      have htk' : toks[k.toNat]? = some toks[k.toNat] := by simp [hlt]
      k_steps
      all_goals first | (exfalso; omega) | (rename Fr _ _ _ _ => FF; rename News _ _ _ _ => NN; exact ⟨_, _, _, _, by trivial, rfl, rfl, NN, FF, ⟨_, (fun tk e => by rw [htk'] at e; cases e; exact hval), rfl⟩, hmk, hma, hmt⟩)
    · have htk' : toks[k.toNat]? = none := List.getElem?_eq_none (by omega)
      k_steps
      all_goals first | (exfalso; omega) | (rename Fr _ _ _ _ => FF; rename News _ _ _ _ => NN; exact ⟨_, _, _, _, by trivial, rfl, rfl, NN, FF, ⟨_, (fun tk e => by rw [htk'] at e; cases e), rfl⟩, hmk, hma, hmt⟩)
  obtain ⟨h3, tk3, g3, m3, rfl, rfl, eg, N3, F3, ⟨vv, hvv, hmv⟩, hmk3, hma3, hmt3⟩ := hh
  replace eg := eg.symm
  subst eg
  clear N2 F2 hmk hma hmt
  (try dsimp only)
  have TKg : ToksAt g tl toks := ⟨vs, hl, hvn, htk⟩
  clear hl hvn htk
  refine wpAny_execs_cons (wpAny_mono (Q := LP s (LG dp un gd cn cs L a ccd cl outer base s.heap x tl toks) L' [(L' + 1, oc), (193, tabObj ps), (x, ox)] (LN toks k kt t vv tl)) ?S3 (fun f s' hh => ?R3) (fun _ _ e => e))
  case' S3 =>
    k_steps
    refine kind_at_spec (TKg.keeps F3.keep) hn h0 ⟨B', F3, H.XB, H.TB, rfl⟩ rfl (by show _ + 1 < 900; dsimp only [ktrTop]; omega) fun h4 tk4 v k4 hv => ?_
    obtain ⟨t4, rfl⟩ := hv
    have F4 := F3.keeps k4.all
    have N4 := news_kept N3 k4 (fun _ _ q => nomatch q)
    clear F3 N3 k4
    k_steps
    · rename (_ != _) = true => hb
      exact absurd hb (by simp)
    have X4 := X'.keeps F4.keep
    refine heard_spec (exc := fun y => closeAt toks k.toNat = none ∧ y = "a bracket is not closed") ⟨_, _, X4 156 _ (by k_is), rfl⟩ (fun h' up => close_at_spec ((TKg.keeps F4.keep).keeps up) hn h0 (by omega)) ⟨B', F4, H.XB, H.TB, rfl⟩ rfl (by show _ + 8 < 900; dsimp only [ktrTop]; omega) fun h5 tk5 v5 k5 hv => ?_
    obtain ⟨g5, T5, F5, N5, B5⟩ := calm_back B' F4 N4 rfl k5
    have KG5 := KG.turn T5
    have TK5 := TKg.up (fun b o e => T5.up e)
    have X5 := H.XB.keeps B5.stays
    have TT5 := H.TB.keeps B5.stays
    clear F4 N4 X4 X' T' B' k5 KG TKg T5
    (try dsimp only)
    k_steps
    refine closing_spec (TK5.keeps F5.keep) hM hn h0 (by omega) ⟨B5, F5, H.XB, H.TB, rfl⟩ rfl (by show _ + 6 < 900; dsimp only [ktrTop]; omega) fun h6 tk6 v6 k6 hv6 => ?_
    have F6 := F5.keeps k6.all
    have N6 := news_kept N5 k6 (fun _ _ q => nomatch q)
    clear F5 N5 k6
    (try dsimp only)
    cases hc : closeAt toks k.toNat <;> simp only [hc] at hv hv6
    · obtain ⟨t6, rfl⟩ := hv6
      obtain ⟨_, _, hz, _⟩ | ⟨_, t5, ⟨_, rfl⟩, rfl⟩ := hv
      · cases hz
      k_steps
      (rename Fr _ _ _ _ => FF; rename News _ _ _ _ => NN; exact ⟨_, _, _, _, by trivial, rfl, ⟨KG5, TK5, B5⟩, NN, FF, hmk3, hmv, hma3, hmt3⟩)
    · obtain ⟨t6, rfl⟩ := hv6
      obtain ⟨_, t5, hz, rfl⟩ | ⟨_, _, ⟨hz, _⟩, _⟩ := hv
      rotate_left
      · cases hz
      cases hz
      k_steps
      all_goals first | (exfalso; omega) | (rename Fr _ _ _ _ => FF; rename News _ _ _ _ => NN; exact ⟨_, _, _, _, by trivial, rfl, ⟨KG5, TK5, B5⟩, NN, FF, hmk3, hmv, hma3, hmt3⟩)
  obtain ⟨h4, tk4, g4, m4, rfl, rfl, ⟨KG4, TK4, B4⟩, N4, F4, ⟨hmk4, hmv4, hma4, hmt4⟩⟩ := hh
  clear F3 N3 KG TKg X' T' B' hmk3 hmv hma3 hmt3
  (try dsimp only)
  have X4 := H.XB.keeps B4.stays
  have TT4 := H.TB.keeps B4.stays
  k_steps
  rename Fr _ _ _ _ => F5
  rename News _ _ _ _ => N5
  have hLI := F5.ns.lt
  have hDI := Heap.lt_size (N5.get (List.Mem.head _))
  have hxI := Heap.lt_size (N5.get (List.Mem.tail _ (List.Mem.tail _ (List.Mem.tail _ (List.Mem.head _)))))
  have hcI := Heap.lt_size (N5.get (List.Mem.tail _ (List.Mem.head _)))
  rename_i D5 h5 l5
  have h9I : @LT.lt Nat _ 193 h5.objs.size := Nat.lt_trans (by omega) hLI
  generalize tk4 = ta at N5
  generalize hv1 : ta + 1 = tb at N5
  generalize hv2 : tb + 1 = tc at N5
  generalize hv3 : tc + 1 = td at N5
  clear hv1 hv2 hv3
  have hit : ∀ (i : Nat) v, ([.str "(" ta, .str ")" tb, .str "," tc, .str "=" td] : List Value)[i]? = some v → ∃ mk tm, v = .str mk tm ∧ mk.length ≤ 10 := by
    intro i v e
    have hm := List.mem_of_getElem? e
    simp only [List.mem_cons, List.not_mem_nil, or_false] at hm
    rcases hm with rfl | rfl | rfl | rfl <;> exact ⟨_, _, rfl, by decide⟩
  refine loop_tuple (items := [.str "(" ta, .str ")" tb, .str "," tc, .str "=" td]) (LJ (LG dp un gd cn cs L a ccd cl outer base s.heap x tl toks) (LN toks k kt t vv tl) s.heap L' x D5 ox [.str "(" ta, .str ")" tb, .str "," tc, .str "=" td] h5.objs.size) (N5.isTup (List.Mem.head _)) rfl ?j0 ?stable ?turn ?done ?ht
  case ht => intro _ _; rfl
  case j0 =>
    exact ⟨_, g4, ps, x, ox, oc, ⟨KG4, TK4, B4⟩, news_sub N5 (sub_cons mm3 (sub_cons mm3 (sub_cons mm0 (sub_cons mm1 (sub_cons mm2 sub_nil))))), F5, ⟨hmk4, hmv4, hma4, hmt4⟩, hTb, by omega, by omega, Nat.ne_of_lt hxI, .inl ⟨rfl, rfl⟩, ⟨_, hoc⟩, hxd⟩
  case stable =>
    rintro i h h' ⟨m, g2, psj, xj, oxj, ocj, hG, N, F, hm, hT, hx1, hx2, hx3, hx4, hoc', hxd'⟩ kp
    exact ⟨m, g2, psj, xj, oxj, ocj, hG, news_stable N kp (all_cons hx3 (all_cons (Nat.ne_of_lt hxI) (all_cons (Nat.ne_of_lt hDI) (all_cons (Nat.ne_of_lt hcI) (all_cons (Nat.ne_of_lt h9I) all_nil))))), fr_stable F hLI kp, hm, hT, hx1, hx2, hx3, hx4, hoc', hxd'⟩
  case turn =>
    intro i v h tk I oI hv HJ hIe hIo hIc hltup
    refine genT ?_
    intro Ra hRa
    refine byG fun GG kG => ?_
    obtain ⟨m, g2, psj, xj, oxj, ocj, ⟨KG, TK, B⟩, N, F, ⟨hmk, hmv, hma, hmt⟩, hT, hx1, hx2, hx3, hx4, ⟨ov, hoc'⟩, hxd'⟩ := HJ
    obtain ⟨mk, tm, rfl, hmkl⟩ := hit i v hv
    refine kG ?_
    clear kG
    clear hit
    have NI := news_more F (by rw [hIe]; exact hLI) hIo N
    have X7 := H.XB.keeps B.stays
    have TT7 := H.TB.keeps B.stays
    have hDo := N.get (List.Mem.tail _ (List.Mem.tail _ (List.Mem.head _)))
    have hI1 : @Ne Nat I (L' + 1) := by rw [hIe]; exact Nat.ne_of_gt hcI
    clear hv N X4 TT4 KG4 TK4 B4 N5 F5 hmk4 hmv4 hma4 hmt4
    dsimp only at hIe ⊢
    k_dflt (refine' wpAny_assign_Name (storeX_C F NI rfl ?U hoc' ?_); (case U => k_updF))
    intro h6 oc6 F6 N6 hoc6
    (try dsimp only at N6)
    clear NI F
    refine wpAny_execs_cons (wpAny_mono (Q := LP s (· = g2) L' [(I, oI), (xj, oxj), (x, ox), (D5, tupObj [.str "(" ta, .str ")" tb, .str "," tc, .str "=" td].toArray), (L' + 1, oc6), (193, tabObj psj)] fun m => m "is_there" = some (.bool (isOp toks k.toNat mk)) ∧ LN toks k kt t vv tl m) ?S5 (fun f s' hh => ?R5) (fun _ _ e => e))
    case' S5 =>
      cases hop : (kindS toks k.toNat == "OP")
      · rw [op_false hop]
        k_steps
        · exfalso
          rename (_ == _) = true => q
          rw [hop] at q; cases q
        · rename Fr _ _ _ _ => F8
          simp only [hop] at F8
          rename News _ _ _ _ => N8
          exact ⟨_, _, _, _, by trivial, rfl, rfl, N8, F8, rfl, hmk, hmv, hma, hmt⟩
      · obtain ⟨m7, tv7, rfl, e7⟩ := op_true hvv hop
        rw [e7]
        k_steps
        · rename Fr _ _ _ _ => F8
          rename News _ _ _ _ => N8
          exact ⟨_, _, _, _, by trivial, rfl, rfl, N8, F8, rfl, hmk, hmv, hma, hmt⟩
        · exfalso
          rename (_ == _) = false => q
          rw [hop] at q; cases q
    obtain ⟨h7, tk7, g7, m7, rfl, rfl, eg, N7, F7, hmi7, ⟨hmk7, hmv7, hma7, hmt7⟩⟩ := hh
    replace eg := eg.symm
    subst eg
    clear N6 F6 hmk hmv hma hmt
    (try dsimp only)
    rcases hT with rfl | ⟨rfl, vsx, tx, hxf, hxl⟩ <;> cases hb : isOp toks k.toNat mk <;> simp only [hb] at hmi7
    all_goals k_steps
    all_goals refine is_op_spec (TK.keeps F7.keep) hn h0 ⟨B, F7, H.XB, H.TB, rfl⟩ rfl (by show _ + 1 < 900; dsimp only [ktrTop]; omega) fun h8 tk8 v8 k8 hv8 => ?_
    all_goals
      subst hv8
      rw [hb]
      have F8 := F7.keeps k8.all
      have N8 := news_kept N7 k8 (fun _ _ q => nomatch q)
      clear F7 N7 k8
      (try dsimp only)
      k_steps
      rename Fr _ _ _ _ => F9
      rename News _ _ _ _ => N9
    all_goals refine heard_spec (post := fun _ v => isOp toks k.toNat mk = true ∧ ∃ tk, v = .int (k + 1) tk) (exc := fun y => isOp toks k.toNat mk = false ∧ y = "a mark is missing: " ++ mk) ⟨_, _, N9.get (List.Mem.head _), rfl⟩ (fun hz up => lam_spec (oc := oc6) ((TK.keeps F9.keep).keeps up) hn h0 (by omega) hmkl (up _ _ (N9.get (List.Mem.head _)))
        (by first | exact ⟨_, _, _, _, rfl, up _ _ (N9.get (List.Mem.tail _ (List.Mem.head _))), by assumption, by assumption⟩ | exact ⟨_, _, _, _, rfl, up _ _ (N9.get (List.Mem.tail _ (List.Mem.tail _ (List.Mem.head _)))), by assumption, by assumption⟩) (up _ _ (N9.get (by k_mem))) hoc6) ⟨B, F9, H.XB, H.TB, rfl⟩ rfl (by show _ + 9 < 900; dsimp only [ktrTop]; omega) fun h10 tk10 v10 k10 hv10 => ?_
    all_goals
      obtain ⟨g11, T11, F11, N11, B11⟩ := calm_back B F9 N9 rfl k10
      have KG11 := KG.turn T11
      have TK11 := TK.up (fun b o e => T11.up e)
      have X11 := H.XB.keeps B11.stays
      have TT11 := H.TB.keeps B11.stays
      clear F9 N9 X7 TT7 B k10 KG TK T11
      (try dsimp only)
      rcases hv10 with ⟨hz, t10, rfl⟩ | ⟨_, t10, ⟨hz, rfl⟩, rfl⟩
    all_goals first | (exfalso; rw [hb] at hz; cases hz; done) | skip
    all_goals
      clear hz
      k_steps
    all_goals first
      | (exfalso; omega)
      | (exfalso; rename (_ != _) = true => q; exact absurd q (by simp))
      | (subst hRa; exact ⟨_, _, rfl, ⟨_, _, _, _, _, oc6, ⟨KG11, TK11, B11⟩, tab_nest N11, F11, ⟨by first | exact rfl | assumption, by first | exact rfl | assumption, by first | exact rfl | assumption, by first | exact rfl | assumption⟩, .inr ⟨rfl, _, _, by assumption, by assumption⟩, (by omega), (by omega), (by rw [← hIe]; omega), .inr (get_none_of_le (by omega)), ⟨_, hoc6⟩, fields_not_seq (by assumption)⟩, fp_two hIo hDo N11 (by k_mem) (by k_mem)⟩)
      | (subst hRa; exact ⟨_, _, rfl, ⟨_, _, _, _, _, oc6, ⟨KG11, TK11, B11⟩, news_sub N11 tl2, F11, ⟨by first | exact rfl | assumption, by first | exact rfl | assumption, by first | exact rfl | assumption, by first | exact rfl | assumption⟩, .inr ⟨rfl, vsx, tx, hxf, hxl⟩, hx1, hx2, hx3, hx4, ⟨_, hoc6⟩, hxd'⟩, fp_two hIo hDo N11 (by k_mem) (by k_mem)⟩)
  case done =>
    rintro h tk ⟨m, g2, psj, xj, oxj, ocj, ⟨KG, TK, B⟩, N, F, ⟨hmk, hmv, hma, hmt⟩, hT, hx1, hx2, hx3, hx4, hoc', hxd'⟩
    replace N := news_sub N (n₂ := [(xj, oxj), (x, ox), (193, tabObj psj)]) (sub_cons mm0 (sub_cons mm1 (sub_cons mm4 sub_nil)))
    have X7 := H.XB.keeps B.stays
    have TT7 := H.TB.keeps B.stays
    clear X4 TT4 KG4 TK4 B4 N5 F5 hit
    (try dsimp only)
    refine wpAny_execs_cons (wpAny_mono (Q := LP s (LG dp un gd cn cs L a ccd cl outer base s.heap x tl toks) L' [(xj, oxj), (x, ox), (193, tabObj psj)] (LN toks k kt t vv tl)) ?S8 (fun f s' hh => ?R8) (fun _ _ e => e))
    case' S8 =>
      k_steps
      have X8 := X7.keeps F.keep
      refine heard_spec (post := fun h' v => ∃ y ty tk, nameOf toks k.toNat = some y ∧ PairAt h h' v (.str y ty) (.int (k + 1) tk)) (exc := fun y => nameOf toks k.toNat = none ∧ y = "a name is missing") ⟨_, _, X8 135 _ (by k_is), rfl⟩
        (fun hz up => PureX.mono (need_name_spec ((TK.keeps F.keep).keeps up) hn h0 (by omega)) fun h' v ⟨y, ty, tk, e1, e2⟩ => ⟨y, ty, tk, e1, e2.less up⟩) ⟨B, F, H.XB, H.TB, rfl⟩ rfl (by show _ + 8 < 900; dsimp only [ktrTop]; omega) fun h10 tk10 v10 k10 hv10 => ?_
      obtain ⟨g11, T11, F11, N11, B11⟩ := calm_back B F N rfl k10
      have KG11 := KG.turn T11
      have TK11 := TK.up (fun b o e => T11.up e)
      have X11 := H.XB.keeps B11.stays
      have TT11 := H.TB.keeps B11.stays
      (try dsimp only)
      rcases hv10 with ⟨y, ty, tky, hy, hpr⟩ | ⟨_, t10, ⟨hy, rfl⟩, rfl⟩
      · obtain ⟨r, ro, nr, rfl, hrc, hrd, N12⟩ := pair_news F N11 T11 hpr
        obtain ⟨ek, tv, rfl⟩ := kind_name hvv hy
        rw [ek] at hmk
        clear F N11 X7 X8 TT7 B k10 KG TK T11 N hpr
        k_steps
        rename News _ _ _ _ => N13
        rename Fr _ _ _ _ => F13
        refine compareNe_shaped (.tuple (N13.get (List.Mem.tail _ (List.Mem.head _))) hrc hrd (.cons (.str _ _) (.cons (.int _ _) .nil))) (.tuple (N13.get (List.Mem.head _)) rfl rfl (.cons (.str _ _) (.cons (.int _ _) .nil))) ?sh ?sh (by show un + _ + 64 < 9900; omega) ?_
        case sh => first | exact NamesOk_int | exact NamesOk_str (hNm k.toNat y (by unfold nameOf at hy; split at hy; (rename_i hz; cases hy; exact hz); cases hy))
        rw [eqv_pair_str]
        k_steps
        rename Fr _ _ _ _ => F14
        exact ⟨_, _, _, _, by trivial, rfl, ⟨KG11, TK11, B11⟩, news_sub N13 tl2, F14, by rw [ek]; exact hmk, hmv, hma, hmt⟩
      · have ek := kind_no_name hy
        clear F X7 X8 TT7 B k10 KG TK T11 N
        k_steps
        all_goals first
          | (exfalso; rename (_ == _) = true => q; rw [ek] at q; cases q)
          | (rename Fr _ _ _ _ => FF; rename News _ _ _ _ => NN; exact ⟨_, _, _, _, by trivial, rfl, ⟨KG11, TK11, B11⟩, NN, FF, hmk, hmv, hma, hmt⟩)
    clear F N X7 TT7 B KG TK
    clear hmk hmv hma hmt
    obtain ⟨h, tk, g2, m, rfl, rfl, ⟨KG, TK, B⟩, N, F, ⟨hmk, hmv, hma, hmt⟩⟩ := hh
    have X7 := H.XB.keeps B.stays
    have TT7 := H.TB.keeps B.stays
    (try dsimp only)
    refine wpAny_execs_cons (wpAny_mono (Q := LP s (LG dp un gd cn cs L a ccd cl outer base s.heap x tl toks) L' [(xj, oxj), (x, ox), (193, tabObj psj)] (LN toks k kt t vv tl)) ?S9 (fun f s' hh => ?R9) (fun _ _ e => e))
    case' S9 =>
      k_steps
      have X8 := X7.keeps F.keep
      refine heard_spec (post := fun h' v => ∃ y ty tk, intOf toks k.toNat = some y ∧ PairAt h h' v (.int y ty) (.int (k + 1) tk)) (exc := fun y => intOf toks k.toNat = none ∧ y = "a whole number is missing") ⟨_, _, X8 142 _ (by k_is), rfl⟩
        (fun hz up => PureX.mono (need_int_spec ((TK.keeps F.keep).keeps up) hn h0 (by omega)) fun h' v ⟨y, ty, tk, e1, e2⟩ => ⟨y, ty, tk, e1, e2.less up⟩) ⟨B, F, H.XB, H.TB, rfl⟩ rfl (by show _ + 8 < 900; dsimp only [ktrTop]; omega) fun h10 tk10 v10 k10 hv10 => ?_
      obtain ⟨g11, T11, F11, N11, B11⟩ := calm_back B F N rfl k10
      have KG11 := KG.turn T11
      have TK11 := TK.up (fun b o e => T11.up e)
      have X11 := H.XB.keeps B11.stays
      have TT11 := H.TB.keeps B11.stays
      (try dsimp only)
      rcases hv10 with ⟨y, ty, tky, hy, hpr⟩ | ⟨_, t10, ⟨hy, rfl⟩, rfl⟩
      · obtain ⟨r, ro, nr, rfl, hrc, hrd, N12⟩ := pair_news F N11 T11 hpr
        obtain ⟨ek, tv, rfl⟩ := kind_int hvv hy
        rw [ek] at hmk
        clear F N11 X7 X8 TT7 B k10 KG TK T11 N hpr
        k_steps
        rename News _ _ _ _ => N13
        rename Fr _ _ _ _ => F13
        refine compareNe_shaped (.tuple (N13.get (List.Mem.tail _ (List.Mem.head _))) hrc hrd (.cons (.int _ _) (.cons (.int _ _) .nil))) (.tuple (N13.get (List.Mem.head _)) rfl rfl (.cons (.int _ _) (.cons (.int _ _) .nil))) ?sh ?sh (by show un + _ + 64 < 9900; omega) ?_
        case sh => first | exact NamesOk_int | exact NamesOk_str (hNm k.toNat y (by unfold nameOf at hy; split at hy; (rename_i hz; cases hy; exact hz); cases hy))
        rw [eqv_pair_int]
        k_steps
        rename Fr _ _ _ _ => F14
        exact ⟨_, _, _, _, by trivial, rfl, ⟨KG11, TK11, B11⟩, news_sub N13 tl2, F14, by rw [ek]; exact hmk, hmv, hma, hmt⟩
      · have ek := kind_no_int hy
        clear F X7 X8 TT7 B k10 KG TK T11 N
        k_steps
        all_goals first
          | (exfalso; rename (_ == _) = true => q; rw [ek] at q; cases q)
          | (rename Fr _ _ _ _ => FF; rename News _ _ _ _ => NN; exact ⟨_, _, _, _, by trivial, rfl, ⟨KG11, TK11, B11⟩, NN, FF, hmk, hmv, hma, hmt⟩)
    clear F N X7 TT7 B KG TK
    clear hmk hmv hma hmt
    obtain ⟨h, tk, g2, m, rfl, rfl, ⟨KG, TK, B⟩, N, F, ⟨hmk, hmv, hma, hmt⟩⟩ := hh
    have X7 := H.XB.keeps B.stays
    have TT7 := H.TB.keeps B.stays
    (try dsimp only)
    k_steps
    have X8 := X7.keeps F.keep
    refine heard_spec (post := fun h' v => ¬ k.toNat < toks.length ∧ v = .none) (exc := fun y => k.toNat < toks.length ∧ y = "more than a statement") ⟨_, _, X8 149 _ (by k_is), rfl⟩
      (fun hz up => need_end_spec ((TK.keeps F.keep).keeps up) hn h0 (by omega)) ⟨B, F, H.XB, H.TB, rfl⟩ rfl (by show _ + 8 < 900; dsimp only [ktrTop]; omega) fun h10 tk10 v10 k10 hv10 => ?_
    obtain ⟨g11, T11, F11, N11, B11⟩ := calm_back B F N rfl k10
    have KG11 := KG.turn T11
    have X11 := H.XB.keeps B11.stays
    have TT11 := H.TB.keeps B11.stays
    (try dsimp only)
    clear F X7 X8 TT7 B k10 KG TK T11 N
    rcases hv10 with ⟨hy, rfl⟩ | ⟨_, t10, ⟨hy, rfl⟩, rfl⟩
    · rw [kind_none hy] at hmk
      k_steps
      subst hQq
      exact hQ _ _ psj xj oxj (KeptM.less (KG11.fr F11) (hP (x, ox) (List.Mem.tail _ (List.Mem.head _))).1 (N11.get (List.Mem.tail _ (List.Mem.head _)))) (N11.get (List.Mem.tail _ (List.Mem.tail _ (List.Mem.head _)))) (N11.get (List.Mem.head _)) hx4 hx2 hxd' hT
    · have ek := kind_some hy
      k_steps
      · rw [beq_self_eq_true]
        subst hQq
        exact hQ _ _ psj xj oxj (KeptM.less (KG11.fr F11) (hP (x, ox) (List.Mem.tail _ (List.Mem.head _))).1 (N11.get (List.Mem.tail _ (List.Mem.head _)))) (N11.get (List.Mem.tail _ (List.Mem.tail _ (List.Mem.head _)))) (N11.get (List.Mem.head _)) hx4 hx2 hxd' hT
      · exfalso
        rename (_ != _) = false => q
        rw [ek] at q; cases q
end
end Mine
end
section
open PySem PySem.W PyProof.Rows PySem.Calls PySem.Spec
set_option Elab.async false
set_option maxRecDepth 100000
set_option maxHeartbeats 4000000
local macro_rules | `(tactic| walk_at "subscriptTail") => `(tactic| (k_here; (with_reducible show wpAny _ _ (subscriptTail _ _ (Value.ref _) (Value.int _ _)) _ _ _); (refine' item_listL ?k1 ?k2 ?k3 ?k4 ?_; (case k1 => is_list); (case k4 => with_reducible assumption); (case k2 => omega); (case k3 => omega))))

namespace Mine
section
variable {w : World} {pg : Program} {loose : List Str} {mean : ExcName → Option Value} {mg mb : Str → Option Value} {h : Heap}

theorem marks_spec : Pure w pg loose mean mg mb 1 (.ref 163) [] h (fun h' v => ∃ l t0 t1 t2 t3 t4 t5 t6 t7, v = .ref l ∧ h'.IsList l ([.str "(" t0, .str ")" t1, .str "(" t2, .str ")" t3, .str "," t4, .str "=" t5, .str "*" t6, .str "//" t7] : List Value).toArray) := by
  intro dp un gd cn cs L a ccd cl outer A₀ base h₀ m s Q E H hs hdp hq
  subst hs
  have B := H.B
  have F := H.F
  have X := H.X
  have T := H.T
  have hk := H.hk
  have N : News h₀ L s.heap [] := News.nil
  revert X; k_fill; intro X
  refine wpAny_call ?_
  k_dflt (refine' Mine.enterP [] ?k1 ?k2 ?k3 ?k4 ?k5 ?kA ?kF ?kK ?k6 ?k7 ?k8 ?k9 ?kB ?kbody ?c2 ?c3 ?c4 ?c5; (case kA => exact rfl); (case kF => exact rfl); (case kK => assumption); (case k1 => assumption); (case k2 => assumption); (case k3 => assumption); (case k4 => assumption); (case k5 => assumption); (case k6 => k_is); (case k7 => k_is); (case k8 => (show @LT.lt Nat _ _ 1000; (try dsimp only [ktrTop]); omega)); (case k9 => exact BindsTo.of_eq rfl); (case c5 => decide); (case kB => exact locs rfl); (case c2 => exact rfl); (case c3 => exact rfl); (case c4 => exact rfl); k_whole)
  intro g L' h₁ tk0 hg hL F' N' B' X' T'
  simp only [Mine.bindM] at F'
  clear B F X T N
  (try dsimp only)
  k_steps
  rename Fr _ _ _ _ => F2
  rename News _ _ _ _ => N2
  exact hq _ _ _ (kept_nil hg F2) ⟨_, _, _, _, _, _, _, _, _, rfl, N2.isList (List.Mem.head _)⟩

def Good (tk : Tk) : Prop := (∀ m, tk = .op m → m ∈ marks) ∧ (∀ x, tk = .name x → PyData.strOk x = true)

theorem mark_item {t0 t1 t2 t3 t4 t5 t6 t7 : Tok} {r : Int} (h0 : 0 ≤ r) (h1 : r < 8) : ∃ m t, ([.str "(" t0, .str ")" t1, .str "(" t2, .str ")" t3, .str "," t4, .str "=" t5, .str "*" t6, .str "//" t7] : List Value)[r.toNat]? = some (.str m t) ∧ m ∈ marks := by
  have key : ∀ v ∈ ([.str "(" t0, .str ")" t1, .str "(" t2, .str ")" t3, .str "," t4, .str "=" t5, .str "*" t6, .str "//" t7] : List Value), ∃ m t, v = .str m t ∧ m ∈ marks :=
    all_cons ⟨_, _, rfl, by decide⟩ (all_cons ⟨_, _, rfl, by decide⟩ (all_cons ⟨_, _, rfl, by decide⟩ (all_cons ⟨_, _, rfl, by decide⟩ (all_cons ⟨_, _, rfl, by decide⟩ (all_cons ⟨_, _, rfl, by decide⟩ (all_cons ⟨_, _, rfl, by decide⟩ (all_cons ⟨_, _, rfl, by decide⟩ all_nil)))))))
  obtain ⟨v, hv⟩ : ∃ v, ([.str "(" t0, .str ")" t1, .str "(" t2, .str ")" t3, .str "," t4, .str "=" t5, .str "*" t6, .str "//" t7] : List Value)[r.toNat]? = some v := ⟨_, List.getElem?_eq_getElem (show r.toNat < 8 by omega)⟩
  obtain ⟨m, t, rfl, hm⟩ := key v (List.mem_of_getElem? hv)
  exact ⟨m, t, hv, hm⟩

theorem name_okN : ∀ n : Nat, n < 10 → PyData.strOk (("AB" : Str) ++ Str.ofString (toString (n : Int))) = true := by decide +kernel
theorem name_ok {i : Int} (h0 : 0 ≤ i) (h1 : i < 10) : PyData.strOk (("AB" : Str) ++ Str.ofString (toString i)) = true := by
  obtain ⟨n, rfl⟩ := Int.eq_ofNat_of_zero_le h0
  exact name_okN n (by omega)
theorem token_kept {s h' g : Heap} {L p q : Addr} {o' oq : Obj} {m : Str → Option Value} {news : List (Addr × Obj)} (hg : ∀ b o, s.get? b = some o → b ∉ [(p, o'), (q, oq)].map (·.1) → g.get? b = some o) (hs0 : ∀ x ∈ [(p, o'), (q, oq)], s.get? x.1 = some x.2)
    (F : Fr g L h' m) (N : News g L h' news) (hq : (q, oq) ∈ news) : Kept [p] s h' := kept_end hg hs0 F fun x hx hn => by
  simp only [List.mem_cons, List.not_mem_nil, or_false] at hx hn
  rcases hx with rfl | rfl
  · exact absurd rfl hn
  · exact N.get hq
theorem token_new {s h' g : Heap} {L p q r : Addr} {o o' oq : Obj} {news : List (Addr × Obj)} (hg : ∀ b o, s.get? b = some o → b ∉ [(p, o'), (q, oq)].map (·.1) → g.get? b = some o) (N : News g L h' news) (hr : (r, o) ∈ news) (hne : (@Ne Nat r p) ∧ @Ne Nat r q) : s.get? r = none := by
  cases z : s.get? r with
  | none => rfl
  | some o2 =>
    have := (N _ hr).2.2
    rw [hg _ _ z (by
      simp only [List.map_cons, List.map_nil, List.mem_cons, List.not_mem_nil, or_false]
      rintro (e | e)
      · exact hne.1 e
      · exact hne.2 e)] at this
    cases this

theorem token_spec ⦃dp un : Nat⦄ ⦃gd : Option (List Code)⦄ ⦃cn : Str⦄ ⦃cs : Scope⦄ ⦃L a : Addr⦄ ⦃ccd : Value⦄ ⦃cl : List (Str × Addr)⦄ ⦃outer : List Env⦄ ⦃A₀ : Around⦄ ⦃base h₀ : Heap⦄ ⦃m : Str → Option Value⦄ ⦃s : Shared⦄ ⦃Q E : Value → Shared → Prop⦄
    {p q : Addr} {vs : List Value} {ns : List Int} {k i : Int} {t ti : Tok} {n nq : Nat}
    (H : Here w pg loose mean mg mb cs A₀ base h₀ outer L m s.heap) (hdp : dp + 5 < 900)
    (N : News h₀ L s.heap [(p, listOf #[.ref q, .int k t] n), (q, listOf vs.toArray nq)]) (hpq : @Ne Nat q p) (hi : IntsAre vs ns) (hl : vs.length ≤ 60) (hk0 : 0 ≤ k) (hk1 : k < 1000) (hi0 : 0 ≤ i) (hi1 : i < 10)
    (h : ∀ h' tk r o tkn kt val th n₁ t' n', Kept [p] s.heap h' → h'.get? p = some (listOf #[.ref q, .int (k + 1) t'] n') → s.heap.get? r = none → h'.get? r = some o → o.cls = .type "tuple" → o.data = .seq [.str tkn.kind kt, val, th].toArray n₁ → tkn.Val val → Good tkn → Q (.ref r) { s with heap := h', toks := tk }) :
    wpAny (model PySem.Challenge.rw_pq0349_01.row.prog w) (ktrTop dp un gd cn cs L a ccd cl outer) (call (.ref 177) [.ref p, .int i ti]) Q E s := by
  have B := H.B
  have F := H.F
  have X := H.X
  have T := H.T
  have hk := H.hk
  revert X; k_fill; intro X
  refine wpAny_call ?_
  k_dflt (refine' Mine.enterP [("at", .int i ti), ("purse", .ref p)] ?k1 ?k2 ?k3 ?k4 ?k5 ?kA ?kF ?kK ?k6 ?k7 ?k8 ?k9 ?kB ?kbody ?c2 ?c3 ?c4 ?c5; (case kA => exact rfl); (case kF => exact rfl); (case kK => assumption); (case k1 => assumption); (case k2 => assumption); (case k3 => assumption); (case k4 => assumption); (case k5 => assumption); (case k6 => k_is); (case k7 => k_is); (case k8 => (show @LT.lt Nat _ _ 1000; (try dsimp only [ktrTop]); omega)); (case k9 => exact BindsTo.of_eq rfl); (case c5 => decide); (case kB => exact locs rfl); (case c2 => exact rfl); (case c3 => exact rfl); (case c4 => exact rfl); k_whole)
  intro g L' h₁ tk0 hg hL F' N' B' X' T'
  simp only [Mine.bindM] at F'
  (try dsimp only)
  have hs0 : ∀ x ∈ [(p, listOf #[.ref q, .int k t] n), (q, listOf vs.toArray nq)], s.heap.get? x.1 = some x.2 := fun x hx => (N x hx).1
  clear B F X T N
  refine gen1 ?_
  intro Qq hQq
  refine letAE ?_
  intro Aq Eq
  k_steps
  refine pick_spec B' F' X' T' rfl (by show dp + 1 < 900; omega) N' hpq hi hl hk0 hk1 (by decide) (by decide) fun h2 tk2 r tr t' n' hr0 hr1 k2 hp2 => ?_
  have F2 := fr_kept F' k2 (all_cons (N' _ mm0).2.symm all_nil)
  have N2 : News g L' h2 [(p, listOf #[.ref q, .int (k + 1) t'] n'), (q, listOf vs.toArray nq)] := all_cons ⟨hp2, (N' _ mm0).2⟩ (all_cons ⟨k2 _ _ (N' _ mm1).1 (fun z => hpq (List.mem_singleton.mp z)), (N' _ mm1).2⟩ all_nil)
  clear F' N' k2 hp2
  dsimp only
  k_steps
  · refine marks_spec ⟨B', by assumption, H.XB, H.TB, rfl⟩ rfl (by show _ + 1 < 900; dsimp only [ktrTop]; omega) fun h3 tk3 v3 k3 hv3 => ?_
    rename Fr _ _ _ _ => F3
    rename News _ _ _ _ => N3
    have F4 := F3.keeps k3.all
    have N4 := news_kept N3 k3 (fun _ _ q => nomatch q)
    clear F3 N3 k3
    obtain ⟨l, t0, t1, t2, t3, t4, t5, t6, t7, rfl, hml⟩ := hv3
    obtain ⟨mk, tmk, hit, hmk⟩ := mark_item (t0 := t0) (t1 := t1) (t2 := t2) (t3 := t3) (t4 := t4) (t5 := t5) (t6 := t6) (t7 := t7) hr0 (by omega)
    dsimp only
    k_steps
    rename Fr _ _ _ _ => F5
    rename News _ _ _ _ => N5
    subst hQq
    refine h _ _ _ _ (.op mk) _ _ _ _ _ _ (token_kept hg hs0 F5 N5 (by k_mem)) (N5.get (by k_mem)) (token_new hg N5 (List.Mem.head _) ?_) (N5.get (List.Mem.head _)) rfl rfl ⟨_, rfl⟩ ⟨(by rintro _ ⟨⟩; exact hmk), (by rintro _ ⟨⟩)⟩
    refine ⟨Nat.ne_of_gt (by omega), Nat.ne_of_gt (by omega)⟩
  all_goals
    rename News _ _ _ _ => N5
    rename Fr _ _ _ _ => F5
    subst hQq
  · exact h _ _ _ _ (.name _) _ _ _ _ _ _ (token_kept hg hs0 F5 N5 (by k_mem)) (N5.get (by k_mem)) (token_new (o := tupObj #[.str "NAME" _, .str _ _, .int _ _]) hg N5 (by k_mem) ⟨Nat.ne_of_gt (by omega), Nat.ne_of_gt (by omega)⟩) (N5.get (o := tupObj #[.str "NAME" _, .str _ _, .int _ _]) (by k_mem)) rfl rfl ⟨_, rfl⟩ ⟨(by rintro _ ⟨⟩), (by rintro _ ⟨⟩; exact name_ok hi0 hi1)⟩
  · exact h _ _ _ _ (.int _) _ _ _ _ _ _ (token_kept hg hs0 F5 N5 (by k_mem)) (N5.get (by k_mem)) (token_new (o := tupObj #[.str "INT" _, .int _ _, .int _ _]) hg N5 (by k_mem) ⟨Nat.ne_of_gt (by omega), Nat.ne_of_gt (by omega)⟩) (N5.get (o := tupObj #[.str "INT" _, .int _ _, .int _ _]) (by k_mem)) rfl rfl ⟨_, rfl⟩ ⟨(by rintro _ ⟨⟩), (by rintro _ ⟨⟩)⟩
  · exact h _ _ _ _ .real _ _ _ _ _ _ (token_kept hg hs0 F5 N5 (by k_mem)) (N5.get (by k_mem)) (token_new (o := tupObj #[.str "REAL" _, .ref _, .int _ _]) hg N5 (by k_mem) ⟨Nat.ne_of_gt (by omega), Nat.ne_of_gt (by omega)⟩) (N5.get (o := tupObj #[.str "REAL" _, .ref _, .int _ _]) (by k_mem)) rfl rfl trivial ⟨(by rintro _ ⟨⟩), (by rintro _ ⟨⟩)⟩
  · exact h _ _ _ _ .char _ _ _ _ _ _ (token_kept hg hs0 F5 N5 (by k_mem)) (N5.get (by k_mem)) (token_new (o := tupObj #[.str "CHAR" _, .str "(" _, .int _ _]) hg N5 (by k_mem) ⟨Nat.ne_of_gt (by omega), Nat.ne_of_gt (by omega)⟩) (N5.get (o := tupObj #[.str "CHAR" _, .str "(" _, .int _ _]) (by k_mem)) rfl rfl trivial ⟨(by rintro _ ⟨⟩), (by rintro _ ⟨⟩)⟩
end
end Mine
end
section
open PySem PySem.W PyProof.Rows PySem.Calls PySem.Spec
set_option Elab.async false
set_option maxRecDepth 100000
set_option maxHeartbeats 4000000
namespace Mine
section
variable {prog : Program} {w : World} {A : Around} {s : Shared} {h₀ : Heap} {L : Addr} {m : Str → Option Value} {env : Env} {elt : Expr} {x : Str} {scope : Scope} {cl : List (Str × Addr)} {S : List (Addr × Obj) → Prop} {P : Nat → Value → Prop} {Fin : List Value → List (Addr × Obj) → Prop}
theorem comp_end_mono {s₁ : Shared} {I : Addr} {oI : Obj} {C : Addr} {oC : Obj} {D : Addr} {oD : Obj} {r r' : Value → List (Addr × Obj) → Prop} (i : ∀ y n, r y n → r' y n) {y : Value} {s₂ : Shared} :
    LCg.CompEnd h₀ L m s₁ I oI C oC D oD S r y s₂ → LCg.CompEnd h₀ L m s₁ I oI C oC D oD S r' y s₂ :=
  fun ⟨h', tk, news', a, b, c, d, e, f⟩ => ⟨h', tk, news', a, b, c, d, e, i _ _ f⟩

/-- the turns of a comprehension, by a word about the ledger -/
theorem comp_ind (n : Nat) (Inv : Nat → List Value → List (Addr × Obj) → Prop) {news : List (Addr × Obj)} (h0 : Inv 0 [] news)
    (turn : ∀ i ys news, i < n → Inv i ys news → ∀ v I oI C oC D m₂ h tk (E' : Value → Shared → Prop), P i v → LCg.NsObj oC m₂ → m₂ x = some v → Fr h₀ L h m → News h₀ L h ((I, oI) :: (C, oC) :: (D, LCg.lst ys) :: news) → LCg.Off3 I C D news → ((@Ne Nat I C) ∧ (@Ne Nat I D) ∧ (@Ne Nat C D)) →
      wpAny (model prog w) A (eval elt (compEnvC scope cl C env)) (LCg.CompEnd h₀ L m { s with heap := h, toks := tk } I oI C oC D (LCg.lst ys) S (fun y news' => Inv (i + 1) (ys ++ [y]) news')) E' { s with heap := h, toks := tk })
    (fin : ∀ ys news, Inv n ys news → Fin ys news) : LCg.CompRest prog w A h₀ L m env elt x scope cl s S P Fin n 0 [] news := by
  have key : ∀ j i ys news, i + j = n → Inv i ys news → LCg.CompRest prog w A h₀ L m env elt x scope cl s S P Fin j i ys news := by
    intro j
    induction j with
    | zero =>
      intro i ys news e hI
      obtain rfl : i = n := by omega
      exact LCg.CompRest.zero (fin _ _ hI)
    | succ j ih =>
      intro i ys news e hI
      refine LCg.CompRest.succ fun v I oI C oC D m₂ h tk E' hP hC hx F N off ne => ?_
      refine wpAny_mono (turn i ys news (by omega) hI v I oI C oC D m₂ h tk E' hP hC hx F N off ne) (fun y s₂ hy => comp_end_mono (fun y n hn => ih _ _ _ (by omega) hn) hy) (fun _ _ e => e)
  exact key n 0 [] news (by omega) h0
end

/-- a tuple that is the token `tk` -/
def TokO (o : Obj) (tk : Tk) : Prop := o.cls = .type "tuple" ∧ ∃ kt val th n, o.data = .seq [.str tk.kind kt, val, th].toArray n ∧ tk.Val val
/-- the tokens so far, of which the tuples lie in the ledger's tail -/
def ToksIn (ys : List Value) (toks : List Tk) (T : List (Addr × Obj)) : Prop :=
  ys.length = toks.length ∧ ∀ (j : Nat) (tk : Tk), toks[j]? = some tk → Good tk ∧ ∃ a o, ys[j]? = some (.ref a) ∧ (a, o) ∈ T ∧ TokO o tk
theorem ToksIn.nil {T : List (Addr × Obj)} : ToksIn [] [] T := ⟨rfl, fun j tk e => by simp at e⟩
theorem ToksIn.snoc {ys : List Value} {toks : List Tk} {T : List (Addr × Obj)} {a : Addr} {o : Obj} {tk : Tk} (x : ToksIn ys toks T) (hg : Good tk) (ho : TokO o tk) : ToksIn (ys ++ [.ref a]) (toks ++ [tk]) ((a, o) :: T) := by
  refine ⟨by simp [x.1], fun j tk' e => ?_⟩
  by_cases q : j < toks.length
  · rw [List.getElem?_append_left q] at e
    obtain ⟨hg', a', o', h1, h2, h3⟩ := x.2 j tk' e
    exact ⟨hg', a', o', by rw [List.getElem?_append_left (by rw [x.1]; exact q)]; exact h1, List.Mem.tail _ h2, h3⟩
  · have hj : j = toks.length := by
      by_cases z : j < (toks ++ [tk]).length
      · simp at z; omega
      · rw [List.getElem?_eq_none (by omega)] at e; cases e
    subst hj
    simp at e
    subst e
    exact ⟨hg, a, o, by rw [← x.1]; simp, List.Mem.head _, ho⟩
theorem ToksIn.at {g h : Heap} {L D : Addr} {ys : List Value} {toks : List Tk} {T news : List (Addr × Obj)} (x : ToksIn ys toks T) (N : News g L h news) (hT : ∀ p ∈ T, p ∈ news) (hD : (D, LCg.lst ys) ∈ news) : ToksAt h D toks :=
  ⟨ys, ⟨_, N.get hD, rfl, _, rfl⟩, x.1, fun i tk e => let ⟨_, a, o, h1, h2, hc, kt, val, th, n, hd, hv⟩ := x.2 i tk e; ⟨.ref a, h1, a, kt, val, th, rfl, ⟨o, N.get (hT _ h2), hc, n, hd⟩, hv⟩⟩
theorem ToksIn.marks {ys : List Value} {toks : List Tk} {T : List (Addr × Obj)} (x : ToksIn ys toks T) : MarksOk toks := fun i m e => (x.2 i _ e).1.1 m rfl
theorem ToksIn.names {ys : List Value} {toks : List Tk} {T : List (Addr × Obj)} (x : ToksIn ys toks T) : ∀ (i : Nat) (y : Str), toks[i]? = some (Tk.name y) → PyData.strOk y = true := fun i y e => (x.2 i _ e).1.2 y rfl

theorem news_pick {g h h' : Heap} {L p : Addr} {o o' : Obj} {rest : List (Addr × Obj)} (N : News g L h ((p, o) :: rest)) (k : Kept [p] h h') (e : h'.get? p = some o') (hne : ∀ x ∈ rest, x.1 ≠ p) : News g L h' ((p, o') :: rest) := fun x hx => by
  rcases List.mem_cons.mp hx with rfl | hx
  · exact ⟨e, (N _ (List.Mem.head _)).2⟩
  · exact ⟨k _ _ (N x (List.Mem.tail _ hx)).1 (fun q => hne x hx (List.mem_singleton.mp q)), (N x (List.Mem.tail _ hx)).2⟩
theorem news_tok {g h h' : Heap} {L p a : Addr} {m : Str → Option Value} {o oa o' : Obj} {l1 l2 T : List (Addr × Obj)} (F : Fr g L h m) (N : News g L h (l1 ++ (p, o) :: (l2 ++ T))) (k : Kept [p] h h') (hp : h'.get? p = some o') (ha : h.get? a = none) (hoa : h'.get? a = some oa)
    (hne1 : ∀ x ∈ l1, x.1 ≠ p) (hne2 : ∀ x ∈ l2 ++ T, x.1 ≠ p) : News g L h' (l1 ++ (p, o') :: (l2 ++ (a, oa) :: T)) := by
  have old : ∀ x ∈ l1 ++ (p, o) :: (l2 ++ T), x.1 ≠ p → h'.get? x.1 = some x.2 ∧ x.1 ≠ L ∧ g.get? x.1 = none := fun x hx hn => ⟨k _ _ (N x hx).1 (fun q => hn (List.mem_singleton.mp q)), (N x hx).2⟩
  intro x hx
  rcases List.mem_append.mp hx with hx | hx
  · exact old x (List.mem_append_left _ hx) (hne1 x hx)
  · rcases List.mem_cons.mp hx with rfl | hx
    · exact ⟨hp, (N (p, o) (List.mem_append_right _ (List.Mem.head _))).2⟩
    · rcases List.mem_append.mp hx with hx | hx
      · exact old x (List.mem_append_right _ (List.Mem.tail _ (List.mem_append_left _ hx))) (hne2 x (List.mem_append_left _ hx))
      · rcases List.mem_cons.mp hx with rfl | hx
        · refine ⟨hoa, fun q => ?_, ?_⟩
          · obtain ⟨oL, es, ep, hL, _⟩ := F.ns
            rw [show a = L from q, hL] at ha; cases ha
          · cases q : g.get? a with
            | none => rfl
            | some z => have := F.keep _ _ q; rw [ha] at this; cases this
        · exact old x (List.mem_append_right _ (List.Mem.tail _ (List.mem_append_right _ hx))) (hne2 x (List.mem_append_right _ hx))
theorem ne_new {h : Heap} {a b : Addr} {z : Obj} (ha : h.get? a = none) (e : h.get? b = some z) : @Ne Nat b a := fun q => by rw [show b = a from q, ha] at e; cases e
theorem fr_pick {g h h' : Heap} {L p : Addr} {m : Str → Option Value} {o : Obj} {rest : List (Addr × Obj)} (F : Fr g L h m) (N : News g L h ((p, o) :: rest)) (k : Kept [p] h h') : Fr g L h' m :=
  fr_kept F k fun a ha => by rw [List.mem_singleton.mp ha]; exact ⟨(N _ (List.Mem.head _)).2.2, (N _ (List.Mem.head _)).2.1⟩
section
variable {A₀ : Around} {base g h h' : Heap} {L : Addr} {m : Str → Option Value} {env : Env} {news : List (Addr × Obj)} {mods : List Addr}
theorem law_fr (F : Fr g L h m) (hf : env.frame = some L) (k : KeptM mods (frs [env]) h h') (hm : ∀ a ∈ mods, g.get? a = none ∧ a ≠ L) : Fr g L h' m := by
  obtain ⟨⟨oL, es, ep, hL, hd, r⟩, kp, ab⟩ := F
  have hin : L ∈ frs [env] := frs_self hf
  obtain ⟨sl, e⟩ := (k L oL hL (fun q => (hm L q).2 rfl)).2 hin
  refine ⟨⟨_, es, ep, e, hd, r⟩, fun b o e => ?_, ab⟩
  refine (k b o (kp b o e) (fun q => by rw [(hm b q).1] at e; cases e)).1 fun q => ?_
  rcases frs_cons hf q with z | z
  · rw [z] at e
    have : g.get? L = none := get_none_of_le ab
    rw [this] at e; cases e
  · exact nomatch z
theorem law_news (N : News g L h news) (hf : env.frame = some L) (k : KeptM mods (frs [env]) h h') (hm : ∀ p ∈ news, p.1 ∉ mods) : News g L h' news := fun p hp =>
  ⟨(k _ _ (N p hp).1 (hm p hp)).1 (fun q => (frs_cons hf q).elim (fun z => (N p hp).2.1 z) (fun z => nomatch z)), (N p hp).2⟩
theorem law_new {a : Addr} {o : Obj} (F : Fr g L h m) (ha : h.get? a = none) (ho : h'.get? a = some o) : h'.get? a = some o ∧ a ≠ L ∧ g.get? a = none := by
  refine ⟨ho, fun q => ?_, ?_⟩
  · obtain ⟨oL, es, ep, hL, _⟩ := F.ns
    rw [show a = L from q, hL] at ha; cases ha
  · cases q : g.get? a with
    | none => rfl
    | some z => have := F.keep _ _ q; rw [ha] at this; cases this
end
end Mine
end
section
open PySem PySem.W PyProof.Rows PySem.Calls PySem.Spec
set_option Elab.async false
set_option maxRecDepth 100000
set_option maxHeartbeats 2000000
namespace Mine
/-- what is told: the kind of the rule of letter `i` -/
abbrev St := Nat → Option Int
def dflt (i : Nat) : Int := if 8 ≤ i ∧ i < 14 then 0 else 1
def kindAt (f : St) (i : Nat) : Int := (f i).getD (dflt i)
def lenD (k : Int) : PyData := if k = 5 then .tuple [.str "int", .int 4] else .none
def ruleD (k : Int) : PyData := .tuple [.int k, lenD k]

/-- all of `T` lies in the heap -/
def Bears (h : Heap) (T : List (Addr × Obj)) : Prop := ∀ p ∈ T, h.get? p.1 = some p.2
/-- every heap that bears `T` reads `d` at `v`, and nothing in it can change -/
def ReadsIn (T : List (Addr × Obj)) (v : Value) (d : PyData) : Prop := ∀ h, Bears h T → Reads h v d []
theorem ReadsIn.mono {T T' : List (Addr × Obj)} {v : Value} {d : PyData} (x : ReadsIn T v d) (s : ∀ p ∈ T, p ∈ T') : ReadsIn T' v d := fun h b => x h fun p hp => b p (s p hp)
theorem Bears.sub {h : Heap} {T T' : List (Addr × Obj)} (b : Bears h T) (s : ∀ p ∈ T', p ∈ T) : Bears h T' := fun p hp => b p (s p hp)
theorem Bears.news {g h : Heap} {L : Addr} {news T : List (Addr × Obj)} (N : News g L h news) (s : ∀ p ∈ T, p ∈ news) : Bears h T := fun p hp => (N p (s p hp)).1
theorem Bears.keeps {h h' : Heap} {T : List (Addr × Obj)} (b : Bears h T) (k : ∀ b o, h.get? b = some o → h'.get? b = some o) : Bears h' T := fun p hp => k _ _ (b p hp)

/-- the list of the rules -/
def RulesIn (T : List (Addr × Obj)) (vs : List Value) (f : St) : Prop := vs.length = 26 ∧ ∀ i, i < 26 → ∃ v, vs[i]? = some v ∧ ReadsIn T v (ruleD (kindAt f i))
theorem RulesIn.mono {T T' : List (Addr × Obj)} {vs : List Value} {f : St} (x : RulesIn T vs f) (s : ∀ p ∈ T, p ∈ T') : RulesIn T' vs f := ⟨x.1, fun i hi => let ⟨v, e, r⟩ := x.2 i hi; ⟨v, e, r.mono s⟩⟩
def boolsOf (f : St) : List Value := (List.range 26).map fun i => .bool (f i).isSome
abbrev impDict (w : World) (lr lt : Addr) (t1 t2 : Tok) (n : Nat) : Obj := dictOf [⟨PyData.keyHash w.params "rules", .str "rules" t1, .ref lr⟩, ⟨PyData.keyHash w.params "told", .str "told" t2, .ref lt⟩] n

/-- made anew: it lies in `h'`, and was not in `h` -/
def Fresh (h h' : Heap) (l : List (Addr × Obj)) : Prop := ∀ p ∈ l, h'.get? p.1 = some p.2 ∧ h.get? p.1 = none
theorem Fresh.news {g h h' : Heap} {L : Addr} {m : Str → Option Value} {l news : List (Addr × Obj)} (x : Fresh h h' l) (F : Fr g L h m) (N : News g L h' news) : News g L h' (l ++ news) := fun p hp => by
  rcases List.mem_append.mp hp with hp | hp
  · refine ⟨(x p hp).1, fun q => ?_, ?_⟩
    · obtain ⟨oL, es, ep, hL, _⟩ := F.ns
      have := (x p hp).2
      rw [q, hL] at this; cases this
    · cases q : g.get? p.1 with
      | none => rfl
      | some z => have := F.keep _ _ q; rw [(x p hp).2] at this; cases this
  · exact N p hp

section
variable {prog : Program} {w : World} {A : Around} {E : Value → Shared → Prop} {s : Shared} {K : Frag} {C L : Addr} {h₀ : Heap} {m : Str → Option Value} {Q : Value → Shared → Prop}
/-- a class is called: all that stood stands, and the new object is new -/
theorem make_raw {pos : List Value} {fI : Addr} (F : Fr h₀ L s.heap m) (X₀ : K.In h₀) (hm : makesIn K C = true) (hi : findIn K (.ref C) "__init__" = some (some (.ref fI))) (hf : isFn K (.ref fI) = true)
    (h : ∀ x dx h', (∀ b o, s.heap.get? b = some o → h'.get? b = some o) → s.heap.get? x = none → s.heap.get? dx = none → Fr h₀ L h' m → News h₀ L h' [(x, instObj C dx), (dx, dictOf [] 0)] → @LT.lt Nat _ dx x →
      codeAny (model prog w) (A.under (.builtin "type.__call__" ⟨.ref C :: pos, []⟩)) (.call (.ref fI) ⟨.ref x :: pos, []⟩) (InitBack x fun r s' => match r with | .ok (.ret v) => Q v s' | .ok _ => False | .error e => E e s') { s with heap := h' }) :
    wpAny (model prog w) A (call (.ref C) pos) Q E s := by
  have X := X₀.keeps F.keep
  obtain ⟨hh, gg, d, t, os⟩ := s
  refine wpAny_call (make_core (makes_of X hm) (looks_findIn X hi) (fun self => bind_fn X self (beq_iff_eq.mp hf)) (.inl rfl) ?_)
  refine h _ hh.objs.size _ (fun b o e => Heap.get?_push_of_some _ (Heap.get?_push_of_some _ e)) (get_none_of_le (Nat.le_succ _)) (get_none_of_le (Nat.le_refl _)) ((F.push _).push _) ?_ (Nat.lt_succ_self _)
  have := ((News.nil (h₀ := h₀) (L := L) (h := hh)).push F emptyDict).push (F.push _) (instObj C hh.objs.size)
  rwa [Heap.size_push] at this
end
section
variable {prog : Program} {w : World} {A : Around} {E : Value → Shared → Prop} {s : Shared} {h₀ : Heap} {L D : Addr} {m : Str → Option Value} {news news' : List (Addr × Obj)} {vs : List Value} {n : Nat} {k : Int} {t : Tok}
theorem set_any {Q : Unit → Shared → Prop} {v : Value} (F : Fr h₀ L s.heap m) (N : News h₀ L s.heap news) (U : Upd D (W.listOf vs.toArray n) (W.listOf (vs.set k.toNat v).toArray n) news news') (h0 : 0 ≤ k) (h1 : k < vs.length) (hfit : k < 2 ^ 63)
    (h : ∀ h', Fr h₀ L h' m → News h₀ L h' news' → Q () { s with heap := h' }) :
    wpAny (model prog w) A (setItem (.ref D) (.int k t) v) Q E s := by
  obtain ⟨pre, post, rfl, rfl, a, b⟩ := U.split
  have z := N (D, W.listOf vs.toArray n) (List.mem_append.mpr (.inr (.head _)))
  have hs : vs.toArray.size = vs.length := List.size_toArray ..
  refine ki_setAt z.1 h0 hfit (by omega) (h _ (F.change (Heap.SameBut.update ..) z.2.1 z.2.2) (ki_turn _ N a b ?_ ?_))
  · show vs.toArray.setIfInBounds k.toNat v = (vs.set k.toNat v).toArray
    apply Array.toList_inj.mp
    simp
  · simp
end
end Mine
end
section
open PySem PySem.W PyProof.Rows PySem.Calls PySem.Spec
set_option Elab.async false
set_option maxRecDepth 100000
set_option maxHeartbeats 4000000
namespace Mine
theorem reads_rule0 {T : List (Addr × Obj)} {a : Addr} {k : Int} {t : Tok} {n : Nat} (hk : k ≠ 5) (hm : (a, ({ cls := .type "tuple", data := .seq #[.int k t, .none] n } : Obj)) ∈ T) : ReadsIn T (.ref a) (ruleD k) := fun h b => by
  unfold ruleD lenD
  rw [if_neg hk]
  exact .tuple (b _ hm) rfl rfl (.cons (.int _ _) (.cons .none .nil))

def AllAt (P : Nat → Value → Prop) : Nat → List Value → Prop
  | _, [] => True
  | j, v :: r => P j v ∧ AllAt P (j + 1) r
theorem AllAt.get {P : Nat → Value → Prop} : ∀ {l : List Value} {j : Nat}, AllAt P j l → ∀ i, i < l.length → ∃ u, l[i]? = some u ∧ P (j + i) u
  | [], _, _, _, h => absurd h (Nat.not_lt_zero _)
  | v :: _, _, x, 0, _ => ⟨v, rfl, x.1⟩
  | _ :: r, j, x, i + 1, h => by
    obtain ⟨u, hu, hp⟩ := AllAt.get x.2 i (Nat.lt_of_succ_lt_succ h)
    exact ⟨u, hu, by rw [Nat.add_assoc, Nat.add_comm 1] at hp; exact hp⟩
theorem two_ne {a l t : Nat} (h1 : a ≠ l) (h2 : a ≠ t) : a ≠ l ∧ a ≠ t := ⟨h1, h2⟩
theorem imp_end {w : World} {s h' g : Heap} {L lt l2 d1 d2 d3 d4 d5 d6 lr l1 d0 x dx : Addr} {o1 o2 : Obj} {ti tr t1 t2 : Tok} {n : Nat}
    (N : News g L h' [(lt, W.listOf #[.bool false, .bool false, .bool false, .bool false, .bool false, .bool false, .bool false, .bool false, .bool false, .bool false, .bool false, .bool false, .bool false, .bool false, .bool false, .bool false, .bool false, .bool false, .bool false, .bool false, .bool false, .bool false, .bool false, .bool false, .bool false, .bool false] 0), (l2, o2), (d1, ({ cls := .type "tuple", data := .seq #[.int 0 ti, .none] } : Obj)), (d2, ({ cls := .type "tuple", data := .seq #[.int 0 ti, .none] } : Obj)), (d3, ({ cls := .type "tuple", data := .seq #[.int 0 ti, .none] } : Obj)), (d4, ({ cls := .type "tuple", data := .seq #[.int 0 ti, .none] } : Obj)), (d5, ({ cls := .type "tuple", data := .seq #[.int 0 ti, .none] } : Obj)), (d6, ({ cls := .type "tuple", data := .seq #[.int 0 ti, .none] } : Obj)),
      (lr, W.listOf #[.ref d0, .ref d0, .ref d0, .ref d0, .ref d0, .ref d0, .ref d0, .ref d0, .ref d6, .ref d5, .ref d4, .ref d3, .ref d2, .ref d1, .ref d0, .ref d0, .ref d0, .ref d0, .ref d0, .ref d0, .ref d0, .ref d0, .ref d0, .ref d0, .ref d0, .ref d0] 0), (l1, o1), (d0, ({ cls := .type "tuple", data := .seq #[.int 1 tr, .none] } : Obj)), (x, instObj 89 dx), (dx, impDict w lr lt t1 t2 n)])
    (hG : ∀ b o, s.get? b = some o → g.get? b = some o) (e1 : @LT.lt Nat _ dx x) (e2 : @LT.lt Nat _ x d0) (e3 : @LT.lt Nat _ d0 lr) (e4 : @LT.lt Nat _ lr d6) (e5 : @LT.lt Nat _ d6 d5) (e6 : @LT.lt Nat _ d5 d4) (e7 : @LT.lt Nat _ d4 d3) (e8 : @LT.lt Nat _ d3 d2) (e9 : @LT.lt Nat _ d2 d1) (e10 : @LT.lt Nat _ d1 lt) :
    ∃ rules nr nt T, Fresh s h' ([(lr, W.listOf rules.toArray nr), (lt, W.listOf (boolsOf fun _ => none).toArray nt), (x, instObj 89 dx), (dx, impDict w lr lt t1 t2 n)] ++ T) ∧ RulesIn T rules (fun _ => none) ∧
      (@Ne Nat lr lt ∧ @Ne Nat lr x ∧ @Ne Nat lr dx ∧ @Ne Nat lt x ∧ @Ne Nat lt dx ∧ @Ne Nat x dx) ∧ (∀ p ∈ T, @Ne Nat p.1 lr ∧ @Ne Nat p.1 lt) := by
  have f1 := e10
  have f2 := Nat.lt_trans e9 f1
  have f3 := Nat.lt_trans e8 f2
  have f4 := Nat.lt_trans e7 f3
  have f5 := Nat.lt_trans e6 f4
  have f6 := Nat.lt_trans e5 f5
  have f7 := Nat.lt_trans e4 f6
  have f8 := Nat.lt_trans e3 f7
  have c5 := Nat.lt_trans e4 e5
  have c4 := Nat.lt_trans c5 e6
  have c3 := Nat.lt_trans c4 e7
  have c2 := Nat.lt_trans c3 e8
  have c1 := Nat.lt_trans c2 e9
  have g1 := Nat.lt_trans e2 e3
  have g2 := Nat.lt_trans e1 g1
  refine ⟨[.ref d0, .ref d0, .ref d0, .ref d0, .ref d0, .ref d0, .ref d0, .ref d0, .ref d6, .ref d5, .ref d4, .ref d3, .ref d2, .ref d1, .ref d0, .ref d0, .ref d0, .ref d0, .ref d0, .ref d0, .ref d0, .ref d0, .ref d0, .ref d0, .ref d0, .ref d0], 0, 0, [(d1, ({ cls := .type "tuple", data := .seq #[.int 0 ti, .none] } : Obj)), (d2, ({ cls := .type "tuple", data := .seq #[.int 0 ti, .none] } : Obj)), (d3, ({ cls := .type "tuple", data := .seq #[.int 0 ti, .none] } : Obj)), (d4, ({ cls := .type "tuple", data := .seq #[.int 0 ti, .none] } : Obj)), (d5, ({ cls := .type "tuple", data := .seq #[.int 0 ti, .none] } : Obj)), (d6, ({ cls := .type "tuple", data := .seq #[.int 0 ti, .none] } : Obj)), (d0, ({ cls := .type "tuple", data := .seq #[.int 1 tr, .none] } : Obj))], ?_, ⟨rfl, ?_⟩, ⟨Nat.ne_of_lt f7, Nat.ne_of_gt g1, Nat.ne_of_gt g2, Nat.ne_of_gt (Nat.lt_trans g1 f7), Nat.ne_of_gt (Nat.lt_trans g2 f7), Nat.ne_of_gt e1⟩, ?_⟩
  · intro p hp
    have hm : p ∈ [(lt, W.listOf #[.bool false, .bool false, .bool false, .bool false, .bool false, .bool false, .bool false, .bool false, .bool false, .bool false, .bool false, .bool false, .bool false, .bool false, .bool false, .bool false, .bool false, .bool false, .bool false, .bool false, .bool false, .bool false, .bool false, .bool false, .bool false, .bool false] 0), (l2, o2), (d1, ({ cls := .type "tuple", data := .seq #[.int 0 ti, .none] } : Obj)), (d2, ({ cls := .type "tuple", data := .seq #[.int 0 ti, .none] } : Obj)), (d3, ({ cls := .type "tuple", data := .seq #[.int 0 ti, .none] } : Obj)), (d4, ({ cls := .type "tuple", data := .seq #[.int 0 ti, .none] } : Obj)), (d5, ({ cls := .type "tuple", data := .seq #[.int 0 ti, .none] } : Obj)), (d6, ({ cls := .type "tuple", data := .seq #[.int 0 ti, .none] } : Obj)),
      (lr, W.listOf #[.ref d0, .ref d0, .ref d0, .ref d0, .ref d0, .ref d0, .ref d0, .ref d0, .ref d6, .ref d5, .ref d4, .ref d3, .ref d2, .ref d1, .ref d0, .ref d0, .ref d0, .ref d0, .ref d0, .ref d0, .ref d0, .ref d0, .ref d0, .ref d0, .ref d0, .ref d0] 0), (l1, o1), (d0, ({ cls := .type "tuple", data := .seq #[.int 1 tr, .none] } : Obj)), (x, instObj 89 dx), (dx, impDict w lr lt t1 t2 n)] := by
      exact sub_cons mm8 (sub_cons mm0 (sub_cons mm11 (sub_cons mm12 (sub_cons mm2 (sub_cons mm3 (sub_cons mm4 (sub_cons mm5 (sub_cons mm6 (sub_cons mm7 (sub_cons mm10 sub_nil)))))))))) p hp
    refine ⟨(N p hm).1, ?_⟩
    cases q : s.get? p.1 with
    | none => rfl
    | some o => have := (N p hm).2.2; rw [hG _ _ q] at this; cases this
  · intro i hi
    have R0 : ∀ {d : Addr}, (d, ({ cls := .type "tuple", data := .seq #[.int 0 ti, .none] } : Obj)) ∈ [(d1, ({ cls := .type "tuple", data := .seq #[.int 0 ti, .none] } : Obj)), (d2, ({ cls := .type "tuple", data := .seq #[.int 0 ti, .none] } : Obj)), (d3, ({ cls := .type "tuple", data := .seq #[.int 0 ti, .none] } : Obj)), (d4, ({ cls := .type "tuple", data := .seq #[.int 0 ti, .none] } : Obj)), (d5, ({ cls := .type "tuple", data := .seq #[.int 0 ti, .none] } : Obj)), (d6, ({ cls := .type "tuple", data := .seq #[.int 0 ti, .none] } : Obj)), (d0, ({ cls := .type "tuple", data := .seq #[.int 1 tr, .none] } : Obj))] → ReadsIn [(d1, ({ cls := .type "tuple", data := .seq #[.int 0 ti, .none] } : Obj)), (d2, ({ cls := .type "tuple", data := .seq #[.int 0 ti, .none] } : Obj)), (d3, ({ cls := .type "tuple", data := .seq #[.int 0 ti, .none] } : Obj)), (d4, ({ cls := .type "tuple", data := .seq #[.int 0 ti, .none] } : Obj)), (d5, ({ cls := .type "tuple", data := .seq #[.int 0 ti, .none] } : Obj)), (d6, ({ cls := .type "tuple", data := .seq #[.int 0 ti, .none] } : Obj)), (d0, ({ cls := .type "tuple", data := .seq #[.int 1 tr, .none] } : Obj))] (.ref d) (ruleD 0) := fun hm => reads_rule0 (by decide) hm
    have R1 : ReadsIn [(d1, ({ cls := .type "tuple", data := .seq #[.int 0 ti, .none] } : Obj)), (d2, ({ cls := .type "tuple", data := .seq #[.int 0 ti, .none] } : Obj)), (d3, ({ cls := .type "tuple", data := .seq #[.int 0 ti, .none] } : Obj)), (d4, ({ cls := .type "tuple", data := .seq #[.int 0 ti, .none] } : Obj)), (d5, ({ cls := .type "tuple", data := .seq #[.int 0 ti, .none] } : Obj)), (d6, ({ cls := .type "tuple", data := .seq #[.int 0 ti, .none] } : Obj)), (d0, ({ cls := .type "tuple", data := .seq #[.int 1 tr, .none] } : Obj))] (.ref d0) (ruleD 1) := reads_rule0 (t := tr) (n := 0) (by decide) (.tail _ (.tail _ (.tail _ (.tail _ (.tail _ (.tail _ (.head _)))))))
    have key : AllAt (fun i u => ReadsIn _ u (ruleD (kindAt (fun _ => none) i))) 0 [.ref d0, .ref d0, .ref d0, .ref d0, .ref d0, .ref d0, .ref d0, .ref d0, .ref d6, .ref d5, .ref d4, .ref d3, .ref d2, .ref d1, .ref d0, .ref d0, .ref d0, .ref d0, .ref d0, .ref d0, .ref d0, .ref d0, .ref d0, .ref d0, .ref d0, .ref d0] :=
      ⟨R1, R1, R1, R1, R1, R1, R1, R1, R0 mm5, R0 mm4, R0 mm3, R0 mm2, R0 mm1, R0 mm0, R1, R1, R1, R1, R1, R1, R1, R1, R1, R1, R1, R1, trivial⟩
    obtain ⟨u, hu, hp⟩ := key.get i hi
    exact ⟨u, hu, by rw [Nat.zero_add] at hp; exact hp⟩
  · exact all_cons (two_ne (Nat.ne_of_gt c1) (Nat.ne_of_lt f1)) (all_cons (two_ne (Nat.ne_of_gt c2) (Nat.ne_of_lt f2)) (all_cons (two_ne (Nat.ne_of_gt c3) (Nat.ne_of_lt f3)) (all_cons (two_ne (Nat.ne_of_gt c4) (Nat.ne_of_lt f4)) (all_cons (two_ne (Nat.ne_of_gt c5) (Nat.ne_of_lt f5)) (all_cons (two_ne (Nat.ne_of_gt e4) (Nat.ne_of_lt f6)) (all_cons (two_ne (Nat.ne_of_lt e3) (Nat.ne_of_lt f8)) all_nil))))))

section
variable {w : World} {pg : Program} {loose : List Str} {mean : ExcName → Option Value} {mg mb : Str → Option Value}

theorem implicit_spec ⦃dp un : Nat⦄ ⦃gd : Option (List Code)⦄ ⦃cn : Str⦄ ⦃cs : Scope⦄ ⦃L a : Addr⦄ ⦃ccd : Value⦄ ⦃cl : List (Str × Addr)⦄ ⦃outer : List Env⦄ ⦃A₀ : Around⦄ ⦃base h₀ : Heap⦄ ⦃m : Str → Option Value⦄ ⦃s : Shared⦄ ⦃Q E : Value → Shared → Prop⦄
    (H : Here w pg loose mean mg mb cs A₀ base h₀ outer L m s.heap) (hdp : dp + 5 < 900)
    (hQ : ∀ h' tk x dx lr lt t1 t2 n rules nr nt T, Kept [] s.heap h' → Fresh s.heap h' ([(lr, W.listOf rules.toArray nr), (lt, W.listOf (boolsOf fun _ => none).toArray nt), (x, instObj 89 dx), (dx, impDict w lr lt t1 t2 n)] ++ T) → RulesIn T rules (fun _ => none) →
      (@Ne Nat lr lt ∧ @Ne Nat lr x ∧ @Ne Nat lr dx ∧ @Ne Nat lt x ∧ @Ne Nat lt dx ∧ @Ne Nat x dx) → (∀ p ∈ T, @Ne Nat p.1 lr ∧ @Ne Nat p.1 lt) → Q (.ref x) { s with heap := h', toks := tk }) :
    wpAny (model PySem.Challenge.rw_pq0349_01.row.prog w) (ktrTop dp un gd cn cs L a ccd cl outer) (call (.ref 89) []) Q E s := by
  have B := H.B
  have F := H.F
  have X := H.X
  have T := H.T
  have hk := H.hk
  revert X; k_fill; intro X
  refine make_raw (fI := 72) F X (by k_is) (by k_is) (by k_is) fun x dx h1 k1 hxn hdn F1 N1 l9 => ?_
  rw [under_type]
  k_dflt (refine' Mine.enterP [("self", .ref x)] ?k1 ?k2 ?k3 ?k4 ?k5 ?kA ?kF ?kK ?k6 ?k7 ?k8 ?k9 ?kB ?kbody ?c2 ?c3 ?c4 ?c5; (case kA => exact rfl); (case kF => exact rfl); (case kK => assumption); (case k1 => assumption); (case k2 => exact F1); (case k3 => assumption); (case k4 => exact N1); (case k5 => assumption); (case k6 => k_is); (case k7 => k_is); (case k8 => (show @LT.lt Nat _ _ 1000; (try dsimp only [ktrTop]); omega)); (case k9 => exact BindsTo.of_eq rfl); (case c5 => decide); (case kB => exact locs rfl); (case c2 => exact rfl); (case c3 => exact rfl); (case c4 => exact rfl); k_whole)
  intro g L' h₁ tk0 hg hL F' N' B' X' T'
  simp only [Mine.bindM] at F'
  dsimp only at hg
  have hG : ∀ b o, s.heap.get? b = some o → g.get? b = some o := fun b o e => hg b o (k1 _ _ e) (by
    simp only [List.map_cons, List.map_nil, List.mem_cons, List.not_mem_nil, or_false]
    rintro (z | z)
    · rw [z, hxn] at e; cases e
    · rw [z, hdn] at e; cases e)
  clear B F X T F1 N1 hg
  (try dsimp only)
  refine gen1 ?_
  intro Qq hQq
  refine letAE ?_
  intro Aq Eq
  k_steps
  rename Fr _ _ _ _ => F5
  rename News _ _ _ _ => N5
  subst hQq
  refine ⟨rfl, ?_⟩
  obtain ⟨rules, nr, nt, T, h1, h2, h3, h4⟩ := imp_end N5 hG (by omega) (by omega) (by omega) (by omega) (by omega) (by omega) (by omega) (by omega) (by omega) (by omega)
  exact hQ _ _ _ _ _ _ _ _ _ rules nr nt T (fun b o e _ => F5.keep _ _ (hG b o e)) h1 h2 h3 h4
end
end Mine
end
section
open PySem PySem.W PyProof.Rows PySem.Calls PySem.Spec
set_option Elab.async false
set_option maxRecDepth 100000
set_option maxHeartbeats 4000000
local macro_rules | `(tactic| walk_at "subscriptTail") => `(tactic| (k_here; (with_reducible show wpAny _ _ (subscriptTail _ _ (Value.ref _) (Value.int _ _)) _ _ _); (refine' item_listL ?k1 ?k2 ?k3 ?k4 ?_; (case k1 => is_list); (case k4 => with_reducible assumption); (case k2 => omega); (case k3 => omega))))
local macro_rules | `(tactic| walk_at "exec Raise some none") => `(tactic| (k_here; (with_reducible show wpAny _ _ (exec (Stmt.Raise (some (Expr.Call (Expr.Name (Str.ofString "SyntaxFault") _) _ _ _)) none _) _) _ _ _); k_dflt (refine Mine.raise_stmt (Mine.fault44 _) rfl ?_)))
local macro_rules | `(tactic| walk_at "exec Raise some none") => `(tactic| (k_here; (with_reducible show wpAny _ _ (exec (Stmt.Raise (some (Expr.Call (Expr.Name (Str.ofString "CheckFault") _) _ _ _)) none _) _) _ _ _); k_dflt (refine Mine.raise_stmt (Mine.fault56 _) rfl ?_)))
local macro_rules | `(tactic| walk_at "exec For Name Call cons nil") => `(tactic| (k_here; k_dflt (refine' Mine.for_open ?_)))
local macro_rules | `(tactic| walk_at "exec For Name Name cons nil") => `(tactic| (k_here; k_dflt (refine' Mine.for_open ?_)))
local macro_rules | `(tactic| walk_at "exec For Tuple Name cons nil") => `(tactic| (k_here; k_dflt (refine' Mine.for_open ?_)))
local macro_rules | `(tactic| walk_at "setItem ref int") => `(tactic| (k_here; (with_reducible show wpAny _ _ (PySem.setItem (Value.ref _) (Value.int _ _) _) _ _ _); k_dflt (refine' Mine.set_any ?k1 ?k2 ?k3 ?k4 ?k5 ?k6 ?_; (case k1 => k_asm); (case k2 => k_asm); (case k3 => k_upd); (case k4 => omega); (case k5 => omega); (case k6 => omega); k_whole); intro h' F' N'; (try k_sweep)))

local macro_rules | `(tactic| walk_at "eval Name") => `(tactic| (k_here; k_dflt (refine' ld ?k1 ?k2 ?_; (case k1 => k_asm); (case k2 => first | exact rfl | assumption); k_whole)))
local macro_rules | `(tactic| walk_at "loadName") => `(tactic| (k_here; k_dflt (refine' ldn ?k1 ?k2 ?_; (case k1 => k_asm); (case k2 => first | exact rfl | assumption); k_whole)))
local macro_rules | `(tactic| k_ne) => `(tactic| with_reducible (first | assumption | (refine Ne.symm ?_; assumption)))
namespace Mine
theorem bool_at {f : St} {i : Nat} (h : i < 26) : (boolsOf f)[i]? = some (.bool (f i).isSome) := by
  unfold boolsOf; simp [h]
/-- the letters `lo ..` (`m` of them) told to be of kind `k` -/
def tellM (f : St) (k : Int) (lo m : Nat) : St := fun j => if lo ≤ j ∧ j < lo + m then some k else f j
def setR (vs : List Value) (lo m : Nat) (v : Value) : List Value := vs.mapIdx fun j u => if lo ≤ j ∧ j < lo + m then v else u
open Classical in
noncomputable def tellErr (f : St) (lo hi : Nat) : Option Str := if hi < lo then some "letters that do not ascend" else if ∃ i, i < 26 ∧ lo ≤ i ∧ i ≤ hi ∧ (f i).isSome = true then some "a letter that is told twice" else none
theorem tellM_zero {f : St} {k : Int} {lo : Nat} : tellM f k lo 0 = f := by funext j; unfold tellM; rw [if_neg (by omega)]
theorem setR_zero {vs : List Value} {lo : Nat} {v : Value} : setR vs lo 0 v = vs := by
  refine List.ext_getElem? fun j => ?_
  unfold setR
  rw [List.getElem?_mapIdx]
  cases vs[j]? with
  | none => rfl
  | some u => simp only [Option.map_some]; rw [if_neg (by omega)]
theorem setR_len {vs : List Value} {lo m : Nat} {v : Value} : (setR vs lo m v).length = vs.length := by unfold setR; simp
theorem setR_succ {vs : List Value} {lo m : Nat} {v : Value} : (setR vs lo m v).set (lo + m) v = setR vs lo (m + 1) v := by
  refine List.ext_getElem? fun j => ?_
  rw [List.getElem?_set, setR_len]
  unfold setR
  rw [List.getElem?_mapIdx, List.getElem?_mapIdx]
  by_cases q : lo + m = j
  · subst q
    rw [if_pos rfl]
    by_cases z : lo + m < vs.length
    · rw [if_pos z, List.getElem?_eq_getElem z]
      simp only [Option.map_some]
      rw [if_pos (by omega)]
    · rw [if_neg z, List.getElem?_eq_none (by omega)]; rfl
  · rw [if_neg q]
    cases vs[j]? with
    | none => rfl
    | some u =>
      simp only [Option.map_some]
      by_cases z : lo ≤ j ∧ j < lo + m
      · rw [if_pos z, if_pos (by omega)]
      · rw [if_neg z, if_neg (by omega)]
theorem bools_succ {f : St} {k : Int} {lo m : Nat} : (boolsOf (tellM f k lo m)).set (lo + m) (.bool true) = boolsOf (tellM f k lo (m + 1)) := by
  refine List.ext_getElem? fun j => ?_
  have hl : (boolsOf (tellM f k lo m)).length = 26 := by simp [boolsOf]
  rw [List.getElem?_set, hl]
  by_cases hj : j < 26
  · rw [bool_at hj, bool_at hj]
    by_cases q : lo + m = j
    · subst q
      rw [if_pos rfl, if_pos hj]
      unfold tellM; rw [if_pos (by omega)]; rfl
    · rw [if_neg q]
      unfold tellM
      by_cases z : lo ≤ j ∧ j < lo + m
      · rw [if_pos z, if_pos (by omega)]
      · rw [if_neg z, if_neg (by omega)]
  · have e1 : (boolsOf (tellM f k lo m))[j]? = none := List.getElem?_eq_none (by simp [boolsOf]; omega)
    have e2 : (boolsOf (tellM f k lo (m + 1)))[j]? = none := List.getElem?_eq_none (by simp [boolsOf]; omega)
    rw [e1, e2]
    split
    · rw [if_neg (by omega)]
    · rfl

section
variable {w : World} {pg : Program} {loose : List Str} {mean : ExcName → Option Value} {mg mb : Str → Option Value}

theorem te_at {lo hi i : Nat} (h1 : lo < 26) (h3 : hi < 26) (hi' : i < hi + 1 - lo) : ((lo : Int) + (i : Int)).toNat = lo + i ∧ lo + i < 26 ∧ lo + i ≤ hi ∧ 0 ≤ (lo : Int) + (i : Int) ∧ (lo : Int) + (i : Int) < 26 := by omega
theorem te_sz {lo hi : Nat} : Builtin.Range.rangeSize (lo : Int) ((hi : Int) + 1) 1 = ((hi + 1 - lo : Nat) : Int) := size_of (by omega)
theorem te_sm {lo hi : Nat} (h1 : lo < 26) (h3 : hi < 26) : Builtin.Range.small (lo : Int) ((hi : Int) + 1) 1 = true := small_of (by omega) (by omega) (by omega) (by omega)
theorem te_free {f : St} {lo i : Nat} (e1 : ∀ j, lo ≤ j → j < lo + i → f j = none) (h : f (lo + i) = none) : ∀ j, lo ≤ j → j < lo + (i + 1) → f j = none := fun j z1 z2 => by
  by_cases q : j < lo + i
  · exact e1 j z1 q
  · rw [show j = lo + i by omega]; exact h
theorem te_ok {f : St} {lo hi : Nat} (hlt : lo ≤ hi) (e1 : ∀ j, lo ≤ j → j < lo + (hi + 1 - lo) → f j = none) : tellErr f lo hi = none := by
  unfold tellErr
  rw [if_neg (by omega), if_neg]
  rintro ⟨j, z0, z1, z2, z3⟩
  rw [e1 j z1 (by omega)] at z3; cases z3
theorem nat_le {lo hi : Nat} (h : ¬ ((hi : Int) < (lo : Int))) : lo ≤ hi := by omega
theorem new_ref {h h' : Heap} {e' : Addr} (hK : ∀ b o, h.get? b = some o → h'.get? b = some o) (hen : h'.get? e' = none) : h.get? e' = none := by
  cases q : h.get? e' with
  | none => rfl
  | some z => have := hK _ _ q; rw [hen] at this; cases this
theorem kept_lrt {s g h' : Heap} {L p q x y : Addr} {m : Str → Option Value} {o1 o2 o3 o4 o1' o2' : Obj} (hg : ∀ b o, s.get? b = some o → b ∉ [(p, o1), (q, o2), (x, o3), (y, o4)].map (·.1) → g.get? b = some o)
    (hs0 : ∀ z ∈ [(p, o1), (q, o2), (x, o3), (y, o4)], s.get? z.1 = some z.2) (F : Fr g L h' m) (N : News g L h' [(p, o1'), (q, o2'), (x, o3), (y, o4)]) : Kept [p, q] s h' := kept_end hg hs0 F (all_cons (P := fun z : Addr × Obj => z.1 ∉ [p, q] → h'.get? z.1 = some z.2) (fun n => absurd mm0 n) (all_cons (fun n => absurd mm1 n) (all_cons (fun _ => N.get mm2) (all_cons (fun _ => N.get mm3) all_nil))))
inductive TJ1 (w : World) (g : Heap) (L' lr lt x dx : Addr) (rules : List Value) (nr nt : Nat) (f : St) (rv : Value) (t1 t2 : Tok) (n : Nat) (lo hi : Nat) (tl th : Tok) (i : Nat) (h : Heap) : Prop
  | mk (m : Str → Option Value) (e1 : ∀ j, lo ≤ j → j < lo + i → f j = none) (F : Fr g L' h m) (hmh : m "high" = some (.int (hi : Int) th)) (hml : m "low" = some (.int (lo : Int) tl)) (hmr : m "rule" = some rv) (hmi : m "implicit" = some (.ref x)) (N : News g L' h [(lr, W.listOf rules.toArray nr), (lt, W.listOf (boolsOf f).toArray nt), (x, instObj 89 dx), (dx, impDict w lr lt t1 t2 n)]) : TJ1 w g L' lr lt x dx rules nr nt f rv t1 t2 n lo hi tl th i h
inductive TJ2 (w : World) (g : Heap) (L' lr lt x dx : Addr) (rules : List Value) (f : St) (k : Int) (rv : Value) (t1 t2 : Tok) (n : Nat) (lo : Nat) (i : Nat) (h : Heap) : Prop
  | mk (m : Str → Option Value) (nr' nt' : Nat) (F : Fr g L' h m) (hmr : m "rule" = some rv) (hmi : m "implicit" = some (.ref x)) (N : News g L' h [(lr, W.listOf (setR rules lo i rv).toArray nr'), (lt, W.listOf (boolsOf (tellM f k lo i)).toArray nt'), (x, instObj 89 dx), (dx, impDict w lr lt t1 t2 n)]) : TJ2 w g L' lr lt x dx rules f k rv t1 t2 n lo i h
theorem tell_spec ⦃dp un : Nat⦄ ⦃gd : Option (List Code)⦄ ⦃cn : Str⦄ ⦃cs : Scope⦄ ⦃L a : Addr⦄ ⦃ccd : Value⦄ ⦃cl : List (Str × Addr)⦄ ⦃outer : List Env⦄ ⦃A₀ : Around⦄ ⦃base h₀ : Heap⦄ ⦃m : Str → Option Value⦄ ⦃s : Shared⦄ ⦃Q E : Value → Shared → Prop⦄
    {x dx lr lt : Addr} {t1 t2 : Tok} {n nr nt : Nat} {rules : List Value} {f : St} {rv : Value} {lo hi : Nat} {tl th : Tok} (k : Int)
    (H : Here w pg loose mean mg mb cs A₀ base h₀ outer L m s.heap) (hdp : dp + 5 < 900)
    (N : News h₀ L s.heap [(lr, W.listOf rules.toArray nr), (lt, W.listOf (boolsOf f).toArray nt), (x, instObj 89 dx), (dx, impDict w lr lt t1 t2 n)]) (hne : @Ne Nat lr lt ∧ @Ne Nat lr x ∧ @Ne Nat lr dx ∧ @Ne Nat lt x ∧ @Ne Nat lt dx ∧ @Ne Nat x dx) (hrl : rules.length = 26) (h1 : lo < 26) (h3 : hi < 26)
    (hQ : ∀ h' tk nr' nt', tellErr f lo hi = none → lo ≤ hi → Kept [lr, lt] s.heap h' → h'.get? lr = some (W.listOf (setR rules lo (hi + 1 - lo) rv).toArray nr') → h'.get? lt = some (W.listOf (boolsOf (tellM f k lo (hi + 1 - lo))).toArray nt') → Q .none { s with heap := h', toks := tk })
    (hX : ∀ h' tk e y, Flies w (envX cn cs L a ccd cl :: outer) 56 y s.heap h' e → tellErr f lo hi = some y → E (.ref e) { s with heap := h', toks := tk }) :
    wpAny (model PySem.Challenge.rw_pq0349_01.row.prog w) (ktrTop dp un gd cn cs L a ccd cl outer) (call (.ref 100) [.ref x, rv, .int (lo : Int) tl, .int (hi : Int) th]) Q E s := by
  have B := H.B
  have F := H.F
  have X := H.X
  have T := H.T
  have hk := H.hk
  obtain ⟨n1, n2, n3, n4, n5, n6⟩ := hne
  revert X; k_fill; intro X
  refine wpAny_call ?_
  k_dflt (refine' Mine.enterP [("high", .int (hi : Int) th), ("low", .int (lo : Int) tl), ("rule", rv), ("implicit", .ref x)] ?k1 ?k2 ?k3 ?k4 ?k5 ?kA ?kF ?kK ?k6 ?k7 ?k8 ?k9 ?kB ?kbody ?c2 ?c3 ?c4 ?c5; (case kA => exact rfl); (case kF => exact rfl); (case kK => assumption); (case k1 => assumption); (case k2 => assumption); (case k3 => assumption); (case k4 => assumption); (case k5 => assumption); (case k6 => k_is); (case k7 => k_is); (case k8 => (show @LT.lt Nat _ _ 1000; (try dsimp only [ktrTop]); omega)); (case k9 => exact BindsTo.of_eq rfl); (case c5 => decide); (case kB => exact locs rfl); (case c2 => exact rfl); (case c3 => exact rfl); (case c4 => exact rfl); k_whole)
  intro g L' h₁ tk0 hg hL F' N' B' X' T'
  simp only [Mine.bindM] at F'
  have hs0 : ∀ p ∈ [(lr, W.listOf rules.toArray nr), (lt, W.listOf (boolsOf f).toArray nt), (x, instObj 89 dx), (dx, impDict w lr lt t1 t2 n)], s.heap.get? p.1 = some p.2 := fun p hp => (N p hp).1
  clear B F X T N
  (try dsimp only)
  refine gen1 ?_
  intro Qq hQq
  k_steps
  · rename _ < _ => hlt
    refine fault_made B' F' X' T' rfl (by dsimp only [ktrTop]; omega) (fault56 w) fun h3 tk3 e' d t1' u up hen hdn he hd => ?_
    refine ⟨e', d, t1', rfl, (X'.keeps F'.keep).keeps up, he, ?_⟩
    have hK : Kept [] s.heap _ := kept_end hg hs0 F' (fun p hp _ => N'.get hp)
    refine raise_leaves (G := s.heap) B' (F'.keeps up) rfl rfl (fun b o e => up _ _ (hK.all b o e)) (get_none_of_le hL) ?_ he hd (frs_live B' F' rfl hdn) fun h4 hf => hX _ _ _ _ hf ?_
    · exact new_ref hK.all hen
    · unfold tellErr; rw [if_pos (by omega)]
  · rename ¬ (_ < _) => hlt
    rename Fr _ _ _ _ => F1
    rename IsRange _ _ _ _ _ _ _ _ => hR
    rename News _ _ _ _ => N1
    rename Heap => h7
    have hI : @LT.lt Nat _ L' h7.objs.size := F1.ns.lt
    have hz := sizes4 N1
    have hle := nat_le hlt
    refine loop_range (n := hi + 1 - lo) (TJ1 w g L' lr lt x dx rules nr nt f rv t1 t2 n lo hi tl th) hR rfl (te_sm h1 h3) te_sz ?j0 ?stable ?turn ?done
    case j0 => exact ⟨_, (fun j z1 z2 => absurd z2 (Nat.not_lt.mpr z1)), F1, rfl, rfl, rfl, rfl, N1⟩
    case stable =>
      rintro i h h' ⟨m, e1, F, hmh, hml, hmr, hmi, N⟩ kp
      exact ⟨m, e1, fr_stable F hI kp, hmh, hml, hmr, hmi, news_stable N kp (sz4 hz all_nil)⟩
    case turn =>
      intro i h tk t9 I oI hi' HJ hIe hIo hIc
      refine genT ?_
      intro Ra hRa
      refine byG fun GG kG => ?_
      obtain ⟨m, e1, F, hmh, hml, hmr, hmi, N⟩ := HJ
      obtain ⟨ei, hi26, hihi, hp0, hp1⟩ := te_at h1 h3 hi'
      refine kG ?_
      clear kG hR F1 N1
      have NI := news_more F (by rw [hIe]; exact hI) hIo N
      clear N
      dsimp only at hIe ⊢
      have hit : (boolsOf f)[((lo : Int) + i).toNat]? = some (.bool (f (lo + i)).isSome) := ei.symm ▸ bool_at hi26
      replace ei : Hold _ := ei
      replace hi' : Hold _ := hi'
      refine wpAny_assign_Name (stN F NI (fun h1' F1' N1' => ?_))
      clear NI F
      have hlen26 : (boolsOf f).length = 26 := by simp [boolsOf]
      cases hfk : f (lo + i) with
      | none =>
        rw [hfk] at hit
        simp only [Option.isSome_none] at hit
        k_steps
        subst hRa
        exact ⟨_, _, rfl, ⟨_, te_free e1 hfk, F1', hmh, hml, hmr, hmi, news_sub N1' tl1⟩, fp_one hIo N1' (List.Mem.head _)⟩
      | some kk =>
        rw [hfk] at hit
        simp only [Option.isSome_some] at hit
        k_steps
        have N1'' := news_sub N1' (n₂ := [(lr, W.listOf rules.toArray nr), (lt, W.listOf (boolsOf f).toArray nt), (x, instObj 89 dx), (dx, impDict w lr lt t1 t2 n)]) tl1
        refine fault_made B' F1' X' T' rfl (by dsimp only [ktrTop]; omega) (fault56 w) fun h3 tk3 e' d t1' u up hen hdn he hd => ?_
        refine ⟨e', d, t1', rfl, (X'.keeps F1'.keep).keeps up, he, ?_⟩
        have hK : Kept [] s.heap _ := kept_end hg hs0 F1' (fun p hp _ => N1''.get hp)
        refine raise_leaves (G := s.heap) B' (F1'.keeps up) rfl rfl (fun b o e => up _ _ (hK.all b o e)) (get_none_of_le hL) ?_ he hd (frs_live B' F1' rfl hdn) fun h4 hf => hX _ _ _ _ hf ?_
        · exact new_ref hK.all hen
        · unfold tellErr; rw [if_neg (by omega), if_pos ⟨lo + i, hi26, Nat.le_add_right _ _, hihi, by rw [hfk]; rfl⟩]
    case done =>
      rintro h tk ⟨m, e1, F, hmh, hml, hmr, hmi, N⟩
      clear hR F1 N1 hI hz
      have hok := te_ok hle e1
      clear e1
      dsimp only
      k_steps
      rename Fr _ _ _ _ => F1
      rename IsRange _ _ _ _ _ _ _ _ => hR
      rename News _ _ _ _ => N1
      rename Heap => h8
      have hI : @LT.lt Nat _ L' h8.objs.size := F1.ns.lt
      have hz := sizes4 N1
      refine loop_range (n := hi + 1 - lo) (TJ2 w g L' lr lt x dx rules f k rv t1 t2 n lo) hR rfl (te_sm h1 h3) te_sz ?j0 ?stable ?turn ?done
      case j0 => exact ⟨_, nr, nt, F1, hmr, hmi, by rw [setR_zero, tellM_zero]; exact N1⟩
      case stable =>
        rintro i h h' ⟨m, nr', nt', F, hmr, hmi, N⟩ kp
        exact ⟨m, nr', nt', fr_stable F hI kp, hmr, hmi, news_stable N kp (sz4 hz all_nil)⟩
      case turn =>
        intro i h tk t9 I oI hi' HJ hIe hIo hIc
        refine genT ?_
        intro Ra hRa
        refine byG fun GG kG => ?_
        clear hmh hml hmr hmi
        obtain ⟨m, nr', nt', F, hmr, hmi, N⟩ := HJ
        obtain ⟨ei, hi26, hihi, hp0, hp1⟩ := te_at h1 h3 hi'
        refine kG ?_
        clear kG
        replace ei : Hold _ := ei
        replace hi' : Hold _ := hi'
        have hlr : @Ne Nat I lr := ne_of_eq_size hIe hz.1
        have hlt2 : @Ne Nat I lt := ne_of_eq_size hIe hz.2.1
        clear hR F1 N1
        have NI := news_more F (by rw [hIe]; exact hI) hIo N
        clear N
        dsimp only at hIe ⊢
        refine wpAny_assign_Name (stN F NI (fun h1' F1' N1' => ?_))
        clear NI F
        have hlen26 : (boolsOf (tellM f k lo i)).length = 26 := by simp [boolsOf]
        have hlenR : (setR rules lo i rv).length = 26 := by rw [setR_len, hrl]
        k_steps
        rename Fr _ _ _ _ => F2
        rename News _ _ _ _ => N2
        rw [show _ = _ from ei, setR_succ, bools_succ] at N2
        subst hRa
        exact ⟨_, _, rfl, ⟨_, nr', nt', F2, hmr, hmi, news_sub N2 tl1⟩, fp_one hIo N2 (List.Mem.head _)⟩
      case done =>
        rintro h tk ⟨m, nr', nt', F, hmr, hmi, N⟩
        clear F1 N1 hR
        dsimp only
        k_steps
        subst hQq
        exact hQ _ _ nr' nt' hok hle (kept_lrt hg hs0 F N) (N.get mm0) (N.get mm1)
end
end Mine
end
section
open PySem PySem.W PyProof.Rows PySem.Calls PySem.Spec
set_option Elab.async false
set_option maxRecDepth 100000
set_option maxHeartbeats 2000000
namespace Mine
abbrev Led := List (Addr × Obj)
def abc : Str := "ABCDEFGHIJKLMNOPQRSTUVWXYZ"
/-- the letter `i` -/
def letter (i : Nat) : Str := ⟨#[65 + i]⟩
/-- a rule's second part -/
def LenIn (T : Led) (v : Value) (k : Int) : Prop := (k ≠ 5 ∧ v = .none) ∨ (k = 5 ∧ ∃ a o t t' n, v = .ref a ∧ (a, o) ∈ T ∧ o.cls = .type "tuple" ∧ o.data = .seq [.str "int" t, .int 4 t'].toArray n)
/-- a list that lies in the ledger, item by item -/
def ListIn {α : Type} (T : Led) (P : Value → α → Prop) (v : Value) (xs : List α) : Prop :=
  ∃ a o vs n, v = .ref a ∧ (a, o) ∈ T ∧ o.cls = .type "list" ∧ o.data = .seq (vs : List Value).toArray n ∧ vs.length = xs.length ∧ ∀ (i : Nat) x, xs[i]? = some x → ∃ u, vs[i]? = some u ∧ P u x
def RunIn (T : Led) (v : Value) (r : Nat × Nat) : Prop := r.1 < 26 ∧ r.2 < 26 ∧ ∃ a o t t' n, v = .ref a ∧ (a, o) ∈ T ∧ o.cls = .type "tuple" ∧ o.data = .seq [.str (letter r.1) t, .str (letter r.2) t'].toArray n
def ArgIn (T : Led) (v : Value) (r : Int × List (Nat × Nat)) : Prop := ∃ a o t lv rv n, v = .ref a ∧ (a, o) ∈ T ∧ o.cls = .type "tuple" ∧ o.data = .seq [.int r.1 t, lv, rv].toArray n ∧ LenIn T lv r.1 ∧ ListIn T (RunIn T) rv r.2
abbrev ArgsIn (T : Led) (v : Value) (rs : List (Int × List (Nat × Nat))) : Prop := ListIn T (ArgIn T) v rs

theorem LenIn.reads {T : Led} {v : Value} {k : Int} (x : LenIn T v k) : ReadsIn T v (lenD k) := fun h b => by
  unfold lenD
  rcases x with ⟨hk, rfl⟩ | ⟨rfl, a, o, t, t', n, rfl, hm, hc, hd⟩
  · rw [if_neg hk]; exact .none
  · rw [if_pos rfl]; exact .tuple (b _ hm) hc hd (.cons (.str _ _) (.cons (.int _ _) .nil))
theorem LenIn.mono {T T' : Led} {v : Value} {k : Int} (x : LenIn T v k) (s : ∀ p ∈ T, p ∈ T') : LenIn T' v k := x.imp_right fun ⟨e, a, o, t, t', n, h1, h2, h3⟩ => ⟨e, a, o, t, t', n, h1, s _ h2, h3⟩
/-- the pair of a kind and its length reads as a rule -/
theorem pair_rule {T : Led} {a : Addr} {o : Obj} {k : Int} {t : Tok} {lv : Value} {n : Nat} (hm : (a, o) ∈ T) (hc : o.cls = .type "tuple") (hd : o.data = .seq [.int k t, lv].toArray n) (hl : LenIn T lv k) : ReadsIn T (.ref a) (ruleD k) :=
  fun h b => .tuple (b _ hm) hc hd (.cons (.int _ _) (.cons (hl.reads h b) .nil))

noncomputable def runF (f : St) (k : Int) : List (Nat × Nat) → St × Option Str
  | [] => (f, none)
  | (lo, hi) :: r => match tellErr f lo hi with
    | some e => (f, some e)
    | none => runF (tellM f k lo (hi + 1 - lo)) k r
noncomputable def addF (f : St) : List (Int × List (Nat × Nat)) → St × Option Str
  | [] => (f, none)
  | (k, runs) :: r => match runF f k runs with
    | (f', some e) => (f', some e)
    | (f', none) => addF f' r

/-- what is left of a rule and of the rules behind it -/
noncomputable def contF (f : St) (k : Int) (runs : List (Nat × Nat)) (rest : List (Int × List (Nat × Nat))) : St × Option Str :=
  match runF f k runs with
  | (f', some e) => (f', some e)
  | (f', none) => addF f' rest
theorem addF_cons {f : St} {r : Int × List (Nat × Nat)} {rest : List (Int × List (Nat × Nat))} : addF f (r :: rest) = contF f r.1 r.2 rest := by
  obtain ⟨k, runs⟩ := r
  rfl
theorem contF_nil {f : St} {k : Int} {rest : List (Int × List (Nat × Nat))} : contF f k [] rest = addF f rest := rfl
theorem contF_err {f : St} {k : Int} {r : Nat × Nat} {runs : List (Nat × Nat)} {rest : List (Int × List (Nat × Nat))} {e : Str} (h : tellErr f r.1 r.2 = some e) : contF f k (r :: runs) rest = (f, some e) := by
  obtain ⟨lo, hi⟩ := r
  unfold contF runF
  rw [h]
theorem contF_ok {f : St} {k : Int} {r : Nat × Nat} {runs : List (Nat × Nat)} {rest : List (Int × List (Nat × Nat))} (h : tellErr f r.1 r.2 = none) : contF f k (r :: runs) rest = contF (tellM f k r.1 (r.2 + 1 - r.1)) k runs rest := by
  obtain ⟨lo, hi⟩ := r
  unfold contF
  rw [show runF f k ((lo, hi) :: runs) = runF (tellM f k lo (hi + 1 - lo)) k runs by rw [runF, show tellErr f lo hi = none from h]]
theorem rules_set {T : Led} {vs : List Value} {f : St} {v : Value} {k : Int} {lo m : Nat} (x : RulesIn T vs f) (hv : ReadsIn T v (ruleD k)) : RulesIn T (setR vs lo m v) (tellM f k lo m) := by
  refine ⟨by rw [setR_len]; exact x.1, fun i hi => ?_⟩
  obtain ⟨u, hu, r⟩ := x.2 i hi
  unfold setR kindAt tellM
  rw [List.getElem?_mapIdx, hu]
  by_cases z : lo ≤ i ∧ i < lo + m
  · exact ⟨v, by simp only [Option.map_some]; rw [if_pos z], by rw [if_pos z]; exact hv⟩
  · exact ⟨u, by simp only [Option.map_some]; rw [if_neg z], by rw [if_neg z]; exact r⟩
theorem find_abc : ∀ i, i < 26 → Txt.find "ABCDEFGHIJKLMNOPQRSTUVWXYZ" (letter i) = i := by decide +kernel
end Mine
end
section
open PySem PySem.W PyProof.Rows PySem.Calls PySem.Spec
set_option Elab.async false
namespace Mine
/-- a run of letters that are alike: the kind, the first and the last letter -/
abbrev Seg := Int × Nat × Nat
def glue (acc : List Seg) (n : Nat) : List Seg := match acc.getLast? with
  | some (k, lo, _) => acc.dropLast ++ [(k, lo, n)]
  | none => acc
/-- the runs of the letters below `n` -/
def foldF (f : St) : Nat → List Seg
  | 0 => []
  | n + 1 => match f n with
    | none => foldF f n
    | some k => if 0 < n ∧ f (n - 1) = some k then glue (foldF f n) n else foldF f n ++ [(k, n, n)]
def segArg (s : Seg) : Int × List (Nat × Nat) := (s.1, [(s.2.1, s.2.2)])
def cut (f : St) (n : Nat) : St := fun i => if i < n then f i else none

theorem glue_snoc {pre : List Seg} {k : Int} {lo m n : Nat} : glue (pre ++ [(k, lo, m)]) n = pre ++ [(k, lo, n)] := by
  unfold glue
  rw [List.getLast?_append]
  simp
theorem fold_none {f : St} {n : Nat} (h : f n = none) : foldF f (n + 1) = foldF f n := by rw [foldF, h]
theorem fold_glue {f : St} {n : Nat} {k : Int} (h : f n = some k) (h0 : 0 < n) (h1 : f (n - 1) = some k) : foldF f (n + 1) = glue (foldF f n) n := by rw [foldF, h]; simp only; rw [if_pos ⟨h0, h1⟩]
theorem fold_new {f : St} {n : Nat} {k : Int} (h : f n = some k) (h1 : ¬ (0 < n ∧ f (n - 1) = some k)) : foldF f (n + 1) = foldF f n ++ [(k, n, n)] := by rw [foldF, h]; simp only; rw [if_neg h1]
theorem fold_last {f : St} : ∀ {n : Nat} {k : Int}, f n = some k → ∃ pre lo, foldF f (n + 1) = pre ++ [(k, lo, n)] ∧ lo ≤ n
  | 0, k, h => ⟨[], 0, by rw [fold_new h (by omega)]; rfl, Nat.le_refl _⟩
  | n + 1, k, h => by
    by_cases q : f n = some k
    · obtain ⟨pre, lo, e, hle⟩ := fold_last q
      exact ⟨pre, lo, by rw [fold_glue h (by omega) q, e, glue_snoc], by omega⟩
    · exact ⟨foldF f (n + 1), n + 1, by rw [fold_new h (fun z => q z.2)], Nat.le_refl _⟩
theorem fold_skip {f : St} {b : Nat} : ∀ {b' : Nat}, b ≤ b' → (∀ i, b ≤ i → i < b' → f i = none) → foldF f b' = foldF f b
  | 0, h, _ => by rw [show b = 0 by omega]
  | n + 1, h, hn => by
    by_cases q : b = n + 1
    · rw [q]
    · rw [fold_none (hn n (by omega) (by omega))]
      exact fold_skip (by omega) fun i h1 h2 => hn i h1 (by omega)
theorem fold_in {f : St} : ∀ {n : Nat} {s : Seg}, s ∈ foldF f n → s.2.1 ≤ s.2.2 ∧ s.2.2 < n ∧ f s.2.2 = some s.1
  | 0, s, h => nomatch h
  | n + 1, s, h => by
    cases e : f n with
    | none =>
      rw [fold_none e] at h
      obtain ⟨h1, h2, h3⟩ := fold_in h
      exact ⟨h1, by omega, h3⟩
    | some k =>
      by_cases q : 0 < n ∧ f (n - 1) = some k
      · obtain ⟨m, rfl⟩ : ∃ m, n = m + 1 := ⟨n - 1, by omega⟩
        obtain ⟨pre, lo, e1, hle⟩ := fold_last (f := f) (n := m) q.2
        rw [fold_glue e q.1 q.2, e1, glue_snoc] at h
        rcases List.mem_append.mp h with h | h
        · obtain ⟨h1, h2, h3⟩ := fold_in (f := f) (n := m + 1) (s := s) (by rw [e1]; exact List.mem_append_left _ h)
          exact ⟨h1, by omega, h3⟩
        · rw [List.mem_singleton.mp h]; exact ⟨by dsimp only; omega, by dsimp only; omega, e⟩
      · rw [fold_new e q] at h
        rcases List.mem_append.mp h with h | h
        · obtain ⟨h1, h2, h3⟩ := fold_in h
          exact ⟨h1, by omega, h3⟩
        · rw [List.mem_singleton.mp h]; exact ⟨Nat.le_refl _, by dsimp only; omega, e⟩
theorem fold_len {f : St} : ∀ {n : Nat}, (foldF f n).length ≤ n
  | 0 => Nat.le_refl _
  | n + 1 => by
    have ih := fold_len (f := f) (n := n)
    cases e : f n with
    | none => rw [fold_none e]; omega
    | some k =>
      by_cases q : 0 < n ∧ f (n - 1) = some k
      · obtain ⟨m, rfl⟩ : ∃ m, n = m + 1 := ⟨n - 1, by omega⟩
        obtain ⟨pre, lo, e1, hle⟩ := fold_last (f := f) (n := m) q.2
        rw [fold_glue e q.1 q.2, e1, glue_snoc]
        rw [e1] at ih
        simp at ih ⊢; omega
      · rw [fold_new e q]; simp; omega

theorem addF_step {f : St} {k : Int} {runs : List (Nat × Nat)} {r : List (Int × List (Nat × Nat))} : addF f ((k, runs) :: r) = match runF f k runs with
  | (f', some e) => (f', some e)
  | (f', none) => addF f' r := rfl
theorem addF_append {f f' : St} : ∀ {a b : List (Int × List (Nat × Nat))}, addF f a = (f', none) → addF f (a ++ b) = addF f' b
  | [], b, h => by cases h; rfl
  | (k, runs) :: r, b, h => by
    rw [List.cons_append, addF_step]
    rw [addF_step] at h
    cases e : runF f k runs with
    | mk f₁ o =>
      rw [e] at h
      cases o with
      | some z => simp at h
      | none => simp only at h ⊢; exact addF_append h
theorem addF_pre {f f' : St} : ∀ {a b : List (Int × List (Nat × Nat))}, addF f (a ++ b) = (f', none) → ∃ g, addF f a = (g, none)
  | [], b, h => ⟨f, rfl⟩
  | (k, runs) :: r, b, h => by
    rw [List.cons_append, addF_step] at h
    rw [addF_step]
    cases e : runF f k runs with
    | mk f₁ o =>
      rw [e] at h
      cases o with
      | some z => simp at h
      | none => simp only at h ⊢; exact addF_pre h
theorem addF_seg {g : St} {k : Int} {lo hi : Nat} : addF g [segArg (k, lo, hi)] = match tellErr g lo hi with | some e => (g, some e) | none => (tellM g k lo (hi + 1 - lo), none) := by
  unfold segArg addF runF
  cases e : tellErr g lo hi <;> simp [runF, addF]
theorem tellErr_ok {g : St} {lo hi : Nat} (h : lo ≤ hi) (hh : hi < 26) (hn : ∀ i, lo ≤ i → i ≤ hi → g i = none) : tellErr g lo hi = none := by
  unfold tellErr
  rw [if_neg (by omega), if_neg]
  rintro ⟨i, _, h1, h2, h3⟩
  rw [hn i h1 h2] at h3; cases h3
theorem tellErr_clear {g : St} {lo hi : Nat} (h : tellErr g lo hi = none) (hh : hi < 26) : lo ≤ hi ∧ ∀ i, lo ≤ i → i ≤ hi → g i = none := by
  unfold tellErr at h
  split at h
  · cases h
  · split at h
    · cases h
    · rename_i h1 h2
      refine ⟨by omega, fun i h3 h4 => ?_⟩
      cases e : g i with
      | none => rfl
      | some k => exact absurd ⟨i, by omega, h3, h4, by rw [e]; rfl⟩ h2

theorem addF_fold {f : St} : ∀ {n : Nat}, n ≤ 26 → addF (fun _ => none) ((foldF f n).map segArg) = (cut f n, none)
  | 0, _ => by
    show ((fun _ => none : St), none) = _
    congr 1
  | n + 1, hn => by
    have ih := addF_fold (f := f) (n := n) (by omega)
    cases e : f n with
    | none =>
      rw [fold_none e, ih]
      congr 1
      funext i
      unfold cut
      by_cases q : i = n
      · subst q; rw [if_neg (by omega), if_pos (by omega), e]
      · by_cases z : i < n
        · rw [if_pos z, if_pos (by omega)]
        · rw [if_neg z, if_neg (by omega)]
    | some k =>
      by_cases q : 0 < n ∧ f (n - 1) = some k
      · obtain ⟨m, rfl⟩ : ∃ m, n = m + 1 := ⟨n - 1, by omega⟩
        obtain ⟨pre, lo, e1, hle⟩ := fold_last (f := f) (n := m) q.2
        rw [fold_glue e q.1 q.2, e1, glue_snoc]
        rw [e1, List.map_append] at ih
        obtain ⟨g, hg⟩ := addF_pre ih
        rw [addF_append hg] at ih
        rw [List.map_append, addF_append hg]
        simp only [List.map_cons, List.map_nil] at ih ⊢
        rw [addF_seg] at ih ⊢
        cases et : tellErr g lo m with
        | some z => rw [et] at ih; simp at ih
        | none =>
          rw [et] at ih
          have ih' : tellM g k lo (m + 1 - lo) = cut f (m + 1) := congrArg Prod.fst ih
          obtain ⟨_, hc⟩ := tellErr_clear et (by omega)
          have at_ : ∀ i, tellM g k lo (m + 1 - lo) i = cut f (m + 1) i := fun i => by rw [ih']
          have hgn : g (m + 1) = none := by
            have := at_ (m + 1)
            unfold tellM cut at this
            rw [if_neg (by omega), if_neg (by omega)] at this
            exact this
          rw [tellErr_ok (by omega) (by omega) (fun i h1 h2 => by
            by_cases z : i = m + 1
            · rw [z]; exact hgn
            · exact hc i h1 (by omega))]
          simp only
          congr 1
          funext i
          have := at_ i
          unfold tellM cut at this ⊢
          by_cases z : i = m + 1
          · subst z; rw [if_pos (by omega), if_pos (by omega), e]
          · by_cases z2 : lo ≤ i ∧ i < lo + (m + 1 - lo)
            · rw [if_pos z2] at this
              rw [if_pos (by omega), if_pos (by omega), this, if_pos (by omega)]
            · rw [if_neg z2] at this
              rw [if_neg (by omega), this]
              by_cases z3 : i < m + 1
              · rw [if_pos z3, if_pos (by omega)]
              · rw [if_neg z3, if_neg (by omega)]
      · rw [fold_new e q, List.map_append, addF_append ih]
        simp only [List.map_cons, List.map_nil]
        rw [addF_seg, tellErr_ok (Nat.le_refl _) (by omega) (fun i h1 h2 => by unfold cut; rw [if_neg (by omega)])]
        simp only
        congr 1
        funext i
        unfold tellM cut
        by_cases z : i = n
        · subst z; rw [if_pos (by omega), if_pos (by omega), e]
        · rw [if_neg (by omega)]
          by_cases z2 : i < n
          · rw [if_pos z2, if_pos (by omega)]
          · rw [if_neg z2, if_neg (by omega)]
theorem rules_cut {T : List (Addr × Obj)} {vs : List Value} {f g : St} (h : ∀ i, i < 26 → f i = g i) (x : RulesIn T vs f) : RulesIn T vs g :=
  ⟨x.1, fun i hi => let ⟨v, e, r⟩ := x.2 i hi; ⟨v, e, by rw [show kindAt g i = kindAt f i by unfold kindAt; rw [h i hi]]; exact r⟩⟩
theorem bools_cut {f g : St} (h : ∀ i, i < 26 → f i = g i) : boolsOf f = boolsOf g := by
  unfold boolsOf
  refine List.map_congr_left fun i hi => ?_
  rw [h i (List.mem_range.mp hi)]
end Mine
end
section
open PySem PySem.W PyProof.Rows PySem.Calls PySem.Spec
set_option Elab.async false
set_option maxRecDepth 100000
set_option maxHeartbeats 4000000
local macro_rules | `(tactic| walk_at "subscriptTail") => `(tactic| (k_here; (with_reducible show wpAny _ _ (subscriptTail _ _ (Value.ref _) (Value.int _ _)) _ _ _); (refine' item_listL ?k1 ?k2 ?k3 ?k4 ?_; (case k1 => is_list); (case k4 => with_reducible assumption); (case k2 => omega); (case k3 => omega))))
local macro_rules | `(tactic| walk_at "eval Name") => `(tactic| (k_here; k_dflt (refine' ld ?k1 ?k2 ?_; (case k1 => k_asm); (case k2 => first | exact rfl | assumption); k_whole)))
local macro_rules | `(tactic| walk_at "exec For Name Call cons nil") => `(tactic| (k_here; k_dflt (refine' Mine.for_open ?_)))
local macro_rules | `(tactic| walk_at "exec For Name Name cons nil") => `(tactic| (k_here; k_dflt (refine' Mine.for_open ?_)))
local macro_rules | `(tactic| walk_at "exec For Tuple Name cons nil") => `(tactic| (k_here; k_dflt (refine' Mine.for_open ?_)))

namespace Mine
theorem news_two {g h h' : Heap} {L p q : Addr} {o1 o2 o1' o2' : Obj} {rest : Led} (N : News g L h ((p, o1) :: (q, o2) :: rest)) (k : Kept [p, q] h h') (e1 : h'.get? p = some o1') (e2 : h'.get? q = some o2') (hne : ∀ x ∈ rest, x.1 ≠ p ∧ x.1 ≠ q) : News g L h' ((p, o1') :: (q, o2') :: rest) := fun x hx => by
  rcases List.mem_cons.mp hx with rfl | hx
  · exact ⟨e1, (N _ (.head _)).2⟩
  · rcases List.mem_cons.mp hx with rfl | hx
    · exact ⟨e2, (N _ (.tail _ (.head _))).2⟩
    · exact ⟨k _ _ (N x (.tail _ (.tail _ hx))).1 (by
        simp only [List.mem_cons, List.not_mem_nil, or_false]
        rintro (z | z)
        · exact (hne x hx).1 z
        · exact (hne x hx).2 z), (N x (.tail _ (.tail _ hx))).2⟩
theorem fr_two {g h h' : Heap} {L p q : Addr} {m : Str → Option Value} {o1 o2 : Obj} {rest : Led} (F : Fr g L h m) (N : News g L h ((p, o1) :: (q, o2) :: rest)) (k : Kept [p, q] h h') : Fr g L h' m :=
  fr_kept F k fun a ha => by
    simp only [List.mem_cons, List.not_mem_nil, or_false] at ha
    rcases ha with rfl | rfl
    · exact (N _ (.head _)).2.symm
    · exact (N _ (.tail _ (.head _))).2.symm
theorem fp_list {g h h' : Heap} {L I b : Addr} {m' : Str → Option Value} {oI ol : Obj} {news : Led} (eI : h.get? I = some oI) (eL : h.get? b = some ol) (hg : g.get? b = some ol) (F' : Fr g L h' m') (N : News g L h' news) (hm : (I, oI) ∈ news) : ∀ c ∈ [I, b], ∀ o, h.get? c = some o → h'.get? c = some o := fun c hc o e => by
  rcases List.mem_cons.mp hc with rfl | hc
  · rw [eI] at e; cases e; exact N.get hm
  · rw [List.mem_singleton.mp hc] at e ⊢
    rw [eL] at e; cases e
    exact F'.keep _ _ hg
theorem t_app0 {T Tr : Led} : ∀ p ∈ T, p ∈ ([] : Led) ++ (Tr ++ T) := fun _ h => List.mem_append_right _ (List.mem_append_right _ h)
theorem sub_mid {A Tr T : Led} : ∀ p ∈ Tr, p ∈ A ++ (Tr ++ T) := fun _ h => List.mem_append_right _ (List.mem_append_left _ h)
theorem kept_two {s g h' : Heap} {L p q x y : Addr} {m : Str → Option Value} {o1 o2 o3 o4 o1' o2' : Obj} {rest : Led} (hg : ∀ b o, s.get? b = some o → b ∉ [(p, o1), (q, o2), (x, o3), (y, o4)].map (·.1) → g.get? b = some o)
    (hs0 : ∀ z ∈ [(p, o1), (q, o2), (x, o3), (y, o4)], s.get? z.1 = some z.2) (F : Fr g L h' m) (N : News g L h' ((p, o1') :: (q, o2') :: (x, o3) :: (y, o4) :: rest)) : Kept [p, q] s h' := kept_end hg hs0 F fun z hz hn => by
  simp only [List.mem_cons, List.not_mem_nil, or_false] at hz hn
  rcases hz with rfl | rfl | rfl | rfl
  · exact absurd (.inl rfl) hn
  · exact absurd (.inr rfl) hn
  · exact N.get (.tail _ (.tail _ (.head _)))
  · exact N.get (.tail _ (.tail _ (.tail _ (.head _))))
inductive AJ1 (w : World) (g : Heap) (L' rl x lr lt dx : Addr) (t1 t2 : Tok) (n : Nat) (f : St) (rs : List (Int × List (Nat × Nat))) (Tr T : Led) (sz : Nat) (i : Nat) (h : Heap) : Prop
  | mk (m : Str → Option Value) (f' : St) (rules' : List Value) (nr' nt' : Nat) (Tn : Led) (e1 : addF f rs = addF f' (rs.drop i)) (F : Fr g L' h m) (hself : m "self" = some (.ref x))
     (N : News g L' h ((lr, W.listOf rules'.toArray nr') :: (lt, W.listOf (boolsOf f').toArray nt') :: (x, instObj 89 dx) :: (dx, impDict w lr lt t1 t2 n) :: Tn)) (hR : RulesIn (Tn ++ (Tr ++ T)) rules' f') (hT1 : ∀ p ∈ Tn, @LT.lt Nat _ L' p.1) (hT2 : ∀ p ∈ Tn, p.1 ≠ sz) : AJ1 w g L' rl x lr lt dx t1 t2 n f rs Tr T sz i h
inductive AJ2 (w : World) (g : Heap) (L' rl x lr lt dx : Addr) (t1 t2 : Tok) (n : Nat) (f : St) (rs : List (Int × List (Nat × Nat))) (Tr T : Led) (sz sz9 : Nat) (r : Int × List (Nat × Nat)) (ta : Tok) (lv : Value) (i : Nat) (I : Addr) (oI : Obj) (j : Nat) (h : Heap) : Prop
  | mk (m : Str → Option Value) (f2 : St) (rules2 : List Value) (nr2 nt2 : Nat) (Tn2 : Led) (e2 : addF f rs = contF f2 r.1 (r.2.drop j) (rs.drop (i + 1))) (F : Fr g L' h m) (hself : m "self" = some (.ref x)) (hkind : m "kind" = some (.int r.1 ta)) (hlength : m "length" = some lv)
     (N : News g L' h ((lr, W.listOf rules2.toArray nr2) :: (lt, W.listOf (boolsOf f2).toArray nt2) :: (x, instObj 89 dx) :: (dx, impDict w lr lt t1 t2 n) :: (I, oI) :: Tn2)) (hR : RulesIn (Tn2 ++ (Tr ++ T)) rules2 f2) (hT1 : ∀ p ∈ Tn2, @LT.lt Nat _ L' p.1) (hT2 : ∀ p ∈ Tn2, p.1 ≠ sz) (hT3 : ∀ p ∈ Tn2, p.1 ≠ sz9) : AJ2 w g L' rl x lr lt dx t1 t2 n f rs Tr T sz sz9 r ta lv i I oI j h
section
variable {w : World} {pg : Program} {loose : List Str} {mean : ExcName → Option Value} {mg mb : Str → Option Value}

theorem add_spec ⦃dp un : Nat⦄ ⦃gd : Option (List Code)⦄ ⦃cn : Str⦄ ⦃cs : Scope⦄ ⦃L a : Addr⦄ ⦃ccd : Value⦄ ⦃cl : List (Str × Addr)⦄ ⦃outer : List Env⦄ ⦃A₀ : Around⦄ ⦃base h₀ : Heap⦄ ⦃m : Str → Option Value⦄ ⦃s : Shared⦄ ⦃Q E : Value → Shared → Prop⦄
    {x dx lr lt rl : Addr} {t1 t2 : Tok} {n nr nt : Nat} {rules : List Value} {f : St} {T Tr : Led} {rs : List (Int × List (Nat × Nat))}
    (H : Here w pg loose mean mg mb cs A₀ base h₀ outer L m s.heap) (hdp : dp + 10 < 900)
    (N : News h₀ L s.heap ((lr, W.listOf rules.toArray nr) :: (lt, W.listOf (boolsOf f).toArray nt) :: (x, instObj 89 dx) :: (dx, impDict w lr lt t1 t2 n) :: [])) (hne : @Ne Nat lr lt ∧ @Ne Nat lr x ∧ @Ne Nat lr dx ∧ @Ne Nat lt x ∧ @Ne Nat lt dx ∧ @Ne Nat x dx)
    (hR : RulesIn T rules f) (hA : ArgsIn Tr (.ref rl) rs) (hTr : Bears s.heap Tr) (hTn : ∀ p ∈ Tr, @Ne Nat p.1 lr ∧ @Ne Nat p.1 lt ∧ @Ne Nat p.1 x ∧ @Ne Nat p.1 dx)
    (hQ : ∀ h' tk rules' nr' nt' Tn f', addF f rs = (f', none) → Kept [lr, lt] s.heap h' → h'.get? lr = some (W.listOf rules'.toArray nr') → h'.get? lt = some (W.listOf (boolsOf f').toArray nt') → RulesIn (Tn ++ (Tr ++ T)) rules' f' → Fresh s.heap h' Tn → Q .none { s with heap := h', toks := tk })
    (hX : ∀ h' tk e y G rules' nr' nt' Tn f', addF f rs = (f', some y) → Flies w (envX cn cs L a ccd cl :: outer) 56 y G h' e → Kept [lr, lt] s.heap G → G.get? lr = some (W.listOf rules'.toArray nr') → G.get? lt = some (W.listOf (boolsOf f').toArray nt') → RulesIn (Tn ++ (Tr ++ T)) rules' f' → Fresh s.heap G Tn → E (.ref e) { s with heap := h', toks := tk }) :
    wpAny (model PySem.Challenge.rw_pq0349_01.row.prog w) (ktrTop dp un gd cn cs L a ccd cl outer) (call (.ref 79) [.ref x, .ref rl]) Q E s := by
  have B := H.B
  have F := H.F
  have X := H.X
  have T0 := H.T
  have hk := H.hk
  obtain ⟨n1, n2, n3, n4, n5, n6⟩ := hne
  revert X; k_fill; intro X
  refine wpAny_call ?_
  k_dflt (refine' Mine.enterP [("rules", .ref rl), ("self", .ref x)] ?k1 ?k2 ?k3 ?k4 ?k5 ?kA ?kF ?kK ?k6 ?k7 ?k8 ?k9 ?kB ?kbody ?c2 ?c3 ?c4 ?c5; (case kA => exact rfl); (case kF => exact rfl); (case kK => assumption); (case k1 => assumption); (case k2 => assumption); (case k3 => assumption); (case k4 => assumption); (case k5 => assumption); (case k6 => k_is); (case k7 => k_is); (case k8 => (show @LT.lt Nat _ _ 1000; (try dsimp only [ktrTop]); omega)); (case k9 => exact BindsTo.of_eq rfl); (case c5 => decide); (case kB => exact locs rfl); (case c2 => exact rfl); (case c3 => exact rfl); (case c4 => exact rfl); k_whole)
  intro g L' h₁ tk0 hg hL F' N' B' X' T'
  simp only [Mine.bindM] at F'
  have hs0 : ∀ p ∈ ((lr, W.listOf rules.toArray nr) :: (lt, W.listOf (boolsOf f).toArray nt) :: (x, instObj 89 dx) :: (dx, impDict w lr lt t1 t2 n) :: []), s.heap.get? p.1 = some p.2 := fun p hp => (N p hp).1
  have hTg : Bears g Tr := fun p hp => hg _ _ (hTr p hp) (by
    obtain ⟨z1, z2, z3, z4⟩ := hTn p hp
    exact not_mem4 z1 z2 z3 z4)
  clear B F X T0 N
  obtain ⟨_, ol, vs, nl, e0, hm, hc, hd, hvl, hvs⟩ := hA
  cases e0
  have hl : g.IsList rl vs.toArray := ⟨ol, hTg _ hm, hc, nl, hd⟩
  (try dsimp only)
  have hI : @LT.lt Nat _ L' h₁.objs.size := F'.ns.lt
  have hz := sizes4 N'
  refine gen1 ?_
  intro Qq hQq
  k_steps
  refine loop_list (items := vs) (AJ1 w g L' rl x lr lt dx t1 t2 n f rs Tr T h₁.objs.size) (hl.at fun o e => F'.keep _ _ e) rfl ?j0 ?stable ?turn ?done ?ht
  case ht =>
    refine .inr ⟨_, _, _, rfl, fun i v e => ?_⟩
    obtain ⟨r, hr⟩ := get_of_len (l := rs) e hvl
    obtain ⟨u, hu, ra, o, ta, lv, rv, na, rfl, _⟩ := hvs i r hr
    rw [e] at hu
    exact ⟨ra, Option.some.inj hu⟩
  case j0 =>
    exact ⟨_, f, rules, nr, nt, [], by simp, F', rfl, N', hR.mono t_app0, all_nil, all_nil⟩
  case stable =>
    rintro i h h' ⟨m, f', rules', nr', nt', Tn, e1, F, hself, N, hR', hT1, hT2⟩ kp
    exact ⟨m, f', rules', nr', nt', Tn, e1, fr_stable F hI kp, hself, news_stable N kp (sz4 hz hT2), hR', hT1, hT2⟩
  case turn =>
    intro i v h tk I oI hv HJ hIe hIo hIc hll
    refine genT ?_
    intro Ra hRa
    refine byG fun GG kG => ?_
    obtain ⟨m, f', rules', nr', nt', Tn, e1, F, hself, N, hR', hT1, hT2⟩ := HJ
    obtain ⟨r, hr⟩ := get_of_len (l := rs) hv hvl
    obtain ⟨u, hu, ra, o, ta, lv, rv, na, hu2, hma, hca, hda, hlen, b, o2, ws, nl2, hu3, hm2, hc2, hd2, hwl, hws⟩ := hvs i r hr
    subst hu3
    subst hu2
    rw [hv] at hu
    cases hu
    have hta : IsTup g ra [.int r.1 ta, lv, .ref b].toArray := ⟨o, hTg _ hma, hca, na, hda⟩
    refine kG ?_
    clear kG F' N'
    dsimp only at hIe ⊢
    have hLI : @LT.lt Nat _ L' I := by rw [hIe]; exact hI
    have NI := news_sub (news_more F hLI hIo N) rot4
    have hIlr : @Ne Nat I lr := ne_of_eq_size hIe hz.1
    have hIlt : @Ne Nat I lt := ne_of_eq_size hIe hz.2.1
    have hl2 : g.IsList b ws.toArray := ⟨o2, hTg _ hm2, hc2, nl2, hd2⟩
    have hrl0 : h.get? rl = some ol := F.keep _ _ (hTg _ hm)
    clear N
    have ed := drop_get hr
    rw [ed, addF_cons] at e1
    k_steps
    rename Fr _ _ _ _ => F2
    rename News _ _ _ _ => N2
    rename Heap => h9
    have hI2 : @LT.lt Nat _ L' h9.objs.size := F2.ns.lt
    have hz2 := sizes5 N2
    have hTn9 : ∀ p ∈ Tn, p.1 ≠ h9.objs.size := sizes N2 tl5
    refine loop_list (items := ws) (AJ2 w g L' rl x lr lt dx t1 t2 n f rs Tr T h₁.objs.size h9.objs.size r ta lv i I oI) (hl2.at fun o e => F2.keep _ _ e) rfl ?ij0 ?istable ?iturn ?idone ?iht
    case iht =>
      refine .inr ⟨_, _, _, rfl, fun i v e => ?_⟩
      obtain ⟨q, hq⟩ := get_of_len (l := r.2) e hwl
      obtain ⟨u, hu, _, _, ca, co, tc, tc', nc, rfl, _⟩ := hws i q hq
      rw [e] at hu
      exact ⟨ca, Option.some.inj hu⟩
    case ij0 => exact ⟨_, f', rules', nr', nt', Tn, by simpa using e1, F2, hself, rfl, rfl, N2, hR', hT1, hT2, hTn9⟩
    case istable =>
      rintro j h h' ⟨m2, f2, rules2, nr2, nt2, Tn2, e2, F, hself2, hkind2, hlength2, N, hR2, hT1, hT2, hT3⟩ kp
      exact ⟨m2, f2, rules2, nr2, nt2, Tn2, e2, fr_stable F hI2 kp, hself2, hkind2, hlength2, news_stable N kp (sz5 hz2 hT3), hR2, hT1, hT2, hT3⟩
    case iturn =>
      intro j v h tk I2 oI2 hv2 HJ hIe2 hIo2 hIc2 hll2
      refine genT ?_
      intro Rb hRb
      refine byG fun GG kG => ?_
      obtain ⟨m2, f2, rules2, nr2, nt2, Tn2, e2, F, hself2, hkind2, hlength2, N, hR2, hT1, hT2, hT3⟩ := HJ
      obtain ⟨q, hq⟩ := get_of_len (l := r.2) hv2 hwl
      obtain ⟨u, hu, hlo, hhi, ca, co, tc, tc', nc, hu2, hmc, hcc, hdc⟩ := hws j q hq
      subst hu2
      rw [hv2] at hu
      cases hu
      have htc : IsTup g ca [.str (letter q.1) tc, .str (letter q.2) tc'].toArray := ⟨co, hTg _ hmc, hcc, nc, hdc⟩
      have ed2 := drop_get hq
      rw [ed2] at e2
      have hb0 : h.get? b = some o2 := F.keep _ _ (hTg _ hm2)
      dsimp only at hIe2
      have hI2lr : @Ne Nat I2 lr := ne_of_eq_size hIe2 hz2.1
      have hI2lt : @Ne Nat I2 lt := ne_of_eq_size hIe2 hz2.2.1
      have NI2 := news_sub (news_more F (by rw [hIe2]; exact hI2) hIo2 N) rot4
      refine kG ?_
      clear kG
      clear F2 N2 N
      dsimp only
      k_steps
      rename Fr _ _ _ _ => F3
      rename News _ _ _ _ => N3
      rename_i D1 h11 lD
      rw [find_abc _ hlo, find_abc _ hhi]
      have hlrL : @LT.lt Nat _ lr L' := Nat.lt_of_lt_of_le (Heap.lt_size (hs0 (lr, _) (.head _))) hL
      have hltL : @LT.lt Nat _ lt L' := Nat.lt_of_lt_of_le (Heap.lt_size (hs0 (lt, _) (.tail _ (.head _)))) hL
      have lI : @LT.lt Nat _ I D1 := lD.2.2.2.2.2.1
      have lI2 : @LT.lt Nat _ I2 D1 := lD.2.2.2.2.1
      have llr : @LT.lt Nat _ lr D1 := lD.1
      have llt : @LT.lt Nat _ lt D1 := lD.2.1
      have N3p := news_sub N3 rot4
      refine tell_spec (lo := q.1) (hi := q.2) r.1 ⟨B', F3, H.XB, H.TB, rfl⟩ (by show _ + 5 < 900; dsimp only [ktrTop]; omega) (news_sub N3p take4) ⟨n1, n2, n3, n4, n5, n6⟩ hR2.1 hlo hhi (fun h5 tk5 nr5 nt5 hok hle k5 e5 e6 => ?ok) (fun h5 tk5 e y hfl herr => ?err)
      case ok =>
        have F4 := fr_two F3 N3p k5
        clear hll hll2 hta htc
        have N4 := news_two N3p k5 e5 e6 (all_cons ⟨n2.symm, n4.symm⟩ (all_cons ⟨n3.symm, n5.symm⟩ (all_cons ⟨Nat.ne_of_gt llr, Nat.ne_of_gt llt⟩ (all_cons ⟨hI2lr, hI2lt⟩ (all_cons ⟨hIlr, hIlt⟩
          fun p hp => ⟨Nat.ne_of_gt (Nat.lt_trans hlrL (hT1 p hp)), Nat.ne_of_gt (Nat.lt_trans hltL (hT1 p hp))⟩)))))
        clear F3 N3 N3p
        dsimp only
        k_steps
        subst hRb
        exact ⟨_, _, rfl, ⟨_, tellM f2 r.1 q.1 (q.2 + 1 - q.1), setR rules2 q.1 (q.2 + 1 - q.1) (.ref D1), nr5, nt5, (D1, ({ cls := .type "tuple", data := .seq #[.int r.1 ta, lv] } : Obj)) :: Tn2, e2.trans (contF_ok hok), F4, hself2, hkind2, hlength2,
          news_sub N4 (sub_cons mm0 (sub_cons mm1 (sub_cons mm2 (sub_cons mm3 (sub_cons mm6 (sub_cons mm4 tl7)))))), rules_set (hR2.mono tl1) (pair_rule mm0 rfl rfl (hlen.mono sub_mid)), all_cons (Nat.lt_trans hLI lI) hT1, all_cons (hIe ▸ Nat.ne_of_gt lI) hT2, all_cons (hIe2 ▸ Nat.ne_of_gt lI2) hT3⟩, fp_list hIo2 hb0 (hTg _ hm2) F4 N4 mm5⟩
      case err =>
        have nL : ∀ b o, s.heap.get? b = some o → b ∉ [L'] := fun b o hb z => by
          rw [List.mem_singleton.mp z, get_none_of_le hL] at hb; cases hb
        exact flies_leaves (G := hideAll h11 [L']) rfl rfl (fun b o e => of_hideAll _ e) (hideAll_none _ (.head _)) hfl fun h6 hf6 => hX h6 _ e y _ rules2 nr2 nt2 Tn2 f2 (by rw [e2, contF_err herr]) hf6 (fun b o hb hn => hideAll_get _ (kept_two hg hs0 F3 N3p b o hb hn) (nL b o hb))
          (hideAll_get _ (N3p.get (.head _)) (fun z => (N3p _ (.head _)).2.1 (List.mem_singleton.mp z))) (hideAll_get _ (N3p.get (.tail _ (.head _))) (fun z => (N3p _ (.tail _ (.head _))).2.1 (List.mem_singleton.mp z))) hR2
          (fun p hp => ⟨hideAll_get _ (N3p.get (.tail _ (.tail _ (.tail _ (.tail _ (.tail _ (.tail _ (.tail _ hp)))))))) (fun z => Nat.ne_of_gt (hT1 p hp) (List.mem_singleton.mp z)), get_none_of_le (Nat.le_of_lt (Nat.lt_of_le_of_lt hL (hT1 p hp)))⟩)
    case idone =>
      rintro h tk ⟨m2, f2, rules2, nr2, nt2, Tn2, e2, F, hself2, hkind2, hlength2, N, hR2, hT1, hT2, hT3⟩
      rw [List.drop_eq_nil_of_le (by omega), contF_nil] at e2
      clear F2 N2
      dsimp only
      k_steps
      subst hRa
      exact ⟨_, _, rfl, ⟨m2, f2, rules2, nr2, nt2, Tn2, e2, F, hself2, news_sub N (sub_cons mm0 (sub_cons mm1 (sub_cons mm2 (sub_cons mm3 tl5)))), hR2, hT1, hT2⟩, fp_list hIo hrl0 (hTg _ hm) F N mm4⟩
  case done =>
    rintro h tk ⟨m, f', rules', nr', nt', Tn, e1, F, hself, N, hR', hT1, hT2⟩
    clear F' N'
    dsimp only
    k_steps
    rw [List.drop_eq_nil_of_le (by omega)] at e1
    subst hQq
    exact hQ _ _ rules' nr' nt' Tn f' e1 (kept_two hg hs0 F N) (N.get mm0) (N.get mm1) hR' fun p hp => ⟨N.get (tl4 p hp), get_none_of_le (Nat.le_of_lt (Nat.lt_of_le_of_lt hL (hT1 p hp)))⟩
end
end Mine
end
section
open PySem PySem.W PyProof.Rows PySem.Calls PySem.Spec
set_option Elab.async false
set_option maxRecDepth 100000
set_option maxHeartbeats 4000000
local macro_rules | `(tactic| walk_at "eval Name") => `(tactic| (k_here; k_dflt (refine' ld ?k1 ?k2 ?_; (case k1 => k_asm); (case k2 => first | exact rfl | assumption); k_whole)))
local macro_rules | `(tactic| k_ne) => `(tactic| with_reducible (first | assumption | (refine Ne.symm ?_; assumption)))
local macro_rules | `(tactic| walk_at "exec For Name Call cons nil") => `(tactic| (k_here; k_dflt (refine' Mine.for_open ?_)))
local macro_rules | `(tactic| walk_at "exec For Name Name cons nil") => `(tactic| (k_here; k_dflt (refine' Mine.for_open ?_)))
local macro_rules | `(tactic| walk_at "exec For Tuple Name cons nil") => `(tactic| (k_here; k_dflt (refine' Mine.for_open ?_)))
local macro_rules | `(tactic| k_all) => `(tactic| (refine fun p hp => ?_; with_reducible assumption))
local macro_rules | `(tactic| k_all) => `(tactic| with_reducible assumption)

namespace Mine
theorem item_abcN : ∀ n, n < 26 → Txt.item "ABCDEFGHIJKLMNOPQRSTUVWXYZ" ((n : Nat) : Int) = letter n := by decide +kernel
theorem item_abc {i : Int} (h0 : 0 ≤ i) (h1 : i < 26) : Txt.item "ABCDEFGHIJKLMNOPQRSTUVWXYZ" i = letter i.toNat := by
  obtain ⟨n, rfl⟩ := Int.eq_ofNat_of_zero_le h0
  exact item_abcN n (by omega)
theorem list_snoc {α : Type} {P P' : Value → α → Prop} {ws : List Value} {xs : List α} {v : Value} {z : α} (h : ∀ (j : Nat) y, xs[j]? = some y → ∃ u, ws[j]? = some u ∧ P u y) (hl : ws.length = xs.length) (hm : ∀ u y, P u y → P' u y) (hv : P' v z) :
    ∀ (j : Nat) y, (xs ++ [z])[j]? = some y → ∃ u, (ws ++ [v])[j]? = some u ∧ P' u y := fun j y e => by
  by_cases q : j < xs.length
  · rw [List.getElem?_append_left q] at e
    obtain ⟨u, hu, hp⟩ := h j y e
    exact ⟨u, by rw [List.getElem?_append_left (by omega)]; exact hu, hm _ _ hp⟩
  · have hj : j = xs.length := by
      by_cases z' : j < (xs ++ [z]).length
      · simp at z'; omega
      · rw [List.getElem?_eq_none (by omega)] at e; cases e
    subst hj
    simp at e
    subst e
    exact ⟨v, by rw [← hl]; simp, hv⟩
theorem RunIn.mono {T T' : Led} {v : Value} {r : Nat × Nat} (x : RunIn T v r) (s : ∀ p ∈ T, p ∈ T') : RunIn T' v r := by
  obtain ⟨h1, h2, a, o, t, t', n, e, hm, r⟩ := x
  exact ⟨h1, h2, a, o, t, t', n, e, s _ hm, r⟩
theorem ListIn.mono {α : Type} {T T' : Led} {P P' : Value → α → Prop} {v : Value} {xs : List α} (x : ListIn T P v xs) (s : ∀ p ∈ T, p ∈ T') (hm : ∀ u y, P u y → P' u y) : ListIn T' P' v xs := by
  obtain ⟨a, o, vs, n, e, h, hc, hd, hl, hi⟩ := x
  exact ⟨a, o, vs, n, e, s _ h, hc, hd, hl, fun i y ey => let ⟨u, hu, hp⟩ := hi i y ey; ⟨u, hu, hm _ _ hp⟩⟩
theorem ArgIn.mono {T T' : Led} {v : Value} {r : Int × List (Nat × Nat)} (x : ArgIn T v r) (s : ∀ p ∈ T, p ∈ T') : ArgIn T' v r := by
  obtain ⟨a, o, t, lv, rv, n, e, hm, hc, hd, hl, hr⟩ := x
  exact ⟨a, o, t, lv, rv, n, e, s _ hm, hc, hd, hl.mono s, hr.mono s fun u y p => p.mono s⟩
theorem allLt_mem {d : Addr} : ∀ {l : Led}, AllLt d l → ∀ p ∈ l, @LT.lt Nat _ p.1 d
  | [], _, _, h => nomatch h
  | _ :: _, x, p, h => by
    rcases List.mem_cons.mp h with rfl | h
    · exact x.1
    · exact allLt_mem x.2 p h
theorem rb0 {k k' : Int} {i : Nat} {r : Int} (h0 : 0 ≤ k) (h1 : k < 900) (hr0 : 0 ≤ r) (hr : r < 3) (hi : i < (1 + r).toNat) (a : k + 1 ≤ k') (b : k' ≤ k + 1 + 6 * i) : 0 ≤ k' ∧ k' < 920 := by omega
theorem rb1 {k : Int} (h : 0 ≤ k ∧ k < 920) : 0 ≤ k + 1 ∧ k + 1 < 1000 := by omega
theorem rb2 {k k' : Int} {i : Nat} {r : Int} (h : 0 ≤ k ∧ k < 920) (hr0 : 0 ≤ r) (hr : r < 2) (hi : i < (1 + r).toNat) (a : k + 2 ≤ k') (b : k' ≤ k + 2 + 2 * i) : 0 ≤ k' ∧ k' < 950 := by omega
theorem rb3 {k : Int} (h : 0 ≤ k ∧ k < 950) : 0 ≤ k + 1 ∧ k + 1 < 1000 := by omega
theorem rb4 {k k' : Int} {j : Nat} (a : k + 2 ≤ k') (b : k' ≤ k + 2 + 2 * j) : k + 2 ≤ k' + 1 + 1 ∧ k' + 1 + 1 ≤ k + 2 + 2 * ((j + 1 : Nat) : Int) := by omega
theorem rb5 {k k' k2 r : Int} {i : Nat} (a : k + 1 ≤ k') (b : k' ≤ k + 1 + 6 * i) (hr0 : 0 ≤ r) (hr : r < 2) (a2 : k' + 2 ≤ k2) (b2 : k2 ≤ k' + 2 + 2 * ((1 + r).toNat : Int)) : k + 1 ≤ k2 ∧ k2 ≤ k + 1 + 6 * ((i + 1 : Nat) : Int) := by omega
theorem rb6 {k k' r : Int} (h0 : 0 ≤ k) (hr0 : 0 ≤ r) (hr : r < 3) (a : k + 1 ≤ k') (b : k' ≤ k + 1 + 6 * ((1 + r).toNat : Int)) : 0 ≤ k' ∧ k' ≤ k + 40 := by omega
theorem rb7 {r : Int} {l : Nat} (hr0 : 0 ≤ r) (hr : r < 2) (e : l = (1 + r).toNat) : l ≤ 2 := by omega
theorem rb8 {r : Int} {l : Nat} (hr0 : 0 ≤ r) (hr : r < 3) (e : l = (1 + r).toNat) : l ≤ 3 := by omega
theorem rb9 {r : Int} (hr0 : 0 ≤ r) : Builtin.Range.rangeSize 0 (1 + r) 1 = ((1 + r).toNat : Int) := size_of (by omega)
theorem rb10 {r : Int} (hr0 : 0 ≤ r) (hr : r < 3) : Builtin.Range.small 0 (1 + r) 1 = true := small_of (by omega) (by omega) (by omega) (by omega)
theorem rb11 {r : Int} {l i : Nat} (e : l = i) (h : i < (1 + r).toNat) (hr : r < 3) : l < 3 := by omega
theorem rb12 {r : Int} {l i : Nat} (e : l = i) (h : i < (1 + r).toNat) (hr : r < 2) : l < 2 := by omega
theorem toNat26 {n : Int} (h0 : 0 ≤ n) (h1 : n < 26) : n.toNat < 26 := by omega
theorem len_snoc {α : Type} {l : List α} {x : α} {n : Nat} (h : l.length = n) : (l ++ [x]).length = n + 1 := by simp [h]
theorem news_ne {g h : Heap} {L I : Addr} {N : Led} {p : Addr × Obj} (x : News g L h N) (m : p ∈ N) (e : I = h.objs.size) : @Ne Nat p.1 I := e ▸ Nat.ne_of_lt (Heap.lt_size (x.get m))
inductive RJ1 (g : Heap) (L' p q l : Addr) (vs : List Value) (nq : Nat) (k : Int) (sz : Nat) (i : Nat) (h : Heap) : Prop
  | mk (m : Str → Option Value) (k' : Int) (t' : Tok) (n' : Nat) (us : List Value) (nu : Nat) (rs : List (Int × List (Nat × Nat))) (Tn : Led) (hk1' : k + 1 ≤ k') (hk2' : k' ≤ k + 1 + 6 * i) (F : Fr g L' h m) (hmr : m "rules" = some (.ref l)) (hmp : m "purse" = some (.ref p))
    (N : News g L' h ((p, W.listOf #[.ref q, .int k' t'] n') :: (q, W.listOf vs.toArray nq) :: (l, W.listOf (us : List Value).toArray nu) :: Tn)) (hul : us.length = i) (hrl : rs.length = i) (hus : ∀ (j : Nat) z, rs[j]? = some z → ∃ u, us[j]? = some u ∧ ArgIn Tn u z)
    (hrs : ∀ z ∈ rs, 0 ≤ z.1 ∧ z.1 < 6 ∧ z.2.length ≤ 2) (hTn : ∀ z ∈ Tn, @LT.lt Nat _ L' z.1 ∧ @Ne Nat z.1 sz ∧ @Ne Nat z.1 l) : RJ1 g L' p q l vs nq k sz i h
inductive RJ2 (g : Heap) (L' p q l : Addr) (vs : List Value) (nq : Nat) (k' : Int) (sz sz2 : Nat) (r1 : Int) (tr1 : Tok) (l2 I : Addr) (oI : Obj) (us : List Value) (nu : Nat) (Tn : Led) (j : Nat) (h : Heap) : Prop
  | mk (m : Str → Option Value) (k2 : Int) (t2 : Tok) (n2 : Nat) (ws : List Value) (nw : Nat) (runs : List (Nat × Nat)) (T2 : Led) (hk21 : k' + 2 ≤ k2) (hk22 : k2 ≤ k' + 2 + 2 * j) (F : Fr g L' h m) (hmk : m "kind" = some (.int r1 tr1)) (hmu : m "runs" = some (.ref l2)) (hmr : m "rules" = some (.ref l)) (hmp : m "purse" = some (.ref p))
    (N : News g L' h ((p, W.listOf #[.ref q, .int k2 t2] n2) :: (q, W.listOf vs.toArray nq) :: (l2, W.listOf (ws : List Value).toArray nw) :: (I, oI) :: (l, W.listOf us.toArray nu) :: (T2 ++ Tn))) (hwl : ws.length = j) (hrnl : runs.length = j) (hws : ∀ (j : Nat) z, runs[j]? = some z → ∃ u, ws[j]? = some u ∧ RunIn T2 u z)
    (hT2 : ∀ z ∈ T2, @LT.lt Nat _ L' z.1 ∧ @Ne Nat z.1 sz ∧ @Ne Nat z.1 sz2 ∧ @Ne Nat z.1 l ∧ @Ne Nat z.1 l2) : RJ2 g L' p q l vs nq k' sz sz2 r1 tr1 l2 I oI us nu Tn j h
section
variable {w : World} {pg : Program} {loose : List Str} {mean : ExcName → Option Value} {mg mb : Str → Option Value}

theorem rules_spec ⦃dp un : Nat⦄ ⦃gd : Option (List Code)⦄ ⦃cn : Str⦄ ⦃cs : Scope⦄ ⦃L a : Addr⦄ ⦃ccd : Value⦄ ⦃cl : List (Str × Addr)⦄ ⦃outer : List Env⦄ ⦃A₀ : Around⦄ ⦃base h₀ : Heap⦄ ⦃m : Str → Option Value⦄ ⦃s : Shared⦄ ⦃Q E : Value → Shared → Prop⦄
    {p q : Addr} {vs : List Value} {ns : List Int} {k : Int} {t : Tok} {n nq : Nat}
    (H : Here w pg loose mean mg mb cs A₀ base h₀ outer L m s.heap) (hdp : dp + 5 < 900)
    (N : News h₀ L s.heap [(p, W.listOf #[.ref q, .int k t] n), (q, W.listOf vs.toArray nq)]) (hpq : @Ne Nat q p) (hi : IntsAre vs ns) (hl : vs.length ≤ 60) (hk0 : 0 ≤ k) (hk1 : k < 900)
    (hQ : ∀ h' tk v rs Tn k' t' n', Kept [p] s.heap h' → h'.get? p = some (W.listOf #[.ref q, .int k' t'] n') → 0 ≤ k' → k' ≤ k + 40 → Fresh s.heap h' Tn → ArgsIn Tn v rs → rs.length ≤ 3 → (∀ r ∈ rs, 0 ≤ r.1 ∧ r.1 < 6 ∧ r.2.length ≤ 2) → Q v { s with heap := h', toks := tk }) :
    wpAny (model PySem.Challenge.rw_pq0349_01.row.prog w) (ktrTop dp un gd cn cs L a ccd cl outer) (call (.ref 205) [.ref p]) Q E s := by
  have B := H.B
  have F := H.F
  have X := H.X
  have T := H.T
  have hk := H.hk
  revert X; k_fill; intro X
  refine wpAny_call ?_
  k_dflt (refine' Mine.enterP [("purse", .ref p)] ?k1 ?k2 ?k3 ?k4 ?k5 ?kA ?kF ?kK ?k6 ?k7 ?k8 ?k9 ?kB ?kbody ?c2 ?c3 ?c4 ?c5; (case kA => exact rfl); (case kF => exact rfl); (case kK => assumption); (case k1 => assumption); (case k2 => assumption); (case k3 => assumption); (case k4 => assumption); (case k5 => assumption); (case k6 => k_is); (case k7 => k_is); (case k8 => (show @LT.lt Nat _ _ 1000; (try dsimp only [ktrTop]); omega)); (case k9 => exact BindsTo.of_eq rfl); (case c5 => decide); (case kB => exact locs rfl); (case c2 => exact rfl); (case c3 => exact rfl); (case c4 => exact rfl); k_whole)
  intro g L' h₁ tk0 hg hL F' N' B' X' T'
  simp only [Mine.bindM] at F'
  (try dsimp only)
  have hs0 : ∀ x ∈ [(p, W.listOf #[.ref q, .int k t] n), (q, W.listOf vs.toArray nq)], s.heap.get? x.1 = some x.2 := fun x hx => (N x hx).1
  clear B F X T N
  refine gen1 ?_
  intro Qq hQq
  refine letAE ?_
  intro Aq Eq
  k_steps
  rename Fr _ _ _ _ => F1
  rename News _ _ _ _ => N1
  rename_i l h2 ll h3
  have N1p := news_sub N1 rot2
  have hlp : @Ne Nat l p := Nat.ne_of_gt ll.1
  have hlq : @Ne Nat l q := Nat.ne_of_gt ll.2
  refine pick_spec B' F1 X' T' rfl (by show dp + 1 < 900; omega) (news_sub N1p take2) hpq hi hl hk0 (Int.lt_trans hk1 (by decide)) (by decide) (by decide) fun h4 tk4 r tr t' n' hr0 hr1 k2 hp2 => ?_
  have F2 := fr_pick F1 N1p k2
  have N2 := news_pick N1p k2 hp2 (all_cons hpq (all_cons hlp all_nil))
  clear F1 N1 N1p k2 hp2
  dsimp only
  k_steps
  rename Fr _ _ _ _ => F3
  rename News _ _ _ _ => N3
  rename IsRange _ _ _ _ _ _ _ _ => hR
  rename Heap => h5
  have hI : @LT.lt Nat _ L' h5.objs.size := F3.ns.lt
  refine loop_range (n := (1 + r).toNat) (RJ1 g L' p q l vs nq k h5.objs.size) hR rfl (rb10 hr0 hr1) (rb9 hr0) ?j0 ?stable ?turn ?done
  case j0 =>
    exact ⟨_, k + 1, _, _, [], 0, [], [], Int.le_refl _, by omega, F3, rfl, rfl, N3, rfl, rfl, (fun j z e => by simp at e), all_nil, all_nil⟩
  case stable =>
    rintro i h h' ⟨m, k', t', n', us, nu, rs, Tn, hk1', hk2', F, hmr, hmp, N, hul, hrl, hus, hrs, hTn⟩ kp
    exact ⟨m, k', t', n', us, nu, rs, Tn, hk1', hk2', fr_stable F hI kp, hmr, hmp, news_stable N kp (sz3 (sizes3 N3) fun z hz => (hTn z hz).2.1), hul, hrl, hus, hrs, hTn⟩
  case turn =>
    intro i h tk t9 I oI hi' HJ hIe hIo hIc
    refine genT ?_
    intro Ra hRa
    refine byG fun GG kG => ?_
    obtain ⟨m, k', t', n', us, nu, rs, Tn, hk1', hk2', F, hmr, hmp, N, hul, hrl, hus, hrs, hTn⟩ := HJ
    refine kG ?_
    clear kG
    have hkb := rb0 hk0 hk1 hr0 hr1 hi' hk1' hk2'
    have hule := rb11 hul hi' hr1
    replace hk1' : Hold _ := hk1'
    replace hk2' : Hold _ := hk2'
    replace hi' : Hold _ := hi'
    have hpI : @Ne Nat p I := news_ne N3 mm0 hIe
    have hlI : @Ne Nat l I := news_ne N3 mm2 hIe
    have hqL : @LT.lt Nat _ p L' := Nat.lt_of_lt_of_le (Heap.lt_size (hs0 (p, _) mm0)) hL
    have NI := news_sub (news_more F (by rw [hIe]; exact hI) hIo N) rot2
    have hrest : ∀ {nu' : Nat} {us' : List Value}, ∀ x ∈ ((q, W.listOf vs.toArray nq) :: (I, oI) :: (l, W.listOf us'.toArray nu') :: Tn), @Ne Nat x.1 p := all_cons hpq (all_cons hpI.symm (all_cons hlp fun x hx => Nat.ne_of_gt (Nat.lt_trans hqL (hTn x hx).1)))
    have hrest' : ∀ {nu' : Nat} {us' : List Value}, ∀ x ∈ ((I, oI) :: (l, W.listOf us'.toArray nu') :: Tn), @Ne Nat x.1 p := all_cons hpI.symm (all_cons hlp fun x hx => Nat.ne_of_gt (Nat.lt_trans hqL (hTn x hx).1))
    clear hR F3 N3 N
    dsimp only at hIe ⊢
    refine wpAny_assign_Name (stN F NI (fun h6 F4 N4 => ?_))
    clear F NI
    k_steps
    refine pick_spec B' F4 X' T' rfl (by show dp + 1 < 900; omega) (news_sub N4 take2) hpq hi hl hkb.1 (Int.lt_trans hkb.2 (by decide)) (by decide) (by decide) fun h7 tk7 r1 tr1 t1' n1' hr10 hr11 k7 hp7 => ?_
    have F5 := fr_pick F4 N4 k7
    have N5 := news_pick N4 k7 hp7 hrest
    clear F4 N4 k7 hp7
    dsimp only
    k_steps
    rename Fr _ _ _ _ => F6
    rename News _ _ _ _ => N6
    rename_i l2 h8 ll2 h9
    have hTn2 : ∀ z ∈ Tn, @LT.lt Nat _ z.1 l2 := fun z hz => allLt_mem ll2.2.2.2.2 z hz
    have hpl2 : @LT.lt Nat _ p l2 := ll2.1
    have N6p := news_sub N6 rot2
    have hll2 : @Ne Nat l l2 := Nat.ne_of_lt ll2.2.2.2.1
    refine pick_spec B' F6 X' T' rfl (by show dp + 1 < 900; omega) (news_sub N6p take2) hpq hi hl (rb1 hkb).1 (rb1 hkb).2 (by decide) (by decide) fun h10 tk10 r2 tr2 t2' n2' hr20 hr21 k10 hp10 => ?_
    have F7 := fr_pick F6 N6p k10
    have N7 := news_pick N6p k10 hp10 (all_cons hpq (all_cons (Nat.ne_of_gt hpl2) hrest'))
    clear F6 N6 N6p k10 hp10
    dsimp only
    k_steps
    rename Fr _ _ _ _ => F8
    rename News _ _ _ _ => N8
    rename IsRange _ _ _ _ _ _ _ _ => hR2
    rename Heap => h11
    have hI2 : @LT.lt Nat _ L' h11.objs.size := F8.ns.lt
    refine loop_range (n := (1 + r2).toNat) (RJ2 g L' p q l vs nq k' h5.objs.size h11.objs.size r1 tr1 l2 I oI us nu Tn) hR2 rfl (rb10 hr20 (Int.lt_trans hr21 (by decide))) (rb9 hr20) ?ij0 ?istable ?iturn ?idone
    case ij0 =>
      exact ⟨_, k' + 1 + 1, _, _, [], 0, [], [], by omega, by omega, F8, rfl, rfl, hmr, hmp, N8, rfl, rfl, (fun j z e => by simp at e), all_nil⟩
    case istable =>
      rintro j h h' ⟨m2, k2, t2, n2, ws, nw, runs, T2, hk21, hk22, F, hmk2, hmu2, hmr2, hmp2, N, hwl, hrnl, hws, hT2⟩ kp
      exact ⟨m2, k2, t2, n2, ws, nw, runs, T2, hk21, hk22, fr_stable F hI2 kp, hmk2, hmu2, hmr2, hmp2, news_stable N kp (sz5 (sizes5 N8) (all_app (fun z hz => (hT2 z hz).2.2.1) (sizes N8 tl5))), hwl, hrnl, hws, hT2⟩
    case iturn =>
      intro j h tk t10 I2 oI2 hj' HJ hIe2 hIo2 hIc2
      refine genT ?_
      intro Rb hRb
      refine byG fun GG kG => ?_
      obtain ⟨m2, k2, t2, n2, ws, nw, runs, T2, hk21, hk22, F, hmk2, hmu2, hmr2, hmp2, N, hwl, hrnl, hws, hT2⟩ := HJ
      refine kG ?_
      clear kG
      have hwle := rb12 hwl hj' hr21
      have hkb2 := rb2 hkb hr20 hr21 hj' hk21 hk22
      replace hkb : Hold _ := hkb
      replace hk21 : Hold _ := hk21
      replace hk22 : Hold _ := hk22
      replace hj' : Hold _ := hj'
      have hpI2 : @Ne Nat p I2 := news_ne N8 mm0 hIe2
      have hI2l2 : @Ne Nat I2 l2 := (news_ne N8 mm2 hIe2).symm
      have NI2 := news_sub (news_more F (by rw [hIe2]; exact hI2) hIo2 N) rot2
      have hrest2 : ∀ x ∈ ((q, W.listOf vs.toArray nq) :: (I2, oI2) :: (l2, W.listOf (ws : List Value).toArray nw) :: (I, oI) :: (l, W.listOf us.toArray nu) :: (T2 ++ Tn)), @Ne Nat x.1 p :=
        all_cons hpq (all_cons hpI2.symm (all_cons (Nat.ne_of_gt hpl2) (all_cons hpI.symm (all_cons hlp (all_app (fun x hx => Nat.ne_of_gt (Nat.lt_trans hqL (hT2 x hx).1)) fun x hx => Nat.ne_of_gt (Nat.lt_trans hqL (hTn x hx).1))))))
      have hI2' : @LT.lt Nat _ L' I2 := by rw [hIe2]; exact hI2
      have hTl : ∀ z ∈ T2 ++ Tn, z.1 ≠ l2 := all_app (fun z hz => (hT2 z hz).2.2.2.2) fun z hz => Nat.ne_of_lt (hTn2 z hz)
      have hIl2 : @Ne Nat I l2 := Nat.ne_of_lt ll2.2.2.1
      have hql2 : @Ne Nat q l2 := Nat.ne_of_lt ll2.2.1
      clear hR2 F8 N8 N
      dsimp only at hIe2 ⊢
      refine wpAny_assign_Name (stN F NI2 (fun h6 F4 N4 => ?_))
      clear F NI2
      k_steps
      refine pick_spec B' F4 X' T' rfl (by show dp + 1 < 900; omega) (news_sub N4 take2) hpq hi hl hkb2.1 (Int.lt_trans hkb2.2 (by decide)) (by decide) (by decide) fun h7 tk7 low trl t1' n1' hlo0 hlo1 k7 hp7 => ?_
      have F5 := fr_pick F4 N4 k7
      have N5 := news_pick N4 k7 hp7 hrest2
      clear F4 N4 k7 hp7
      dsimp only
      k_steps
      rename Fr _ _ _ _ => F6
      rename News _ _ _ _ => N6
      refine pick_spec B' F6 X' T' rfl (by show dp + 1 < 900; omega) (news_sub N6 take2) hpq hi hl (rb3 hkb2).1 (rb3 hkb2).2 (by decide) (by decide) fun h8 tk8 r4 tr4 t4' n4' hr40 hr41 k8 hp8 => ?_
      have F7 := fr_pick F6 N6 k8
      have N7 := news_pick N6 k8 hp8 hrest2
      clear F6 N6 k8 hp8
      dsimp only
      k_steps
      · exfalso
        rename _ ∨ _ => hor
        have e26 : Str.length "ABCDEFGHIJKLMNOPQRSTUVWXYZ" = 26 := by decide
        rw [e26] at hor
        omega
      · rename Fr _ _ _ _ => F9
        rename News _ _ _ _ => N9
        rename_i D1 _ lD _
        have hhi0 : 0 ≤ (low + r4 - 1).fmod 26 := Int.fmod_nonneg_of_pos _ (by decide)
        have hhi1 : (low + r4 - 1).fmod 26 < 26 := Int.fmod_lt_of_pos _ (by decide)
        rw [item_abc hlo0 hlo1, item_abc hhi0 hhi1] at N9
        obtain ⟨ot, eot, hotc, tka, tkb, hotd⟩ : ∃ ot : Obj, ot = _ ∧ ot.cls = Value.type "tuple" ∧ ∃ ta tb, ot.data = .seq ([.str (letter low.toNat) ta, .str (letter ((low + r4 - 1).fmod 26).toNat) tb] : List Value).toArray 0 := ⟨{ cls := .type "tuple", data := .seq #[.str (letter low.toNat) _, .str (letter ((low + r4 - 1).fmod 26).toNat) _] }, rfl, rfl, _, _, rfl⟩
        rw [← eot] at N9
        (try simp only [List.push_toArray] at N9)
        have lpD : @LT.lt Nat _ L' D1 := Nat.lt_trans hI2' lD.2.2.1
        have lID : @LT.lt Nat _ I D1 := lD.2.2.2.2.1
        have lI2D : @LT.lt Nat _ I2 D1 := lD.2.2.1
        have llD : @LT.lt Nat _ l D1 := lD.2.2.2.2.2.1
        have ll2D : @LT.lt Nat _ l2 D1 := lD.2.2.2.1
        subst hRb
        exact ⟨_, _, rfl, ⟨_, k2 + 1 + 1, t4', n4', ws ++ [.ref D1], nw + 1, runs ++ [(low.toNat, ((low + r4 - 1).fmod 26).toNat)], (D1, ot) :: T2, (rb4 hk21 hk22).1, (rb4 hk21 hk22).2, F9, hmk2, hmu2, hmr2, hmp2,
          news_sub N9 (sub_cons mm1 (sub_cons mm2 (sub_cons mm4 (sub_cons mm5 (sub_cons mm6 (sub_cons mm0 tl7)))))), len_snoc hwl, len_snoc hrnl,
          list_snoc hws (hwl.trans hrnl.symm) (fun u y hy => hy.mono tl1) ⟨toNat26 hlo0 hlo1, toNat26 hhi0 hhi1, D1, ot, tka, tkb, 0, rfl, mm0, hotc, hotd⟩,
          all_cons ⟨lpD, hIe ▸ Nat.ne_of_gt lID, hIe2 ▸ Nat.ne_of_gt lI2D, Nat.ne_of_gt llD, Nat.ne_of_gt ll2D⟩ hT2⟩, fp_one hIo2 N9 mm3⟩
    case idone =>
      rintro h tk ⟨m2, k2, t2, n2, ws, nw, runs, T2, hk21, hk22, F, hmk2, hmu2, hmr2, hmp2, N, hwl, hrnl, hws, hT2⟩
      have hrl2 := rb7 hr20 hr21 hrnl
      have hkc := rb5 hk1' hk2' hr20 hr21 hk21 hk22
      replace hkc : Hold _ := hkc
      replace hkb : Hold _ := hkb
      replace hk21 : Hold _ := hk21
      replace hk22 : Hold _ := hk22
      have hTl2 : ∀ z ∈ T2 ++ Tn, z.1 ≠ l := all_app (fun z hz => (hT2 z hz).2.2.2.1) fun z hz => (hTn z hz).2.2
      have hLI' : @LT.lt Nat _ L' I := by rw [hIe]; exact hI
      clear hR2 F8 N8
      dsimp only
      k_steps
      · rename Fr _ _ _ _ => F9
        rename News _ _ _ _ => N9
        rename_i D0 _ lD0 D1 _ lD _
        (try simp only [List.push_toArray] at N9)
        obtain ⟨od, eod, hodc, tkd, hodd⟩ : ∃ od : Obj, od = _ ∧ od.cls = Value.type "tuple" ∧ ∃ ta, od.data = .seq ([.int r1 ta, .ref D0, .ref l2] : List Value).toArray 0 := ⟨{ cls := .type "tuple", data := .seq #[.int r1 tr1, .ref D0, .ref l2] }, rfl, rfl, tr1, rfl⟩
        rw [← eod] at N9
        obtain ⟨o0, eo0, ho0c, tka, tkb, ho0d⟩ : ∃ o0 : Obj, o0 = _ ∧ o0.cls = Value.type "tuple" ∧ ∃ ta tb, o0.data = .seq ([.str "int" ta, .int 4 tb] : List Value).toArray 0 := ⟨{ cls := .type "tuple", data := .seq #[.str "int" _, .int 4 _] }, rfl, rfl, _, _, rfl⟩
        rw [← eo0] at N9
        subst hRa
        exact ⟨_, _, rfl, ⟨_, k2, t2, n2, us ++ [.ref D1], nu + 1, rs ++ [(r1, runs)], (D1, od) :: (D0, o0) :: (l2, W.listOf ws.toArray nw) :: (T2 ++ Tn), hkc.1, hkc.2, F9, hmr2, hmp2,
          news_sub N9 (sub_cons mm2 (sub_cons mm3 (sub_cons mm6 (sub_cons mm0 (sub_cons mm1 (sub_cons mm4 tl7)))))), len_snoc hul, len_snoc hrl,
          list_snoc hus (hul.trans hrl.symm) (fun u y hy => hy.mono fun z hz => tl3 _ (List.mem_append_right _ hz)) ⟨D1, od, tkd, .ref D0, .ref l2, 0, rfl, mm0, hodc, hodd, .inr ⟨by assumption, D0, o0, tka, tkb, 0, rfl, mm1, ho0c, ho0d⟩, l2, _, ws, nw, rfl, mm2, rfl, rfl, hwl.trans hrnl.symm, fun j z hz => let ⟨u, hu, hp⟩ := hws j z hz; ⟨u, hu, hp.mono fun z hz => tl3 _ (List.mem_append_left _ hz)⟩⟩,
          all_app hrs (all_cons ⟨hr10, hr11, hrl2⟩ all_nil),
          all_cons ⟨Nat.lt_trans hLI' lD.2.2.2.2.1, hIe ▸ Nat.ne_of_gt lD.2.2.2.2.1, Nat.ne_of_gt lD.2.2.2.2.2.1⟩ (all_cons ⟨Nat.lt_trans hLI' lD0.2.2.2.1, hIe ▸ Nat.ne_of_gt lD0.2.2.2.1, Nat.ne_of_gt lD0.2.2.2.2.1⟩ (all_cons ⟨Nat.lt_trans hLI' ll2.2.2.1, hIe ▸ Nat.ne_of_gt ll2.2.2.1, Nat.ne_of_gt ll2.2.2.2.1⟩ (all_app (fun z hz => ⟨(hT2 z hz).1, (hT2 z hz).2.1, (hT2 z hz).2.2.2.1⟩) hTn)))⟩, fp_one hIo N9 mm5⟩
      · rename Fr _ _ _ _ => F9
        rename News _ _ _ _ => N9
        rename_i D1 _ lD _
        (try simp only [List.push_toArray] at N9)
        obtain ⟨od, eod, hodc, tkd, hodd⟩ : ∃ od : Obj, od = _ ∧ od.cls = Value.type "tuple" ∧ ∃ ta, od.data = .seq ([.int r1 ta, .none, .ref l2] : List Value).toArray 0 := ⟨{ cls := .type "tuple", data := .seq #[.int r1 tr1, .none, .ref l2] }, rfl, rfl, tr1, rfl⟩
        rw [← eod] at N9
        subst hRa
        exact ⟨_, _, rfl, ⟨_, k2, t2, n2, us ++ [.ref D1], nu + 1, rs ++ [(r1, runs)], (D1, od) :: (l2, W.listOf ws.toArray nw) :: (T2 ++ Tn), hkc.1, hkc.2, F9, hmr2, hmp2,
          news_sub N9 (sub_cons mm1 (sub_cons mm2 (sub_cons mm5 (sub_cons mm0 (sub_cons mm3 tl6))))), len_snoc hul, len_snoc hrl,
          list_snoc hus (hul.trans hrl.symm) (fun u y hy => hy.mono fun z hz => tl2 _ (List.mem_append_right _ hz)) ⟨D1, od, tkd, .none, .ref l2, 0, rfl, mm0, hodc, hodd, .inl ⟨by assumption, rfl⟩, l2, _, ws, nw, rfl, mm1, rfl, rfl, hwl.trans hrnl.symm, fun j z hz => let ⟨u, hu, hp⟩ := hws j z hz; ⟨u, hu, hp.mono fun z hz => tl2 _ (List.mem_append_left _ hz)⟩⟩,
          all_app hrs (all_cons ⟨hr10, hr11, hrl2⟩ all_nil),
          all_cons ⟨Nat.lt_trans hLI' lD.2.2.2.1, hIe ▸ Nat.ne_of_gt lD.2.2.2.1, Nat.ne_of_gt lD.2.2.2.2.1⟩ (all_cons ⟨Nat.lt_trans hLI' ll2.2.2.1, hIe ▸ Nat.ne_of_gt ll2.2.2.1, Nat.ne_of_gt ll2.2.2.2.1⟩ (all_app (fun z hz => ⟨(hT2 z hz).1, (hT2 z hz).2.1, (hT2 z hz).2.2.2.1⟩) hTn))⟩, fp_one hIo N9 mm4⟩
  case done =>
    rintro h tk ⟨m, k', t', n', us, nu, rs, Tn, hk1', hk2', F, hmr, hmp, N, hul, hrl, hus, hrs, hTn⟩
    clear hR F3 N3
    dsimp only
    k_steps
    subst hQq
    exact hQ _ _ (.ref l) rs ((l, W.listOf us.toArray nu) :: Tn) k' t' n' (token_kept hg hs0 F N mm1) (N.get mm0) (rb6 hk0 hr0 hr1 hk1' hk2').1 (rb6 hk0 hr0 hr1 hk1' hk2').2 (fun z hz => ⟨N.get (tl2 _ hz), all_cons (P := fun z => s.heap.get? z.1 = none) (token_new hg N mm2 ⟨hlp, hlq⟩) (fun z hz => get_none_of_le (Nat.le_of_lt (Nat.lt_of_le_of_lt hL (hTn z hz).1))) z hz⟩)
      ⟨l, _, us, nu, rfl, mm0, rfl, rfl, hul.trans hrl.symm, fun j z hz => let ⟨u, hu, hp⟩ := hus j z hz; ⟨u, hu, hp.mono tl1⟩⟩ (rb8 hr0 hr1 hrl) hrs
end
end Mine
end
section
open PySem PySem.W PyProof.Rows PySem.Calls PySem.Spec
set_option Elab.async false
set_option maxRecDepth 100000
set_option maxHeartbeats 4000000
local macro_rules | `(tactic| walk_at "subscriptTail") => `(tactic| (k_here; (with_reducible show wpAny _ _ (subscriptTail _ _ (Value.ref _) (Value.int _ _)) _ _ _); (refine' item_listL ?k1 ?k2 ?k3 ?k4 ?_; (case k1 => is_list); (case k4 => with_reducible assumption); (case k2 => omega); (case k3 => omega))))

namespace Mine
theorem kept_four {s g h' : Heap} {L : Addr} {m : Str → Option Value} {l4 rest : Led} (hg : ∀ b o, s.get? b = some o → b ∉ l4.map (·.1) → g.get? b = some o)
    (hs0 : ∀ z ∈ l4, s.get? z.1 = some z.2) (F : Fr g L h' m) (N : News g L h' rest) (hsub : ∀ z ∈ l4, z ∈ rest) : Kept [] s h' := kept_end hg hs0 F fun z hz hn => N.get (hsub z hz)
section
variable {w : World} {pg : Program} {loose : List Str} {mean : ExcName → Option Value} {mg mb : Str → Option Value}

theorem of_spec ⦃dp un : Nat⦄ ⦃gd : Option (List Code)⦄ ⦃cn : Str⦄ ⦃cs : Scope⦄ ⦃L a : Addr⦄ ⦃ccd : Value⦄ ⦃cl : List (Str × Addr)⦄ ⦃outer : List Env⦄ ⦃A₀ : Around⦄ ⦃base h₀ : Heap⦄ ⦃m : Str → Option Value⦄ ⦃s : Shared⦄ ⦃Q E : Value → Shared → Prop⦄
    {x dx lr lt : Addr} {t1 t2 : Tok} {n nr nt : Nat} {rules : List Value} {f : St} {nm : Str} {tn : Tok} {i : Nat} {v : Value}
    (H : Here w pg loose mean mg mb cs A₀ base h₀ outer L m s.heap) (hdp : dp + 5 < 900)
    (N : News h₀ L s.heap [(lr, W.listOf rules.toArray nr), (lt, W.listOf (boolsOf f).toArray nt), (x, instObj 89 dx), (dx, impDict w lr lt t1 t2 n)])
    (hi : i < 26) (hn0 : nm.length = 2) (hn1 : Txt.find "ABCDEFGHIJKLMNOPQRSTUVWXYZ" (Txt.item nm 0) = (i : Int)) (hrl : rules.length = 26) (hv : rules[i]? = some v)
    (hQ : ∀ h' tk, Kept [] s.heap h' → Q v { s with heap := h', toks := tk }) :
    wpAny (model PySem.Challenge.rw_pq0349_01.row.prog w) (ktrTop dp un gd cn cs L a ccd cl outer) (call (.ref 86) [.ref x, .str nm tn]) Q E s := by
  have B := H.B
  have F := H.F
  have X := H.X
  have T0 := H.T
  have hk := H.hk
  revert X; k_fill; intro X
  refine wpAny_call ?_
  k_dflt (refine' Mine.enterP [("name", .str nm tn), ("self", .ref x)] ?k1 ?k2 ?k3 ?k4 ?k5 ?kA ?kF ?kK ?k6 ?k7 ?k8 ?k9 ?kB ?kbody ?c2 ?c3 ?c4 ?c5; (case kA => exact rfl); (case kF => exact rfl); (case kK => assumption); (case k1 => assumption); (case k2 => assumption); (case k3 => assumption); (case k4 => assumption); (case k5 => assumption); (case k6 => k_is); (case k7 => k_is); (case k8 => (show @LT.lt Nat _ _ 1000; (try dsimp only [ktrTop]); omega)); (case k9 => exact BindsTo.of_eq rfl); (case c5 => decide); (case kB => exact locs rfl); (case c2 => exact rfl); (case c3 => exact rfl); (case c4 => exact rfl); k_whole)
  intro g L' h₁ tk0 hg hL F' N' B' X' T'
  simp only [Mine.bindM] at F'
  have hs0 : ∀ p ∈ [(lr, W.listOf rules.toArray nr), (lt, W.listOf (boolsOf f).toArray nt), (x, instObj 89 dx), (dx, impDict w lr lt t1 t2 n)], s.heap.get? p.1 = some p.2 := fun p hp => (N p hp).1
  clear B F X T0 N
  (try dsimp only)
  have hrl : rules.length = 26 := hrl
  have hv' : rules[((i : Int)).toNat]? = some v := hv
  k_steps
  k_steps
  rw [hn1]
  k_steps
  refine hQ _ _ (kept_four hg hs0 (by assumption) (by assumption) fun _ h => h)
end
end Mine
end
section
open PySem PySem.W PyProof.Rows PySem.Calls PySem.Spec
set_option Elab.async false
set_option maxRecDepth 100000
set_option maxHeartbeats 2000000
namespace Mine
theorem reads_rule_inv {h : Heap} {v : Value} {k : Int} (r : Reads h v (ruleD k) []) : ∃ ra o t lv n, v = .ref ra ∧ h.get? ra = some o ∧ o.cls = .type "tuple" ∧ o.data = .seq [.int k t, lv].toArray n ∧ Reads h lv (lenD k) [] := by
  unfold ruleD at r
  generalize ha : ([] : List Addr) = as at r
  cases r with
  | @tuple a o vs n xs as ho hc hd hr =>
    generalize hl : vs.toList = l at hr
    cases hr with
    | @cons v1 l1 d1 ds as1 bs1 r1 hr1 =>
      cases r1
      cases hr1 with
      | @cons v2 l2 d2 ds2 as2 bs2 r2 hr2 =>
        cases hr2
        have e2 : as2 = [] := by simpa using ha.symm
        subst e2
        exact ⟨a, o, _, v2, n, rfl, ho, hc, by rw [hd, ← hl, Array.toArray_toList], r2⟩
theorem reads_len_inv {h : Heap} {v : Value} {k : Int} (r : Reads h v (lenD k) []) : ∃ Tl : Led, Bears h Tl ∧ (∀ p ∈ Tl, p.2.cls = .type "tuple") ∧ LenIn Tl v k := by
  by_cases q : k = 5
  · unfold lenD at r
    rw [if_pos q] at r
    generalize ha : ([] : List Addr) = as at r
    cases r with
    | @tuple a o vs n xs as ho hc hd hr =>
      generalize hl : vs.toList = l at hr
      cases hr with
      | @cons v1 l1 d1 ds as1 bs1 r1 hr1 =>
        cases r1
        cases hr1 with
        | @cons v2 l2 d2 ds2 as2 bs2 r2 hr2 =>
          cases hr2
          cases r2
          refine ⟨[(a, o)], fun p hp => by rw [List.mem_singleton.mp hp]; exact ho, fun p hp => by rw [List.mem_singleton.mp hp]; exact hc, .inr ⟨q, a, o, _, _, n, rfl, .head _, hc, by rw [hd, ← hl, Array.toArray_toList]⟩⟩
  · unfold lenD at r
    rw [if_neg q] at r
    cases r
    exact ⟨[], (fun _ h => nomatch h), (fun _ h => nomatch h), .inl ⟨q, rfl⟩⟩
/-- a rule's tuple, read off -/
def RuleO (o : Obj) (Tl : Led) (k : Int) (t : Tok) (lv : Value) : Prop := o.cls = .type "tuple" ∧ (∃ n, o.data = .seq [.int k t, lv].toArray n) ∧ LenIn Tl lv k
theorem rules_open {h : Heap} {T : Led} {vs : List Value} {f : St} (R : RulesIn T vs f) (b : Bears h T) : ∃ Tl : Led, Bears h Tl ∧ (∀ p ∈ Tl, p.2.cls = .type "tuple") ∧
    ∀ i, i < 26 → ∃ ra o t lv, vs[i]? = some (.ref ra) ∧ h.get? ra = some o ∧ RuleO o Tl (kindAt f i) t lv := by
  have key : ∀ n, n ≤ 26 → ∃ Tl : Led, Bears h Tl ∧ (∀ p ∈ Tl, p.2.cls = .type "tuple") ∧ ∀ i, i < n → ∃ ra o t lv, vs[i]? = some (.ref ra) ∧ h.get? ra = some o ∧ RuleO o Tl (kindAt f i) t lv := by
    intro n
    induction n with
    | zero => exact fun _ => ⟨[], (fun _ h => nomatch h), (fun _ h => nomatch h), fun i h => by omega⟩
    | succ n ih =>
      intro hn
      obtain ⟨Tl, h1, h2, h3⟩ := ih (by omega)
      obtain ⟨v, hv, hr⟩ := R.2 n (by omega)
      obtain ⟨ra, o, t, lv, n', rfl, ho, hc, hd, hl⟩ := reads_rule_inv (hr h b)
      obtain ⟨Tl', g1, g2, g3⟩ := reads_len_inv hl
      refine ⟨Tl' ++ Tl, fun p hp => (List.mem_append.mp hp).elim (g1 p) (h1 p), fun p hp => (List.mem_append.mp hp).elim (g2 p) (h2 p), fun i hi => ?_⟩
      by_cases q : i = n
      · subst q
        exact ⟨ra, o, t, lv, hv, ho, hc, ⟨n', hd⟩, g3.mono fun p hp => List.mem_append_left _ hp⟩
      · obtain ⟨ra, o, t, lv, e1, e2, e3, e4, e5⟩ := h3 i (by omega)
        exact ⟨ra, o, t, lv, e1, e2, e3, e4, e5.mono fun p hp => List.mem_append_right _ hp⟩
  exact key 26 (Nat.le_refl _)

abbrev tupO (vs : Array Value) : Obj := { cls := .type "tuple", data := .seq vs }
/-- the tuple of a run, made by the call -/
def SegIn (T Tl : Led) (u : Value) (z : Seg) : Prop := ∃ a la ra t ta tb lv, u = .ref a ∧ (a, tupO #[.int z.1 t, lv, .ref la]) ∈ T ∧ (la, W.listOf #[.ref ra] 0) ∈ T ∧ (ra, tupO #[.str (letter z.2.1) ta, .str (letter z.2.2) tb]) ∈ T ∧ LenIn Tl lv z.1
theorem SegIn.mono {T T' Tl : Led} {u : Value} {z : Seg} (x : SegIn T Tl u z) (s : ∀ p ∈ T, p ∈ T') : SegIn T' Tl u z := by
  obtain ⟨a, la, ra, t, ta, tb, lv, e, h1, h2, h3, h4⟩ := x
  exact ⟨a, la, ra, t, ta, tb, lv, e, s _ h1, s _ h2, s _ h3, h4⟩
theorem SegIn.arg {T Tl : Led} {u : Value} {z : Seg} (x : SegIn T Tl u z) (h0 : z.2.1 < 26) (h1 : z.2.2 < 26) : ArgIn (T ++ Tl) u (segArg z) := by
  obtain ⟨a, la, ra, t, ta, tb, lv, e, m1, m2, m3, m4⟩ := x
  exact ⟨a, _, t, lv, .ref la, 0, e, List.mem_append_left _ m1, rfl, rfl, m4.mono fun p hp => List.mem_append_right _ hp, la, _, [.ref ra], 0, rfl, List.mem_append_left _ m2, rfl, rfl, rfl, fun i y ey => by
    cases i with
    | zero => simp [segArg] at ey; subst ey; exact ⟨_, rfl, h0, h1, ra, _, ta, tb, 0, rfl, List.mem_append_left _ m3, rfl, rfl⟩
    | succ i => simp [segArg] at ey⟩
/-- the items of a list are the runs -/
def SegsIn (T Tl : Led) (us : List Value) (zs : List Seg) : Prop := us.length = zs.length ∧ ∀ (j : Nat) z, zs[j]? = some z → ∃ u, us[j]? = some u ∧ SegIn T Tl u z
theorem SegsIn.nil {T Tl : Led} : SegsIn T Tl [] [] := ⟨rfl, fun j z e => by simp at e⟩
theorem SegsIn.mono {T T' Tl : Led} {us : List Value} {zs : List Seg} (x : SegsIn T Tl us zs) (s : ∀ p ∈ T, p ∈ T') : SegsIn T' Tl us zs := ⟨x.1, fun j z e => let ⟨u, hu, hs⟩ := x.2 j z e; ⟨u, hu, hs.mono s⟩⟩
theorem SegsIn.snoc {T T' Tl : Led} {us : List Value} {zs : List Seg} {v : Value} {z : Seg} (x : SegsIn T Tl us zs) (s : ∀ p ∈ T, p ∈ T') (hv : SegIn T' Tl v z) : SegsIn T' Tl (us ++ [v]) (zs ++ [z]) :=
  ⟨by simp [x.1], list_snoc x.2 x.1 (fun _ _ h => h.mono s) hv⟩
theorem SegsIn.unsnoc {T Tl : Led} {us : List Value} {zs : List Seg} {z : Seg} (x : SegsIn T Tl us (zs ++ [z])) : ∃ pre u, us = pre ++ [u] ∧ SegsIn T Tl pre zs ∧ SegIn T Tl u z := by
  have hl : us.length = zs.length + 1 := by have := x.1; simpa using this
  obtain ⟨u, hu, hs⟩ := x.2 zs.length z (by simp)
  refine ⟨us.dropLast, u, ?_, ⟨by simp [hl], fun j y e => ?_⟩, hs⟩
  · refine List.ext_getElem? fun j => ?_
    by_cases q : j < zs.length
    · rw [List.getElem?_append_left (by simp [hl, q]), List.getElem?_dropLast, if_pos (by omega)]
    · by_cases q2 : j = zs.length
      · subst q2
        rw [hu, List.getElem?_append_right (by rw [List.length_dropLast, hl]; exact Nat.le_refl _)]
        rw [List.length_dropLast, hl]
        simp
      · rw [List.getElem?_eq_none (by omega), List.getElem?_eq_none (by simp [hl]; omega)]
  · have hj : j < zs.length := (List.getElem?_eq_some_iff.mp e).1
    obtain ⟨w, hw, hp⟩ := x.2 j y (by rw [List.getElem?_append_left hj]; exact e)
    exact ⟨w, by rw [List.getElem?_dropLast, if_pos (by omega)]; exact hw, hp⟩
theorem SegsIn.args {T Tl : Led} {l : Addr} {n : Nat} {us : List Value} {f : St} (x : SegsIn T Tl us (foldF f 26)) : ArgsIn (((l, W.listOf us.toArray n) :: T) ++ Tl) (.ref l) ((foldF f 26).map segArg) := by
  refine ⟨l, _, us, n, rfl, .head _, rfl, rfl, by rw [x.1]; simp, fun j y e => ?_⟩
  rw [List.getElem?_map] at e
  cases ez : (foldF f 26)[j]? with
  | none => rw [ez] at e; cases e
  | some z =>
    rw [ez] at e
    cases e
    obtain ⟨u, hu, hs⟩ := x.2 j z ez
    obtain ⟨h1, h2, _⟩ := fold_in (List.mem_of_getElem? ez)
    exact ⟨u, hu, (hs.arg (by omega) h2).mono fun p hp => List.Mem.tail _ hp⟩

/-- what the rules read as -/
def runD (r : Nat × Nat) : PyData := .tuple [.str (letter r.1), .str (letter r.2)]
def argD (r : Int × List (Nat × Nat)) : PyData := .tuple [.int r.1, lenD r.1, .list (r.2.map runD)]
def argsD (rs : List (Int × List (Nat × Nat))) : PyData := .list (rs.map argD)
theorem reads_all {α : Type} {h : Heap} {D : α → PyData} : ∀ {vs : List Value} {xs : List α}, vs.length = xs.length → (∀ (i : Nat) x, xs[i]? = some x → ∃ u, vs[i]? = some u ∧ ∃ as, Reads h u (D x) as) → ∃ as, ReadsAll h vs (xs.map D) as
  | [], [], _, _ => ⟨[], .nil⟩
  | v :: vs, x :: xs, hl, hi => by
    obtain ⟨u, hu, as, r⟩ := hi 0 x rfl
    cases hu
    obtain ⟨bs, rs⟩ := reads_all (vs := vs) (xs := xs) (by simpa using hl) fun i y e => hi (i + 1) y e
    exact ⟨_, .cons r rs⟩
  | [], _ :: _, hl, _ => by simp at hl
  | _ :: _, [], hl, _ => by simp at hl
theorem ListIn.reads {α : Type} {T : Led} {P : Value → α → Prop} {v : Value} {xs : List α} {h : Heap} {D : α → PyData} (x : ListIn T P v xs) (b : Bears h T) (hP : ∀ u y, P u y → ∃ as, Reads h u (D y) as) : ∃ as, Reads h v (.list (xs.map D)) as := by
  obtain ⟨_, _, _, _, e, hm, hc, hd, hl, hi⟩ := x
  exact let ⟨_, r⟩ := reads_all (D := D) hl fun i y ey => let ⟨u, hu, hp⟩ := hi i y ey; ⟨u, hu, hP u y hp⟩
    e ▸ ⟨_, .list (b _ hm) hc hd r⟩
theorem RunIn.reads {T : Led} {v : Value} {r : Nat × Nat} {h : Heap} (x : RunIn T v r) (b : Bears h T) : ∃ as, Reads h v (runD r) as := by
  obtain ⟨_, _, _, _, _, _, _, e, hm, hc, hd⟩ := x
  exact e ▸ ⟨_, .tuple (b _ hm) hc hd (.cons (.str _ _) (.cons (.str _ _) .nil))⟩
theorem ArgIn.reads {T : Led} {v : Value} {r : Int × List (Nat × Nat)} {h : Heap} (x : ArgIn T v r) (b : Bears h T) : ∃ as, Reads h v (argD r) as :=
  let ⟨_, _, _, _, _, _, e, hm, hc, hd, hl, hr⟩ := x
  let ⟨_, rr⟩ := hr.reads b fun _ _ p => p.reads b
  e ▸ ⟨_, .tuple (b _ hm) hc hd (.cons (.int _ _) (.cons (hl.reads h b) (.cons rr .nil)))⟩
theorem args_reads {T : Led} {v : Value} {rs : List (Int × List (Nat × Nat))} {h : Heap} (x : ArgsIn T v rs) (b : Bears h T) : ∃ as, Reads h v (argsD rs) as := ListIn.reads x b fun _ _ p => p.reads b

section
variable {prog : Program} {w : World} {A : Around} {E : Value → Shared → Prop} {s : Shared} {h₀ : Heap} {L D : Addr} {m : Str → Option Value} {news news' : Led} {pre : List Value} {u : Value} {n : Nat} {t : Tok}
theorem item_last {value slice : PySem.Expr} {Q : Value → Shared → Prop} (hl : s.heap.IsList D (pre ++ [u]).toArray) (h : Q u s)
    (hs : subscripted slice false (.ref D) (.int (-1) t) = operate [.ref D, .int (-1) t] (getItem (.ref D) (.int (-1) t)) := by with_unfolding_all rfl) :
    wpAny (model prog w) A (subscriptTail value slice (.ref D) (.int (-1) t)) Q E s :=
  kde_neg (j := pre.length) hl (by decide) (by decide) (by unfold seqIndex?; simp; omega) (by simp) h hs
theorem set_last {Q : Unit → Shared → Prop} {v : Value} (F : Fr h₀ L s.heap m) (N : News h₀ L s.heap news) (U : Upd D (W.listOf (pre ++ [u]).toArray n) (W.listOf (pre ++ [v]).toArray n) news news')
    (h : ∀ h', Fr h₀ L h' m → News h₀ L h' news' → Q () { s with heap := h' }) :
    wpAny (model prog w) A (setItem (.ref D) (.int (-1) t) v) Q E s := by
  obtain ⟨p, post, rfl, rfl, a, b⟩ := U.split
  have z := N (D, W.listOf (pre ++ [u]).toArray n) (List.mem_append.mpr (.inr (.head _)))
  have hs : ((-1 : Int) + ((pre ++ [u]).toArray.size : Nat)).toNat = pre.length := by simp; omega
  refine ki_setBack z.1 (by decide) (by rw [List.size_toArray, List.length_append]; simp; omega) (by decide) (h _ (F.change (Heap.SameBut.update ..) z.2.1 z.2.2) (ki_turn _ N a b ?_ ?_))
  · rw [hs]
    show (pre ++ [u]).toArray.setIfInBounds pre.length v = (pre ++ [v]).toArray
    apply Array.toList_inj.mp
    simp
  · simp
end
theorem eqv_rule {k k' : Int} : PyData.eqv (ruleD k) (ruleD k') = decide (k = k') := by
  unfold ruleD lenD
  by_cases e : k = k'
  · subst e
    rw [decide_eq_true rfl]
    split <;> simp [PyData.eqv, PyData.eqvAll]
  · rw [decide_eq_false e]
    simp [PyData.eqv, PyData.eqvAll, e]
theorem shaped_rule {k : Int} : SeqAt.shaped (ruleD k) = true := by
  unfold ruleD lenD
  by_cases e : k = 5
  · rw [if_pos e]
    have h1 : PyData.strOk "int" = true := by decide +kernel
    simp [SeqAt.shaped, PyData.canLay0, PyData.canLayAll0, PyData.depth, PyData.depthAll, h1]
  · rw [if_neg e]
    simp [SeqAt.shaped, PyData.canLay0, PyData.canLayAll0, PyData.depth, PyData.depthAll]
theorem letter_ok : ∀ i, i < 26 → PyData.strOk (letter i) = true := by decide +kernel
theorem lay_arg {r : Int × List (Nat × Nat)} (h : ∀ z ∈ r.2, z.1 < 26 ∧ z.2 < 26) : (argD r).canLay0 = true ∧ (argD r).depth ≤ 10 := by
  have hl : PyData.canLay0 (lenD r.1) = true ∧ PyData.depth (lenD r.1) ≤ 4 := by
    unfold lenD
    have h1 : PyData.strOk "int" = true := by decide +kernel
    split <;> simp [PyData.canLay0, PyData.canLayAll0, PyData.depth, PyData.depthAll, h1]
  have hr : ∀ l : List (Nat × Nat), (∀ z ∈ l, z.1 < 26 ∧ z.2 < 26) → PyData.canLayAll0 (l.map runD) = true ∧ PyData.depthAll (l.map runD) ≤ 4 := by
    intro l
    induction l with
    | nil => exact fun _ => ⟨rfl, by simp [PyData.depthAll]⟩
    | cons z l ih =>
      intro hz
      obtain ⟨i1, i2⟩ := ih fun y hy => hz y (List.mem_cons_of_mem _ hy)
      obtain ⟨z1, z2⟩ := hz z List.mem_cons_self
      rw [List.map_cons]
      constructor
      · rw [PyData.canLayAll0, i1]
        simp [runD, PyData.canLay0, PyData.canLayAll0, letter_ok _ z1, letter_ok _ z2]
      · rw [PyData.depthAll]
        simp only [runD, PyData.depth, PyData.depthAll]
        omega
  obtain ⟨h1, h2⟩ := hr r.2 h
  unfold argD
  constructor
  · simp [PyData.canLay0, PyData.canLayAll0, hl.1, h1]
  · simp only [PyData.depth, PyData.depthAll]
    have := hl.2
    omega
theorem shaped_args {rs : List (Int × List (Nat × Nat))} (h : ∀ r ∈ rs, ∀ z ∈ r.2, z.1 < 26 ∧ z.2 < 26) : SeqAt.shaped (argsD rs) = true := by
  have hr : PyData.canLayAll0 (rs.map argD) = true ∧ PyData.depthAll (rs.map argD) ≤ 10 := by
    induction rs with
    | nil => exact ⟨rfl, by simp [PyData.depthAll]⟩
    | cons r rs ih =>
      obtain ⟨i1, i2⟩ := ih fun y hy => h y (List.mem_cons_of_mem _ hy)
      obtain ⟨a1, a2⟩ := lay_arg (h r List.mem_cons_self)
      rw [List.map_cons]
      constructor
      · rw [PyData.canLayAll0, i1, a1]; rfl
      · rw [PyData.depthAll]; omega
  unfold SeqAt.shaped argsD
  rw [Bool.and_eq_true_iff]
  refine ⟨?_, decide_eq_true ?_⟩
  · rw [PyData.canLay0]; exact hr.1
  · rw [PyData.depth]; omega
theorem shaped_fold {f : St} : SeqAt.shaped (argsD ((foldF f 26).map segArg)) = true := shaped_args fun r hr z hz => by
  obtain ⟨y, hy, rfl⟩ := List.mem_map.mp hr
  obtain ⟨h1, h2, _⟩ := fold_in hy
  rw [List.mem_singleton.mp hz]
  exact ⟨by show y.2.1 < 26; omega, h2⟩
theorem eqv_fold {f : St} : PyData.eqv (argsD ((foldF f 26).map segArg)) (argsD ((foldF f 26).map segArg)) = true := SeqAt.eqv_refl _ (SeqAt.canLay_of_shaped shaped_fold)
end Mine
end
section
open PySem PySem.W PyProof.Rows PySem.Calls PySem.Spec
set_option Elab.async false
set_option maxRecDepth 100000
set_option maxHeartbeats 2000000
namespace Mine
theorem new_of {s h' g : Heap} {L r : Addr} {o : Obj} {news l4 : Led} (hg : ∀ b o, s.get? b = some o → b ∉ l4.map (·.1) → g.get? b = some o) (N : News g L h' news) (hr : (r, o) ∈ news) (hne : r ∉ l4.map (·.1)) : s.get? r = none := by
  cases z : s.get? r with
  | none => rfl
  | some o2 =>
    have := (N _ hr).2.2
    rw [hg r o2 z hne] at this; cases this
theorem three {g h : Heap} {L a b c : Addr} {oa ob oc : Obj} {rest : Led} (N : News g L h ((a, oa) :: (b, ob) :: (c, oc) :: rest)) : ∃ T3 : Led, T3 = [(a, oa), (b, ob), (c, oc)] ∧ News g L h (T3 ++ rest) := ⟨_, rfl, N⟩
theorem held {P : Prop} (h : Hold P) : P := h
theorem unheld {P : Prop} (h : P) : Hold P := h
section
variable {prog : Program} {w : World} {A : Around} {E : Value → Shared → Prop} {s : Shared} {h₀ : Heap} {L : Addr} {m : Str → Option Value} {news : Led}
theorem applied_to2 {sl : Addr} {u : Tok} {Q : Int × Int × Nat → Shared → Prop} (hs : s.heap.IsSliceOf sl .none (.int 2 u) .none) (h : Q (0, 1, 2) s) :
    wpAny (model prog w) A (Builtin.Slice.sliceApplied (.ref sl) (pure ((3 : Nat) : Int))) Q E s := by
  obtain ⟨os, hos, hcs, hds⟩ := id hs
  unfold Builtin.Slice.sliceApplied Builtin.Slice.sliceFields
  refine wpAny_bind (wpAny_bind (wpAny_field hos hds (x := .none) rfl (wpAny_bind (wpAny_field hos hds (x := .int 2 u) rfl (wpAny_bind (wpAny_field hos hds (x := .none) rfl (wpAny_pure ?_)))))))
  refine wpAny_bind (slicePart_none ?_)
  show wpAny _ _ (if ((1 : Int) == 0) = true then _ else _) _ _ s
  rw [if_neg (by decide)]
  refine wpAny_bind (slicePart_none (wpAny_bind (slicePart_int (wpAny_bind (wpAny_pure ?_)))))
  show wpAny _ _ (pure ((0 : Int), (1 : Int), 2)) _ _ s
  exact wpAny_pure h
theorem getItem_to2 {t sl : Addr} {v0 v1 v2 : Value} {u : Tok} {Q : Value → Shared → Prop} (ht : IsTup s.heap t #[v0, v1, v2]) (hs : s.heap.IsSliceOf sl .none (.int 2 u) .none)
    (h : Q (.ref s.heap.objs.size) { s with heap := s.heap.push { cls := .type "tuple", data := .seq #[v0, v1] } }) : wpAny (model prog w) A (getItem (.ref t) (.ref sl)) Q E s := by
  have hdrop : sizeOk (.seq #[v0, v1]) := by
    show (#[v0, v1] : Array Value).size ≤ sizeLine
    rw [sizeLine_eq]; exact Nat.le_of_ble_eq_true rfl
  obtain ⟨os, hos, hcs, hds⟩ := id hs
  have hTs : s.TypeIs (.ref sl) "slice" := ⟨os, hos, hcs⟩
  unfold getItem
  try with_reducible refine wpAny_holding ?_
  first | refine wpAny_bind (wpAny_pure ?_) | skip
  refine wpAny_bind (wpAny_sequenceKey ht.typeIs (by decide) ?_)
  refine wpAny_bind (wpAny_callSpecial?_slot (name := Str.ofString "__getitem__") ht.typeIs slot_tuple_getitem
    (wpAny_call_entry slot_tuple_getitem ht.typeIs entry_tuple_getitem ?_ (args_tuple_getitem _ _)))
  show wpAny _ _ (Builtin.Tuple.tupleItemsOf (.ref t) >>= _) _ _ s
  refine wpAny_bind (tupleItemsOf_ ht ?_)
  refine wpAny_bind (wpAny_typeOf hTs ?_)
  rw [if_pos (by decide)]
  refine wpAny_bind (applied_to2 hs ?_)
  show wpAny _ _ (if ((0 : Int) == 0 && (1 : Int) == 1 && (2 : Nat) == (3 : Nat)) = true then _ else _) _ _ s
  rw [if_neg (by decide)]
  show wpAny _ _ (Builtin.Tuple.tupleExact #[v0, v1] >>= _) _ _ s
  first
    | exact wpAny_bind (m := Builtin.Tuple.tupleExact _) (wpAny_newObj_type (wpAny_pure ⟨_, rfl, wpAny_pure h⟩) hdrop)
    | exact wpAny_bind (m := Builtin.Tuple.tupleExact _) (wpAny_newObj_type (wpAny_bind (wpAny_pure (wpAny_pure ⟨_, rfl, wpAny_pure h⟩))) hdrop)
    | exact wpAny_bind (wpAny_bind (m := Builtin.Tuple.tupleExact _) (wpAny_newObj_type (wpAny_pure (wpAny_pure ⟨_, rfl, wpAny_pure h⟩)) hdrop))
    | exact wpAny_bind (wpAny_bind (m := Builtin.Tuple.tupleExact _) (wpAny_newObj_type (wpAny_pure ⟨_, rfl, wpAny_pure h⟩) hdrop))
theorem slice_to2 {value slice : PySem.Expr} {t : Addr} {v0 v1 v2 : Value} {u : Tok} {Q : Value → Shared → Prop}
    (F : Fr h₀ L s.heap m) (N : News h₀ L s.heap news) (ht : IsTup s.heap t #[v0, v1, v2])
    (h : ∀ D h', Fr h₀ L h' m → News h₀ L h' ((D, { cls := .type "tuple", data := .seq #[v0, v1] }) :: news) → (∀ p ∈ news, p.1 < D) → Q (.ref D) { s with heap := h' })
    (hs : subscripted slice false (.ref t) (.ref s.heap.objs.size) = operate [.ref s.heap.objs.size, .ref t] (getItem (.ref t) (.ref s.heap.objs.size)) := by with_unfolding_all rfl)
    (hg : ∀ r, letTemporaryGo value (.ref t) r = pure () := by intro _; with_unfolding_all rfl) :
    wpAny (model prog w) A (subscriptTail value slice (.ref t) (.ref s.heap.objs.size)) Q E { s with heap := s.heap.push { cls := .type "slice", data := .fields #[.none, .int 2 u, .none] } } := by
  have ht' : IsTup (s.heap.push { cls := .type "slice", data := .fields #[.none, .int 2 u, .none] }) t #[v0, v1, v2] := ht.keeps fun _ _ e => Heap.get?_push_of_some _ e
  refine subscriptTail_ops (s := { s with heap := s.heap.push { cls := .type "slice", data := .fields #[.none, .int 2 u, .none] } }) ht'.typeIs slot_tuple_getitem.lookup
    (getItem_to2 ht' (Heap.IsSliceOf.new ..) ?_) hs hg
  have N1 := News.push (F.push { cls := .type "slice", data := .fields #[.none, .int 2 u, .none] }) (N.grown fun _ _ e => Heap.get?_push_of_some _ e) { cls := .type "tuple", data := .seq #[v0, v1] }
  rw [Heap.size_push] at N1
  show Q (.ref (s.heap.push _).objs.size) _
  rw [Heap.size_push]
  exact h _ _ ((F.push _).push _) N1 fun p hp => Nat.lt_succ_of_lt (Heap.lt_size (N p hp).1)
end
end Mine
end
section
open PySem PySem.W PyProof.Rows PySem.Calls PySem.Spec
set_option Elab.async false
set_option maxRecDepth 100000
set_option maxHeartbeats 4000000
local macro_rules | `(tactic| walk_at "exec For Name Call cons nil") => `(tactic| (k_here; k_dflt (refine' Mine.for_open ?_)))
local macro_rules | `(tactic| walk_at "exec For Name Name cons nil") => `(tactic| (k_here; k_dflt (refine' Mine.for_open ?_)))
local macro_rules | `(tactic| walk_at "exec For Tuple Name cons nil") => `(tactic| (k_here; k_dflt (refine' Mine.for_open ?_)))
local macro_rules | `(tactic| walk_at "subscriptTail") => `(tactic| (k_here; (with_reducible show wpAny _ _ (subscriptTail _ _ (Value.ref _) (Value.int _ _)) _ _ _); k_dflt (refine' item_listL ?k1 ?k2 ?k3 ?k4 ?_; (case k1 => is_list); (case k4 => with_reducible assumption); (case k2 => omega); (case k3 => omega); k_whole)))
local macro_rules | `(tactic| walk_at "subscriptTail Name Name str int") => `(tactic| (k_here; (with_reducible show wpAny _ _ (subscriptTail _ _ (Value.str _ _) (Value.int _ _)) _ _ _); k_dflt (refine' KXi.item (n := 26) ?a ?b ?c ?d ?_; (case a => decide); (case b => omega); (case c => omega); (case d => decide); k_whole); intro _))
local macro_rules | `(tactic| k_all) => `(tactic| (refine fun p hp => ?_; with_reducible assumption))
local macro_rules | `(tactic| k_all) => `(tactic| with_reducible assumption)
local macro_rules | `(tactic| walk_at "subscriptTail") => `(tactic| (k_here; (with_reducible show wpAny _ _ (subscriptTail _ _ (Value.ref _) (Value.int (-1) _)) _ _ _); k_dflt (refine' item_last ?k1 ?_; (case k1 => is_list); k_whole)))
local macro_rules | `(tactic| walk_at "setItem ref int") => `(tactic| (k_here; (with_reducible show wpAny _ _ (PySem.setItem (Value.ref _) (Value.int (-1) _) _) _ _ _); k_dflt (refine' Mine.set_last ?k1 ?k2 ?k3 ?_; (case k1 => k_asm); (case k2 => k_asm); (case k3 => k_upd); k_whole); intro h' F' N'; (try k_sweep)))
local macro_rules | `(tactic| walk_at "subscriptTail") => `(tactic| (k_here; (with_reducible show wpAny _ _ (subscriptTail _ _ (Value.ref _) (Value.ref _)) _ _ _); k_dflt (refine' Mine.slice_to2 ?F ?N ?t ?_; (case F => k_asm); (case N => k_asm); (case t => kun_tup); k_whole); intro D' h' F' N' l1; (try k_lt l1)))
local macro_rules | `(tactic| walk_at "compareOp Eq ref ref") => `(tactic| (k_here; k_dflt (refine Mine.held ?_)))
local macro_rules | `(tactic| walk_at "subscriptTail") => `(tactic| (k_here; (fail_if_success (with_reducible show wpAny _ _ (subscriptTail (PySem.Expr.Name _ _) _ _ _) _ _ _)); k_dflt (refine Mine.turn ?_)))
local macro_rules | `(tactic| walk_at "exec Assign") => `(tactic| (k_here; (with_reducible show wpAny _ _ (exec (Stmt.Assign [Expr.Name _ _] _ _) _) _ _ _); k_dflt (refine wpAny_Assign_Name ?_)))
local macro_rules | `(tactic| walk_at "eval Name") => `(tactic| (k_here; k_dflt (refine' ld ?k1 ?k2 ?_; (case k1 => k_asm); (case k2 => first | exact rfl | assumption); k_whole)))
local macro_rules | `(tactic| k_ne) => `(tactic| with_reducible (first | assumption | (refine Ne.symm ?_; assumption)))
local macro_rules | `(tactic| walk_at "getAttr ref") => `(tactic| (k_here; k_dflt (refine' get_own ?k1 ?k2 ?k3 ?k4 ?k5 ?k6 ?k7 ?k8 ?k9 ?_; (case k1 => k_asm); (case k2 => k_asm); (case k3 => k_inst); (case k4 => k_is); (case k5 => k_is); (case k6 => k_is); (case k7 => k_is); (case k8 => k_get); (case k9 => k_handed); k_whole)))
local macro_rules | `(tactic| walk_at "subscriptTail Name Name ref int") => `(tactic| (k_here; (with_reducible show wpAny _ _ (subscriptTail _ _ (Value.ref _) (Value.int _ _)) _ _ _); k_dflt (refine' item_listL ?k1 ?k2 ?k3 ?k4 ?_; (case k1 => is_list); (case k4 => with_reducible assumption); (case k2 => omega); (case k3 => omega); k_whole)))
local macro_rules | `(tactic| walk_at "subscriptTail Name Constant ref int") => `(tactic| (k_here; (with_reducible show wpAny _ _ (subscriptTail _ _ (Value.ref _) (Value.int _ _)) _ _ _); k_dflt (refine' item_tupleT ?t ?a ?b ?c ?d ?_; (case t => first | assumption | exact Fr.tup (by assumption) (by assumption)); (case a => decide); (case b => decide); (case c => rfl); (case d => rfl); k_whole)))
local macro_rules | `(tactic| walk_at "subscriptTail Name UnaryOp ref int") => `(tactic| (k_here; (with_reducible show wpAny _ _ (subscriptTail _ _ (Value.ref _) (Value.int (-1) _)) _ _ _); k_dflt (refine' item_last ?k1 ?_; (case k1 => is_list); k_whole)))
local macro_rules | `(tactic| walk_at "subscriptTail") => `(tactic| (k_here; (with_reducible show wpAny _ _ (subscriptTail _ _ (Value.ref _) (Value.int _ _)) _ _ _); k_dflt (refine' item_tupleT ?t ?a ?b ?c ?d ?_; (case t => first | assumption | exact Fr.tup (by assumption) (by assumption)); (case a => decide); (case b => decide); (case c => rfl); (case d => rfl); k_whole)))

namespace Mine
section
variable {w : World} {pg : Program} {loose : List Str} {mean : ExcName → Option Value} {mg mb : Str → Option Value}

def isRun (f : St) (i : Nat) : Bool := decide (0 < i) && (f (i - 1)).isSome
theorem to0 {i : Nat} : ((0 : Int) + (i : Int)).toNat = i := by omega
theorem item_i {i : Nat} (h : i < 26) : Txt.item "ABCDEFGHIJKLMNOPQRSTUVWXYZ" ((0 : Int) + (i : Int)) = letter i := by rw [item_abc (by omega) (by omega), to0]
theorem keep_cls {g h : Heap} {news : Led} {c : Value} (hg : ∀ b o, h.get? b = some o → b ∉ news.map (·.1) → g.get? b = some o) (hs : ∀ p ∈ news, h.get? p.1 = some p.2) (hc : ∀ p ∈ news, p.2.cls ≠ c) : ∀ a o, h.get? a = some o → o.cls = c → g.get? a = some o := fun a o e ec => hg a o e fun z => by
  obtain ⟨p, hp, rfl⟩ := List.mem_map.mp z
  have := hs p hp
  rw [e] at this
  cases this
  exact hc p hp ec
theorem imp_cls {w : World} {lr lt x dx : Addr} {t1 t2 : Tok} {n nr nt : Nat} {a b : Array Value} : ∀ p ∈ [(lr, W.listOf a nr), (lt, W.listOf b nt), (x, instObj 89 dx), (dx, impDict w lr lt t1 t2 n)], p.2.cls ≠ .type "tuple" :=
  all_cons (fun q => by simp at q) (all_cons (fun q => by simp at q) (all_cons (fun q => by simp at q) (all_cons (fun q => by simp at q) all_nil)))
theorem run_true {f : St} {i : Nat} (h : isRun f i = true) : 0 < i ∧ ∃ k', f (i - 1) = some k' := by
  unfold isRun at h
  simp only [Bool.and_eq_true, decide_eq_true_eq] at h
  exact ⟨h.1, Option.isSome_iff_exists.mp h.2⟩
theorem run_none {f : St} {i : Nat} (h : f i = none) : isRun f (i + 1) = false := by unfold isRun; simp [h]
theorem run_some {f : St} {i : Nat} {k : Int} (h : f i = some k) : isRun f (i + 1) = true := by unfold isRun; simp [h]
theorem run_new {f : St} {i : Nat} {k : Int} (h : isRun f i = false) : ¬ (0 < i ∧ f (i - 1) = some k) := fun z => by
  unfold isRun at h
  rw [decide_eq_true z.1, z.2] at h
  cases h
theorem kindAt_some {f : St} {i : Nat} {k : Int} (h : f i = some k) : kindAt f i = k := by unfold kindAt; rw [h]; rfl
theorem seg_len {Tn Tl : Led} {us : List Value} {f : St} {i : Nat} (h : SegsIn Tn Tl us (foldF f i)) (hi : i < 26) : us.length ≤ 26 := by rw [h.1]; exact Nat.le_trans fold_len (by omega)
inductive TJ (w : World) (g : Heap) (L' l lr lt x dx : Addr) (rules : List Value) (nr nt : Nat) (f : St) (t1 t2 : Tok) (n : Nat) (Tl : Led) (sz : Nat) (i : Nat) (h : Heap) : Prop
  | mk (m : Str → Option Value) (us : List Value) (nu : Nat) (Tn : Led) (F : Fr g L' h m) (hmi : m "implicit" = some (.ref x)) (hmf : m "found" = some (.ref l)) (hmr : m "is_run" = some (.bool (isRun f i)))
    (N : News g L' h ((l, W.listOf (us : List Value).toArray nu) :: (lr, W.listOf rules.toArray nr) :: (lt, W.listOf (boolsOf f).toArray nt) :: (x, instObj 89 dx) :: (dx, impDict w lr lt t1 t2 n) :: Tn)) (hS : SegsIn Tn Tl us (foldF f i)) (hTn : ∀ p ∈ Tn, @LT.lt Nat _ L' p.1 ∧ p.1 ≠ l ∧ p.1 ≠ sz) : TJ w g L' l lr lt x dx rules nr nt f t1 t2 n Tl sz i h
theorem told_spec ⦃dp un : Nat⦄ ⦃gd : Option (List Code)⦄ ⦃cn : Str⦄ ⦃cs : Scope⦄ ⦃L a : Addr⦄ ⦃ccd : Value⦄ ⦃cl : List (Str × Addr)⦄ ⦃outer : List Env⦄ ⦃A₀ : Around⦄ ⦃base h₀ : Heap⦄ ⦃m : Str → Option Value⦄ ⦃s : Shared⦄ ⦃Q E : Value → Shared → Prop⦄
    {x dx lr lt : Addr} {t1 t2 : Tok} {n nr nt : Nat} {rules : List Value} {f : St} {T : Led}
    (H : Here w pg loose mean mg mb cs A₀ base h₀ outer L m s.heap) (hdp : dp + 5 < 900) (hun : un + 70 < 9000)
    (N : News h₀ L s.heap [(lr, W.listOf rules.toArray nr), (lt, W.listOf (boolsOf f).toArray nt), (x, instObj 89 dx), (dx, impDict w lr lt t1 t2 n)]) (hR : RulesIn T rules f) (hT : Bears s.heap T)
    (hQ : ∀ h' tk v Tn Tl, Kept [] s.heap h' → Fresh s.heap h' Tn → Bears s.heap Tl → (∀ p ∈ Tl, p.2.cls = .type "tuple") → ArgsIn (Tn ++ Tl) v ((foldF f 26).map segArg) → Q v { s with heap := h', toks := tk }) :
    wpAny (model PySem.Challenge.rw_pq0349_01.row.prog w) (ktrTop dp un gd cn cs L a ccd cl outer) (call (.ref 107) [.ref x]) Q E s := by
  have B := H.B
  have F := H.F
  have X := H.X
  have T0 := H.T
  have hk := H.hk
  revert X; k_fill; intro X
  refine wpAny_call ?_
  k_dflt (refine' Mine.enterP [("implicit", .ref x)] ?k1 ?k2 ?k3 ?k4 ?k5 ?kA ?kF ?kK ?k6 ?k7 ?k8 ?k9 ?kB ?kbody ?c2 ?c3 ?c4 ?c5; (case kA => exact rfl); (case kF => exact rfl); (case kK => assumption); (case k1 => assumption); (case k2 => assumption); (case k3 => assumption); (case k4 => assumption); (case k5 => assumption); (case k6 => k_is); (case k7 => k_is); (case k8 => (show @LT.lt Nat _ _ 1000; (try dsimp only [ktrTop]); omega)); (case k9 => exact BindsTo.of_eq rfl); (case c5 => decide); (case kB => exact locs rfl); (case c2 => exact rfl); (case c3 => exact rfl); (case c4 => exact rfl); k_whole)
  intro g L' h₁ tk0 hg hL F' N' B' X' T'
  simp only [Mine.bindM] at F'
  have hs0 : ∀ p ∈ [(lr, W.listOf rules.toArray nr), (lt, W.listOf (boolsOf f).toArray nt), (x, instObj 89 dx), (dx, impDict w lr lt t1 t2 n)], s.heap.get? p.1 = some p.2 := fun p hp => (N p hp).1
  have hrl : rules.length = 26 := hR.1
  obtain ⟨Tl, hTl, hTlc, hro⟩ := rules_open hR hT
  have hgt : ∀ ra o, s.heap.get? ra = some o → o.cls = .type "tuple" → g.get? ra = some o := keep_cls hg hs0 imp_cls
  have hTlg : Bears g Tl := fun p hp => hgt _ _ (hTl p hp) (hTlc p hp)
  have hlen26 : (boolsOf f).length = 26 := by simp [boolsOf]
  clear B F X T0 N
  (try dsimp only)
  refine gen1 ?_
  intro Qq hQq
  refine letAE ?_
  intro Aq Eq
  k_steps
  rename Fr _ _ _ _ => F1
  rename IsRange _ _ _ _ _ _ _ _ => hRg
  rename News _ _ _ _ => N1
  rename Heap => h5
  rename_i l _ l1 _ _ _ _ _ _ _ _ _
  have hI : @LT.lt Nat _ L' h5.objs.size := F1.ns.lt
  have hz := sizes5 N1
  refine loop_range (n := 26) (TJ w g L' l lr lt x dx rules nr nt f t1 t2 n Tl h5.objs.size) hRg rfl (by decide) (by decide) ?j0 ?stable ?turn ?done
  case j0 => exact ⟨_, [], 0, [], F1, rfl, rfl, rfl, N1, SegsIn.nil, all_nil⟩
  case stable =>
    rintro i h h' ⟨m, us, nu, Tn, F, hmi, hmf, hmr, N, hS, hTn⟩ kp
    exact ⟨m, us, nu, Tn, fr_stable F hI kp, hmi, hmf, hmr, news_stable N kp (sz5 hz fun z hz => (hTn z hz).2.2), hS, hTn⟩
  case turn =>
    intro i h tk t9 I oI hi HJ hIe hIo hIc
    refine genT ?_
    intro Ra hRa
    refine byG fun GG kG => ?_
    obtain ⟨m, us, nu, Tn, F, hmi, hmf, hmr, N, hS, hTn⟩ := HJ
    obtain ⟨ra, o, ta, lv, hri, hra, hoc, ⟨no, hod⟩, hlen⟩ := hro i hi
    refine kG ?_
    clear kG
    have hIl : @Ne Nat I l := ne_of_eq_size hIe hz.1
    have hLI : @LT.lt Nat _ L' I := by rw [hIe]; exact hI
    have NI := news_sub (news_more F hLI hIo N) rot5
    have hri' : rules[((0 : Int) + (i : Int)).toNat]? = some (.ref ra) := to0.symm ▸ hri
    have hti : (boolsOf f)[((0 : Int) + (i : Int)).toNat]? = some (.bool (f i).isSome) := to0.symm ▸ bool_at hi
    have hIT : IsTup g ra [.int (kindAt f i) ta, lv].toArray := ⟨o, hgt _ _ hra hoc, hoc, no, hod⟩
    have hul := seg_len hS hi
    have hTl1 : ∀ z ∈ Tn, z.1 ≠ l := fun z hz => (hTn z hz).2.1
    clear F1 N1 hRg N
    dsimp only at hIe ⊢
    refine wpAny_assign_Name (stN F NI (fun h1' F2 N2 => ?_))
    clear NI F
    cases hfi : f i with
    | none =>
      rw [hfi] at hti
      simp only [Option.isSome_none] at hti
      k_steps
      rename Fr _ _ _ _ => F3
      rename News _ _ _ _ => N3
      subst hRa
      exact ⟨_, _, rfl, ⟨_, us, nu, Tn, F3, hmi, hmf, by rw [run_none hfi]; rfl, news_sub N3 (sub_cons mm0 (sub_cons mm1 (sub_cons mm2 (sub_cons mm3 (sub_cons mm4 tl6))))), by rw [fold_none hfi]; exact hS, hTn⟩, fp_one hIo N3 mm5⟩
    | some k =>
      have hki := kindAt_some hfi
      rw [hfi] at hti
      rw [hki] at hIT hlen
      simp only [Option.isSome_some] at hti
      cases hrun : isRun f i with
      | false =>
        rw [hrun] at hmr
        k_steps
        have hnew := run_new (k := k) hrun
        rename Fr _ _ _ _ => F6
        rename News _ _ _ _ => N6
        rename_i Da _ lDa lb _ llb Dc _ lDc _ _
        rw [item_i hi] at N6
        (try simp only [List.push_toArray] at N6)
        have q1 : @LT.lt Nat _ I Da := lDa.2.2.2.2.2.1
        have q2 : @LT.lt Nat _ I lb := llb.2.2.2.2.2.2.1
        have q3 : @LT.lt Nat _ I Dc := lDc.2.2.2.2.2.2.2.1
        have p1 : @LT.lt Nat _ l Da := lDa.1
        have p2 : @LT.lt Nat _ l lb := llb.2.1
        have p3 : @LT.lt Nat _ l Dc := lDc.2.2.1
        obtain ⟨T3, e3, N7⟩ := three N6
        subst hRa
        subst e3
        refine ⟨_, _, rfl, ⟨_, us ++ [.ref Dc], nu + 1, _, F6, hmi, hmf, by rw [run_some hfi]; rfl, news_sub N7 (by with_reducible ((repeat' first | refine Mine.sub_cons ?_ ?_ | refine Mine.sub_app ?_ ?_ | exact Mine.sub_nil); all_goals first | exact Mine.mm0 | exact Mine.mm1 | exact Mine.mm2 | exact Mine.mm3 | exact Mine.mm4 | exact Mine.mm5 | exact Mine.mm6 | exact Mine.mm7 | exact Mine.mm8 | exact Mine.mm9 | exact Mine.mm10 | exact Mine.mm11 | exact Mine.mm12 | exact Mine.mm13 | (refine Mine.mL ?_; first | exact Mine.mm0 | exact Mine.mm1 | exact Mine.mm2 | exact Mine.mm3 | exact Mine.mm4 | exact Mine.mm5 | exact Mine.mm6 | exact Mine.mm7 | exact Mine.mm8 | exact Mine.mm9 | exact Mine.mm10 | exact Mine.mm11 | exact Mine.mm12 | exact Mine.mm13) | (refine Mine.mR ?_; first | exact Mine.mm0 | exact Mine.mm1 | exact Mine.mm2 | exact Mine.mm3 | exact Mine.mm4 | exact Mine.mm5 | exact Mine.mm6 | exact Mine.mm7 | exact Mine.mm8 | exact Mine.mm9 | exact Mine.mm10 | exact Mine.mm11 | exact Mine.mm12 | exact Mine.mm13) | exact Mine.sub_rfl | exact Mine.apL | exact Mine.apR | exact Mine.apRL | exact Mine.apRR | exact Mine.apRRL | exact Mine.apRRR | ((first | refine Mine.up14 ?_ | refine Mine.up13 ?_ | refine Mine.up12 ?_ | refine Mine.up11 ?_ | refine Mine.up10 ?_ | refine Mine.up9 ?_ | refine Mine.up8 ?_ | refine Mine.up7 ?_ | refine Mine.up6 ?_ | refine Mine.up5 ?_ | refine Mine.up4 ?_ | refine Mine.up3 ?_ | refine Mine.up2 ?_ | refine Mine.up1 ?_); first | exact Mine.sub_rfl | exact Mine.apL | exact Mine.apR | exact Mine.apRL | exact Mine.apRR | exact Mine.apRRL | exact Mine.apRRR) | (refine Mine.inL ?_; first | exact Mine.sub_rfl | exact Mine.apL | exact Mine.apR | exact Mine.apRL | exact Mine.apRR | exact Mine.apRRL | exact Mine.apRRR | ((first | refine Mine.up14 ?_ | refine Mine.up13 ?_ | refine Mine.up12 ?_ | refine Mine.up11 ?_ | refine Mine.up10 ?_ | refine Mine.up9 ?_ | refine Mine.up8 ?_ | refine Mine.up7 ?_ | refine Mine.up6 ?_ | refine Mine.up5 ?_ | refine Mine.up4 ?_ | refine Mine.up3 ?_ | refine Mine.up2 ?_ | refine Mine.up1 ?_); first | exact Mine.sub_rfl | exact Mine.apL | exact Mine.apR | exact Mine.apRL | exact Mine.apRR | exact Mine.apRRL | exact Mine.apRRR)) | (refine Mine.inR ?_; first | exact Mine.sub_rfl | exact Mine.apL | exact Mine.apR | exact Mine.apRL | exact Mine.apRR | exact Mine.apRRL | exact Mine.apRRR | ((first | refine Mine.up14 ?_ | refine Mine.up13 ?_ | refine Mine.up12 ?_ | refine Mine.up11 ?_ | refine Mine.up10 ?_ | refine Mine.up9 ?_ | refine Mine.up8 ?_ | refine Mine.up7 ?_ | refine Mine.up6 ?_ | refine Mine.up5 ?_ | refine Mine.up4 ?_ | refine Mine.up3 ?_ | refine Mine.up2 ?_ | refine Mine.up1 ?_); first | exact Mine.sub_rfl | exact Mine.apL | exact Mine.apR | exact Mine.apRL | exact Mine.apRR | exact Mine.apRRL | exact Mine.apRRR)))), ?_, all_app (all_cons ⟨Nat.lt_trans hLI q3, Nat.ne_of_gt p3, hIe ▸ Nat.ne_of_gt q3⟩ (all_cons ⟨Nat.lt_trans hLI q2, Nat.ne_of_gt p2, hIe ▸ Nat.ne_of_gt q2⟩ (all_cons ⟨Nat.lt_trans hLI q1, Nat.ne_of_gt p1, hIe ▸ Nat.ne_of_gt q1⟩ all_nil))) hTn⟩, fp_one hIo N7 (mR (by k_mem))⟩
        rw [fold_new hfi hnew]
        exact hS.snoc apR ⟨Dc, lb, Da, _, _, _, _, rfl, mm0, mm1, mm2, hlen⟩
      | true =>
        rw [hrun] at hmr
        obtain ⟨hi0, k', hk'⟩ := run_true hrun
        obtain ⟨fpre, lo, efold, hlo⟩ := fold_last (f := f) (n := i - 1) hk'
        rw [Nat.sub_add_cancel hi0] at efold
        have hS' := hS
        rw [efold] at hS'
        obtain ⟨upre, u, rfl, hSp, a1, la, ra1, t1', ta', tb', lv1, rfl, hm1, hm2, hm3, hlen1⟩ := hS'.unsnoc
        dsimp only at hm1 hm3 hlen1
        have hn1 : @Ne Nat a1 l := hTl1 _ hm1
        have hn2 : @Ne Nat la l := hTl1 _ hm2
        have hn3 : @Ne Nat ra1 l := hTl1 _ hm3
        have N3 : News g L' h1' ((l, W.listOf (upre ++ [Value.ref a1]).toArray nu) :: (lr, W.listOf rules.toArray nr) :: (lt, W.listOf (boolsOf f).toArray nt) :: (x, instObj 89 dx) :: (dx, impDict w lr lt t1 t2 n) :: (a1, { cls := .type "tuple", data := .seq #[.int k' t1', lv1, .ref la] }) :: (la, W.listOf #[.ref ra1] 0) :: (ra1, { cls := .type "tuple", data := .seq #[.str (letter lo) ta', .str (letter (i - 1)) tb'] }) :: (I, oI) :: Tn) := news_sub N2 (sub_cons mm0 (sub_cons mm1 (sub_cons mm2 (sub_cons mm3 (sub_cons mm4 (sub_cons (tl6 _ hm1) (sub_cons (tl6 _ hm2) (sub_cons (tl6 _ hm3) (sub_cons mm5 tl6)))))))))
        clear N2
        k_steps
        rename Fr _ _ _ _ => F5
        rename News _ _ _ _ => N5
        rename_i D1 h7 lD
        refine unheld ?_
        dsimp only
        have hTlh : Bears h7 Tl := hTlg.keeps F5.keep
        have rD : Reads h7 (.ref D1) (ruleD k') [] := .tuple (N5.get (.head _)) rfl rfl (.cons (.int _ _) (.cons (hlen1.reads _ hTlh) .nil))
        have rR : Reads h7 (.ref ra) (ruleD k) [] := .tuple (F5.keep _ _ (hgt _ _ hra hoc)) hoc hod (by rw [hki]; exact .cons (.int _ _) (.cons (hlen.reads _ hTlh) .nil))
        refine SeqAt.compareEq_shaped rD rR shaped_rule shaped_rule (by show un + 3 + 64 < 9900; omega) ?_
        clear rD rR hTlh
        rw [eqv_rule]
        by_cases hkk : k' = k
        · rw [decide_eq_true hkk]
          k_steps
          rename Fr _ _ _ _ => F6
          rename News _ _ _ _ => N6
          rename_i Da _ lDa lb _ llb Dc _ lDc _ _
          rw [item_i hi] at N6
          (try simp only [List.push_toArray] at N6)
          have q1 : @LT.lt Nat _ I Da := lDa.2.2.2.2.2.2.2.2.2.1
          have q2 : @LT.lt Nat _ I lb := llb.2.2.2.2.2.2.2.2.2.2.1
          have q3 : @LT.lt Nat _ I Dc := lDc.2.2.2.2.2.2.2.2.2.2.2.1
          have p1 : @LT.lt Nat _ l Da := lDa.2.1
          have p2 : @LT.lt Nat _ l lb := llb.2.2.1
          have p3 : @LT.lt Nat _ l Dc := lDc.2.2.2.1
          obtain ⟨T3, e3, N7⟩ := three N6
          subst hRa
          subst e3
          refine ⟨_, _, rfl, ⟨_, upre ++ [.ref Dc], nu, _, F6, hmi, hmf, by rw [run_some hfi]; rfl, news_sub N7 (by with_reducible ((repeat' first | refine Mine.sub_cons ?_ ?_ | refine Mine.sub_app ?_ ?_ | exact Mine.sub_nil); all_goals first | exact Mine.mm0 | exact Mine.mm1 | exact Mine.mm2 | exact Mine.mm3 | exact Mine.mm4 | exact Mine.mm5 | exact Mine.mm6 | exact Mine.mm7 | exact Mine.mm8 | exact Mine.mm9 | exact Mine.mm10 | exact Mine.mm11 | exact Mine.mm12 | exact Mine.mm13 | (refine Mine.mL ?_; first | exact Mine.mm0 | exact Mine.mm1 | exact Mine.mm2 | exact Mine.mm3 | exact Mine.mm4 | exact Mine.mm5 | exact Mine.mm6 | exact Mine.mm7 | exact Mine.mm8 | exact Mine.mm9 | exact Mine.mm10 | exact Mine.mm11 | exact Mine.mm12 | exact Mine.mm13) | (refine Mine.mR ?_; first | exact Mine.mm0 | exact Mine.mm1 | exact Mine.mm2 | exact Mine.mm3 | exact Mine.mm4 | exact Mine.mm5 | exact Mine.mm6 | exact Mine.mm7 | exact Mine.mm8 | exact Mine.mm9 | exact Mine.mm10 | exact Mine.mm11 | exact Mine.mm12 | exact Mine.mm13) | exact Mine.sub_rfl | exact Mine.apL | exact Mine.apR | exact Mine.apRL | exact Mine.apRR | exact Mine.apRRL | exact Mine.apRRR | ((first | refine Mine.up14 ?_ | refine Mine.up13 ?_ | refine Mine.up12 ?_ | refine Mine.up11 ?_ | refine Mine.up10 ?_ | refine Mine.up9 ?_ | refine Mine.up8 ?_ | refine Mine.up7 ?_ | refine Mine.up6 ?_ | refine Mine.up5 ?_ | refine Mine.up4 ?_ | refine Mine.up3 ?_ | refine Mine.up2 ?_ | refine Mine.up1 ?_); first | exact Mine.sub_rfl | exact Mine.apL | exact Mine.apR | exact Mine.apRL | exact Mine.apRR | exact Mine.apRRL | exact Mine.apRRR) | (refine Mine.inL ?_; first | exact Mine.sub_rfl | exact Mine.apL | exact Mine.apR | exact Mine.apRL | exact Mine.apRR | exact Mine.apRRL | exact Mine.apRRR | ((first | refine Mine.up14 ?_ | refine Mine.up13 ?_ | refine Mine.up12 ?_ | refine Mine.up11 ?_ | refine Mine.up10 ?_ | refine Mine.up9 ?_ | refine Mine.up8 ?_ | refine Mine.up7 ?_ | refine Mine.up6 ?_ | refine Mine.up5 ?_ | refine Mine.up4 ?_ | refine Mine.up3 ?_ | refine Mine.up2 ?_ | refine Mine.up1 ?_); first | exact Mine.sub_rfl | exact Mine.apL | exact Mine.apR | exact Mine.apRL | exact Mine.apRR | exact Mine.apRRL | exact Mine.apRRR)) | (refine Mine.inR ?_; first | exact Mine.sub_rfl | exact Mine.apL | exact Mine.apR | exact Mine.apRL | exact Mine.apRR | exact Mine.apRRL | exact Mine.apRRR | ((first | refine Mine.up14 ?_ | refine Mine.up13 ?_ | refine Mine.up12 ?_ | refine Mine.up11 ?_ | refine Mine.up10 ?_ | refine Mine.up9 ?_ | refine Mine.up8 ?_ | refine Mine.up7 ?_ | refine Mine.up6 ?_ | refine Mine.up5 ?_ | refine Mine.up4 ?_ | refine Mine.up3 ?_ | refine Mine.up2 ?_ | refine Mine.up1 ?_); first | exact Mine.sub_rfl | exact Mine.apL | exact Mine.apR | exact Mine.apRL | exact Mine.apRR | exact Mine.apRRL | exact Mine.apRRR)))), ?_, all_app (all_cons ⟨Nat.lt_trans hLI q3, Nat.ne_of_gt p3, hIe ▸ Nat.ne_of_gt q3⟩ (all_cons ⟨Nat.lt_trans hLI q2, Nat.ne_of_gt p2, hIe ▸ Nat.ne_of_gt q2⟩ (all_cons ⟨Nat.lt_trans hLI q1, Nat.ne_of_gt p1, hIe ▸ Nat.ne_of_gt q1⟩ all_nil))) hTn⟩, fp_one hIo N7 (mR (by k_mem))⟩
          rw [fold_glue hfi hi0 (by rw [hk', hkk]), efold, glue_snoc, hkk]
          exact hSp.snoc apR ⟨Dc, lb, Da, _, _, _, _, rfl, mm0, mm1, mm2, hlen⟩
        · rw [decide_eq_false hkk]
          have hnew : ¬ (0 < i ∧ f (i - 1) = some k) := fun z => hkk (Option.some.inj (hk'.symm.trans z.2))
          k_steps
          rename Fr _ _ _ _ => F6
          rename News _ _ _ _ => N6
          rename_i Da _ lDa lb _ llb Dc _ lDc _ _
          rw [item_i hi] at N6
          (try simp only [List.push_toArray] at N6)
          have q1 : @LT.lt Nat _ I Da := lDa.2.2.2.2.2.2.2.2.2.1
          have q2 : @LT.lt Nat _ I lb := llb.2.2.2.2.2.2.2.2.2.2.1
          have q3 : @LT.lt Nat _ I Dc := lDc.2.2.2.2.2.2.2.2.2.2.2.1
          have p1 : @LT.lt Nat _ l Da := lDa.2.1
          have p2 : @LT.lt Nat _ l lb := llb.2.2.1
          have p3 : @LT.lt Nat _ l Dc := lDc.2.2.2.1
          obtain ⟨T3, e3, N7⟩ := three N6
          subst hRa
          subst e3
          refine ⟨_, _, rfl, ⟨_, (upre ++ [.ref a1]) ++ [.ref Dc], nu + 1, _, F6, hmi, hmf, by rw [run_some hfi]; rfl, news_sub N7 (by with_reducible ((repeat' first | refine Mine.sub_cons ?_ ?_ | refine Mine.sub_app ?_ ?_ | exact Mine.sub_nil); all_goals first | exact Mine.mm0 | exact Mine.mm1 | exact Mine.mm2 | exact Mine.mm3 | exact Mine.mm4 | exact Mine.mm5 | exact Mine.mm6 | exact Mine.mm7 | exact Mine.mm8 | exact Mine.mm9 | exact Mine.mm10 | exact Mine.mm11 | exact Mine.mm12 | exact Mine.mm13 | (refine Mine.mL ?_; first | exact Mine.mm0 | exact Mine.mm1 | exact Mine.mm2 | exact Mine.mm3 | exact Mine.mm4 | exact Mine.mm5 | exact Mine.mm6 | exact Mine.mm7 | exact Mine.mm8 | exact Mine.mm9 | exact Mine.mm10 | exact Mine.mm11 | exact Mine.mm12 | exact Mine.mm13) | (refine Mine.mR ?_; first | exact Mine.mm0 | exact Mine.mm1 | exact Mine.mm2 | exact Mine.mm3 | exact Mine.mm4 | exact Mine.mm5 | exact Mine.mm6 | exact Mine.mm7 | exact Mine.mm8 | exact Mine.mm9 | exact Mine.mm10 | exact Mine.mm11 | exact Mine.mm12 | exact Mine.mm13) | exact Mine.sub_rfl | exact Mine.apL | exact Mine.apR | exact Mine.apRL | exact Mine.apRR | exact Mine.apRRL | exact Mine.apRRR | ((first | refine Mine.up14 ?_ | refine Mine.up13 ?_ | refine Mine.up12 ?_ | refine Mine.up11 ?_ | refine Mine.up10 ?_ | refine Mine.up9 ?_ | refine Mine.up8 ?_ | refine Mine.up7 ?_ | refine Mine.up6 ?_ | refine Mine.up5 ?_ | refine Mine.up4 ?_ | refine Mine.up3 ?_ | refine Mine.up2 ?_ | refine Mine.up1 ?_); first | exact Mine.sub_rfl | exact Mine.apL | exact Mine.apR | exact Mine.apRL | exact Mine.apRR | exact Mine.apRRL | exact Mine.apRRR) | (refine Mine.inL ?_; first | exact Mine.sub_rfl | exact Mine.apL | exact Mine.apR | exact Mine.apRL | exact Mine.apRR | exact Mine.apRRL | exact Mine.apRRR | ((first | refine Mine.up14 ?_ | refine Mine.up13 ?_ | refine Mine.up12 ?_ | refine Mine.up11 ?_ | refine Mine.up10 ?_ | refine Mine.up9 ?_ | refine Mine.up8 ?_ | refine Mine.up7 ?_ | refine Mine.up6 ?_ | refine Mine.up5 ?_ | refine Mine.up4 ?_ | refine Mine.up3 ?_ | refine Mine.up2 ?_ | refine Mine.up1 ?_); first | exact Mine.sub_rfl | exact Mine.apL | exact Mine.apR | exact Mine.apRL | exact Mine.apRR | exact Mine.apRRL | exact Mine.apRRR)) | (refine Mine.inR ?_; first | exact Mine.sub_rfl | exact Mine.apL | exact Mine.apR | exact Mine.apRL | exact Mine.apRR | exact Mine.apRRL | exact Mine.apRRR | ((first | refine Mine.up14 ?_ | refine Mine.up13 ?_ | refine Mine.up12 ?_ | refine Mine.up11 ?_ | refine Mine.up10 ?_ | refine Mine.up9 ?_ | refine Mine.up8 ?_ | refine Mine.up7 ?_ | refine Mine.up6 ?_ | refine Mine.up5 ?_ | refine Mine.up4 ?_ | refine Mine.up3 ?_ | refine Mine.up2 ?_ | refine Mine.up1 ?_); first | exact Mine.sub_rfl | exact Mine.apL | exact Mine.apR | exact Mine.apRL | exact Mine.apRR | exact Mine.apRRL | exact Mine.apRRR)))), ?_, all_app (all_cons ⟨Nat.lt_trans hLI q3, Nat.ne_of_gt p3, hIe ▸ Nat.ne_of_gt q3⟩ (all_cons ⟨Nat.lt_trans hLI q2, Nat.ne_of_gt p2, hIe ▸ Nat.ne_of_gt q2⟩ (all_cons ⟨Nat.lt_trans hLI q1, Nat.ne_of_gt p1, hIe ▸ Nat.ne_of_gt q1⟩ all_nil))) hTn⟩, fp_one hIo N7 (mR (by k_mem))⟩
          rw [fold_new hfi hnew]
          exact hS.snoc apR ⟨Dc, lb, Da, _, _, _, _, rfl, mm0, mm1, mm2, hlen⟩
  case done =>
    rintro h tk ⟨m, us, nu, Tn, F, hmi, hmf, hmr, N, hS, hTn⟩
    clear F1 N1 hRg
    dsimp only
    k_steps
    subst hQq
    exact hQ _ _ (.ref l) ((l, W.listOf us.toArray nu) :: Tn) Tl (kept_four hg hs0 F N (sub_cons mm1 (sub_cons mm2 (sub_cons mm3 (sub_cons mm4 sub_nil))))) (fun z hz => ⟨N.get (sub_cons mm0 tl5 _ hz), all_cons (P := fun z : Addr × Obj => s.heap.get? z.1 = none) (new_of hg N mm0 (not_mem4 (Nat.ne_of_gt l1.1) (Nat.ne_of_gt l1.2.1) (Nat.ne_of_gt l1.2.2.1) (Nat.ne_of_gt l1.2.2.2))) (fun z hz => get_none_of_le (Nat.le_of_lt (Nat.lt_of_le_of_lt hL (hTn z hz).1))) z hz⟩) hTl hTlc hS.args
end
end Mine
end
section
open PySem PySem.W PyProof.Rows PySem.Calls PySem.Spec
set_option Elab.async false
set_option maxRecDepth 100000
set_option maxHeartbeats 2000000
namespace Mine
/-- the dict of the spots: what is told of each letter -/
abbrev OwnO (w : World) (o : Obj) (kvs : List (Int × Value)) : Prop := o.IsDictOf (PySem.intKind PP w) kvs
def OwnIn (T : Led) (kvs : List (Int × Value)) (f : St) : Prop :=
  (∀ i : Nat, i < 26 → match f i with | some k => ∃ v, valueAt kvs (i : Int) = some v ∧ ReadsIn T v (ruleD k) | none => valueAt kvs (i : Int) = none) ∧ (∀ z ∈ kvs, 0 ≤ z.1 ∧ z.1 < 26) ∧ (kvs.map (·.1)).Nodup
theorem OwnIn.told_some {T : Led} {kvs : List (Int × Value)} {f : St} {i : Nat} {k : Int} (x : OwnIn T kvs f) (h : i < 26) (e : f i = some k) : ∃ v, valueAt kvs (i : Int) = some v ∧ ReadsIn T v (ruleD k) := by
  have := x.1 i h
  rw [e] at this; exact this
theorem OwnIn.told_none {T : Led} {kvs : List (Int × Value)} {f : St} {i : Nat} (x : OwnIn T kvs f) (h : i < 26) (e : f i = none) : valueAt kvs (i : Int) = none := by
  have := x.1 i h
  rw [e] at this; exact this
theorem OwnIn.isSome {T : Led} {kvs : List (Int × Value)} {f : St} {i : Nat} (x : OwnIn T kvs f) (h : i < 26) : (valueAt kvs (i : Int)).isSome = (f i).isSome := by
  cases e : f i with
  | none => rw [x.told_none h e]; rfl
  | some k => obtain ⟨v, hv, _⟩ := x.told_some h e; rw [hv]; rfl
theorem valueAt_none_of {kvs : List (Int × Value)} {i : Int} (h : ∀ z ∈ kvs, z.1 ≠ i) : valueAt kvs i = none := by
  unfold valueAt
  rw [List.find?_eq_none.mpr fun z hz => by simpa using h z hz]; rfl
theorem OwnIn.low {T : Led} {kvs : List (Int × Value)} {f : St} (x : OwnIn T kvs f) : valueAt kvs (-1) = none := valueAt_none_of fun z hz e => by have := (x.2.1 z hz).1; omega
theorem OwnIn.mono {T T' : Led} {kvs : List (Int × Value)} {f : St} (x : OwnIn T kvs f) (s : ∀ p ∈ T, p ∈ T') : OwnIn T' kvs f := ⟨fun i hi => by
  cases e : f i with
  | none => exact x.told_none hi e
  | some k => obtain ⟨v, hv, r⟩ := x.told_some hi e; exact ⟨v, hv, r.mono s⟩, x.2⟩
theorem OwnIn.nil {T : Led} : OwnIn T [] (fun _ => Option.none) := ⟨fun _ _ => rfl, (fun _ h => nomatch h), List.nodup_nil⟩
theorem nodup_len : ∀ (n : Nat) (l : List Int), l.Nodup → (∀ x ∈ l, 0 ≤ x ∧ x < n) → l.length ≤ n
  | 0, [], _, _ => Nat.le_refl _
  | 0, x :: _, _, h => by have := h x List.mem_cons_self; omega
  | n + 1, l, hn, h => by
    have h1 : (l.erase (n : Int)).length ≤ n := nodup_len n (l.erase (n : Int)) (hn.erase _) fun x hx => by
      have hx' := (List.Nodup.mem_erase_iff hn).mp hx
      have := h x hx'.2
      have hne : x ≠ (n : Int) := hx'.1
      omega
    have h2 := List.length_erase (a := (n : Int)) (l := l)
    split at h2 <;> omega
theorem OwnIn.len {T : Led} {kvs : List (Int × Value)} {f : St} (x : OwnIn T kvs f) : kvs.length ≤ 26 := by
  have := nodup_len 26 (kvs.map (·.1)) x.2.2 fun z hz => by
    obtain ⟨y, hy, rfl⟩ := List.mem_map.mp hz
    exact x.2.1 y hy
  simpa using this
theorem mem_valueAt {kvs : List (Int × Value)} {k : Int} : (valueAt kvs k).isSome = true ↔ k ∈ kvs.map (·.1) := by
  unfold valueAt
  rw [Option.isSome_map, List.find?_isSome]
  simp only [List.mem_map, decide_eq_true_eq]
theorem OwnIn.told {T : Led} {kvs : List (Int × Value)} {f : St} (x : OwnIn T kvs f) {i : Nat} (h : i < 26) : ((i : Int) ∈ kvs.map (·.1)) ↔ (f i).isSome = true := by
  rw [← x.isSome h]; exact mem_valueAt.symm
theorem valueAt_stored {kvs : List (Int × Value)} {k j : Int} {v : Value} : valueAt (stored kvs k v) j = if j = k then some v else valueAt kvs j := by
  unfold stored
  split
  · rename_i h
    induction kvs with
    | nil => simp at h
    | cons z r ih =>
      obtain ⟨a, b⟩ := z
      unfold valueAt at ih ⊢
      rw [List.map_cons, List.find?_cons, List.find?_cons]
      by_cases e : a = k
      · subst e
        simp only [if_true]
        by_cases ej : j = a
        · subst ej; simp
        · have : ¬ a = j := fun z => ej z.symm
          simp only [this, decide_false, if_neg ej]
          by_cases hr : (r.any fun kv => decide (kv.1 = a)) = true
          · have := ih hr; rw [if_neg ej] at this; exact this
          · rw [show (r.map fun kv => if kv.1 = a then (kv.1, v) else kv) = r from ?_]
            rw [← List.map_id r]
            rw [List.map_map]
            refine List.map_congr_left fun y hy => ?_
            simp only [Function.comp, id]
            rw [if_neg]
            intro ey
            exact hr (List.any_eq_true.mpr ⟨y, hy, by simpa using ey⟩)
      · simp only [e, if_false]
        simp only [List.any_cons, e, decide_false, Bool.false_or] at h
        by_cases ej : a = j
        · subst ej
          simp [e]
        · simp only [ej, decide_false]
          exact ih h
  · rename_i h
    unfold valueAt
    rw [List.find?_append]
    by_cases ej : j = k
    · subst ej
      rw [if_pos rfl, List.find?_eq_none.mpr fun z hz => by
        intro e
        exact h (List.any_eq_true.mpr ⟨z, hz, e⟩)]
      simp
    · have : ¬ k = j := fun z => ej z.symm
      rw [if_neg ej]
      simp [this]
theorem stored_keys {kvs : List (Int × Value)} {k : Int} {v : Value} (hn : valueAt kvs k = none) : stored kvs k v = kvs ++ [(k, v)] := by
  unfold stored
  rw [if_neg]
  intro h
  obtain ⟨z, hz, e⟩ := List.any_eq_true.mp h
  have : (valueAt kvs k).isSome = true := mem_valueAt.mpr (List.mem_map.mpr ⟨z, hz, by simpa using e⟩)
  rw [hn] at this; cases this
/-- one spot more -/
theorem OwnIn.store {T : Led} {kvs : List (Int × Value)} {f : St} {k : Int} {v : Value} {lo m : Nat} (x : OwnIn T kvs (tellM f k lo m)) (hi : lo + m < 26) (hf : f (lo + m) = Option.none) (hv : ReadsIn T v (ruleD k)) : OwnIn T (stored kvs ((lo + m : Nat) : Int) v) (tellM f k lo (m + 1)) := by
  have hnone : valueAt kvs ((lo + m : Nat) : Int) = Option.none := x.told_none hi (by unfold tellM; rw [if_neg (by omega)]; exact hf)
  refine ⟨fun i h => ?_, ?_, ?_⟩
  · rw [valueAt_stored]
    by_cases e : i = lo + m
    · subst e
      rw [show tellM f k lo (m + 1) (lo + m) = some k by unfold tellM; rw [if_pos (by omega)]]
      exact ⟨v, by rw [if_pos rfl], hv⟩
    · rw [if_neg (by omega), show tellM f k lo (m + 1) i = tellM f k lo m i by
        unfold tellM
        by_cases z : lo ≤ i ∧ i < lo + m
        · rw [if_pos z, if_pos (by omega)]
        · rw [if_neg z, if_neg (by omega)]]
      exact x.1 i h
  · rw [stored_keys hnone]
    intro z hz
    rcases List.mem_append.mp hz with hz | hz
    · exact x.2.1 z hz
    · rw [List.mem_singleton.mp hz]; dsimp only; omega
  · rw [stored_keys hnone, List.map_append]
    refine List.nodup_append.mpr ⟨x.2.2, by simp, fun a ha b hb e => ?_⟩
    simp at hb
    subst hb; subst e
    have : (valueAt kvs ((lo + m : Nat) : Int)).isSome = true := mem_valueAt.mpr ha
    rw [hnone] at this; cases this

theorem ints_of : ∀ {vs : List Value} {ns : List Int}, vs.length = ns.length → (∀ (j : Nat) v n, vs[j]? = some v → ns[j]? = some n → ∃ t, v = .int n t) → IntsAre vs ns
  | [], [], _, _ => .nil
  | v :: vs, n :: ns, hl, h => by
    obtain ⟨t, rfl⟩ := h 0 v n rfl rfl
    exact .cons n t (ints_of (by simpa using hl) fun j v n e1 e2 => h (j + 1) v n e1 e2)
  | [], _ :: _, hl, _ => by simp at hl
  | _ :: _, [], hl, _ => by simp at hl

section
variable {prog : Program} {w : World} {A : Around} {E : Value → Shared → Prop} {s : Shared} {h₀ : Heap} {L D d : Addr} {m : Str → Option Value} {news : Led} {vs : List Value} {ns : List Int} {n : Nat} {Q : Value → Shared → Prop}
theorem sort_new (F : Fr h₀ L s.heap m) (N : News h₀ L s.heap ((D, W.listOf vs.toArray n) :: news)) (l1 : ∀ p ∈ news, p.1 ≠ D) (hI : IntsAre vs ns) (h64 : vs.length < 64)
    (h : ∀ vs' ns' c h', Fr h₀ L h' m → News h₀ L h' ((D, W.listOf vs'.toArray c) :: news) → IntsAre vs' ns' → ns'.Perm ns → ns'.Pairwise (· ≤ ·) → Q .none { s with heap := h' }) : wpAny (model prog w) A (call (.builtin "list.sort") [.ref D]) Q E s := by
  have z := N (D, W.listOf vs.toArray n) (.head _)
  have ho : s.heap.get? D = some (seqObj "list" vs.toArray n) := z.1
  refine wpAny_call_entry PyProof.Rows.slot_list_sort ⟨_, z.1, rfl⟩ PyProof.Rows.entry_list_sort (list_sort_tree (n := n) (vs := vs) ho hI h64 fun out ns' hI' hp hP => ⟨.none, rfl, ?_⟩) (PyProof.Rows.args_list_sort _)
  have a : ∀ p ∈ ([] : Led), p.1 ≠ D := fun _ h => nomatch h
  have F1 : Fr h₀ L (s.heap.update D (Obj.mapSeq fun _ => (#[] : Array Value))) m := F.change (Heap.SameBut.update ..) z.2.1 z.2.2
  have N1 := ki_turn (pre := []) (fun _ => (#[] : Array Value)) (its' := #[]) N a l1 rfl rfl
  have N2 := News.grown N1 fun _ _ e => Heap.get?_push_of_some (seqObj "tuple" vs.toArray 0) e
  have N3 := News.grown N2 fun _ _ e => Heap.get?_push_of_some (seqObj "list" #[] 0) e
  have N4 := ki_turn (pre := []) (fun _ => out) (its' := out) N3 a l1 rfl rfl
  have F4 : Fr h₀ L ((((s.heap.update D (Obj.mapSeq fun _ => (#[] : Array Value))).push (seqObj "tuple" vs.toArray 0)).push (seqObj "list" #[] 0)).update D (Obj.mapSeq fun _ => out)) m :=
    ((F1.push (seqObj "tuple" vs.toArray 0)).push (seqObj "list" #[] 0)).change (Heap.SameBut.update ..) z.2.1 z.2.2
  refine h out.toList ns' ?c _ F4 ?N hI' hp hP
  case N =>
    rw [Array.toArray_toList]
    exact N4
theorem sorted_own {o : Obj} {kvs : List (Int × Value)} (hh : A.handled = none) (F : Fr h₀ L s.heap m) (N : News h₀ L s.heap news) (hm : (d, o) ∈ news) (hd : o.IsDictOf (PySem.intKind prog w) kvs) (lo : (d == sysModules) = false) (h64 : kvs.length < 64)
    (h : ∀ D vs' ns' c h' tk, Fr h₀ L h' m → News h₀ L h' ((D, W.listOf vs'.toArray c) :: news) → (∀ q ∈ news, @LT.lt Nat _ q.1 D) → IntsAre vs' ns' → ns'.Perm (kvs.map (·.1)) → ns'.Pairwise (· ≤ ·) → Q (.ref D) { s with heap := h', toks := tk }) :
    wpAny (model prog w) A (call (.builtin "sorted") [.ref d]) Q E s := by
  have hD := kda_dict N hm hd
  obtain ⟨ep, hat⟩ := hD.dictAt
  refine kdu_sorted (kdl_dict (knd := PySem.intKind prog w) (kvs := kvs) (ep := ep) lo) hh F N hat (kdl_size (by omega)) fun D h' tk vs F' N' l1 hl hv => ?_
  refine sort_new F' N' (fun p hp => Nat.ne_of_lt (l1 p hp)) (ns := kvs.map (·.1)) (ints_of (by simp [hl]) fun j v k e1 e2 => ?_) (by omega) fun vs' ns' c h2 F2 N2 hI hp hP => h D vs' ns' c h2 tk F2 N2 l1 hI hp hP
  obtain ⟨k', x, hx, hk⟩ := hv j v e1
  rw [List.getElem?_map, hx] at e2
  simp at e2
  subst e2
  exact Value.isInt_shape hk
end
end Mine
end
section
open PySem PySem.W PyProof.Rows PySem.Calls PySem.Spec
set_option Elab.async false
set_option maxRecDepth 100000
set_option maxHeartbeats 2000000
namespace Mine
theorem four {g h : Heap} {L a b c d : Addr} {oa ob oc od : Obj} {rest : Led} (N : News g L h ((a, oa) :: (b, ob) :: (c, oc) :: (d, od) :: rest)) : ∃ T3 : Led, T3 = [(a, oa), (b, ob), (c, oc), (d, od)] ∧ News g L h (T3 ++ rest) := ⟨_, rfl, N⟩
theorem fp_led {g h h' : Heap} {L I D : Addr} {oI oD : Obj} {news : Led} (eI : h.get? I = some oI) (eD : h.get? D = some oD) (N : News g L h' news) (m1 : (I, oI) ∈ news) (m2 : (D, oD) ∈ news) : ∀ c ∈ [I, D], ∀ o, h.get? c = some o → h'.get? c = some o := fun c hc o e => by
  rcases List.mem_cons.mp hc with rfl | hc
  · rw [eI] at e; cases e; exact N.get m1
  · rw [List.mem_singleton.mp hc] at e ⊢
    rw [eD] at e; cases e
    exact N.get m2
/-- the spots below `b` are the first `j` of `ns` -/
def Cut (ns : List Int) (b j : Nat) : Prop := ∀ (p : Nat) z, ns[p]? = some z → (z < (b : Int) ↔ p < j)
theorem strict_of {ns : List Int} (h : ns.Pairwise (· ≤ ·)) (n : ns.Nodup) : ns.Pairwise (· < ·) := by
  have := List.pairwise_and_iff.mpr ⟨h, n⟩
  exact this.imp fun hx => by omega
theorem lt_at {ns : List Int} (h : ns.Pairwise (· < ·)) {p q : Nat} {x y : Int} (e1 : ns[p]? = some x) (e2 : ns[q]? = some y) (hpq : p < q) : x < y := by
  obtain ⟨h1, rfl⟩ := List.getElem?_eq_some_iff.mp e1
  obtain ⟨h2, rfl⟩ := List.getElem?_eq_some_iff.mp e2
  exact List.pairwise_iff_getElem.mp h p q h1 h2 hpq
theorem cut_zero {ns : List Int} (h : ∀ z ∈ ns, 0 ≤ z) : Cut ns 0 0 := fun p z e => ⟨fun hz => by have := h z (List.mem_of_getElem? e); omega, fun hz => by omega⟩
theorem cut_next {ns : List Int} {j i : Nat} (h : ns.Pairwise (· < ·)) (e : ns[j]? = some (i : Int)) : Cut ns (i + 1) (j + 1) := fun p z ez => by
  constructor
  · intro hz
    by_cases q : p < j + 1
    · exact q
    · have := lt_at h e ez (by omega)
      omega
  · intro hp
    by_cases q : p = j
    · subst q
      rw [e] at ez
      have := Option.some.inj ez
      omega
    · have := lt_at h ez e (by omega)
      omega
theorem cut_gap {ns : List Int} {f : St} {j i b : Nat} (hc : Cut ns b j) (h : ns.Pairwise (· < ·)) (e : ns[j]? = some (i : Int)) (hi : i < 26) (ht : ∀ x : Nat, x < 26 → (f x).isSome = true → (x : Int) ∈ ns) : foldF f i = foldF f b := by
  have hb : b ≤ i := by
    by_cases q : (i : Int) < b
    · have := (hc j i e).mp q
      omega
    · omega
  refine fold_skip hb fun x h1 h2 => ?_
  cases ex : f x with
  | none => rfl
  | some k =>
    obtain ⟨p, hp⟩ := List.getElem?_of_mem (ht x (by omega) (by rw [ex]; rfl))
    have h3 := (hc p x hp)
    by_cases q : p < j
    · have := h3.mpr q
      omega
    · by_cases q2 : p = j
      · subst q2
        rw [e] at hp
        have := Option.some.inj hp
        omega
      · have := lt_at h e hp (by omega)
        omega
theorem cut_end {ns : List Int} {f : St} {b : Nat} (hc : Cut ns b ns.length) (hb : b ≤ 26) (ht : ∀ x : Nat, x < 26 → (f x).isSome = true → (x : Int) ∈ ns) : foldF f 26 = foldF f b := by
  refine fold_skip hb fun x h1 h2 => ?_
  cases ex : f x with
  | none => rfl
  | some k =>
    obtain ⟨p, hp⟩ := List.getElem?_of_mem (ht x h2 (by rw [ex]; rfl))
    have h3 := (hc p x hp).mpr (List.getElem?_eq_some_iff.mp hp).1
    omega
theorem own_open {h : Heap} {T : Led} {kvs : List (Int × Value)} {f : St} (R : OwnIn T kvs f) (b : Bears h T) : ∃ Tl : Led, Bears h Tl ∧ (∀ p ∈ Tl, p.2.cls = .type "tuple") ∧
    ∀ i k, i < 26 → f i = some k → ∃ ra o t lv, valueAt kvs (i : Int) = some (.ref ra) ∧ h.get? ra = some o ∧ RuleO o Tl k t lv := by
  have key : ∀ n, n ≤ 26 → ∃ Tl : Led, Bears h Tl ∧ (∀ p ∈ Tl, p.2.cls = .type "tuple") ∧ ∀ i k, i < n → f i = some k → ∃ ra o t lv, valueAt kvs (i : Int) = some (.ref ra) ∧ h.get? ra = some o ∧ RuleO o Tl k t lv := by
    intro n
    induction n with
    | zero => exact fun _ => ⟨[], (fun _ h => nomatch h), (fun _ h => nomatch h), fun i k h => by omega⟩
    | succ n ih =>
      intro hn
      obtain ⟨Tl, h1, h2, h3⟩ := ih (by omega)
      cases e : f n with
      | none =>
        refine ⟨Tl, h1, h2, fun i k hi ek => ?_⟩
        by_cases q : i = n
        · rw [q, e] at ek; cases ek
        · exact h3 i k (by omega) ek
      | some k0 =>
        obtain ⟨v, hv, hr⟩ := R.told_some (by omega) e
        obtain ⟨ra, o, t, lv, n', rfl, ho, hc, hd, hl⟩ := reads_rule_inv (hr h b)
        obtain ⟨Tl', g1, g2, g3⟩ := reads_len_inv hl
        refine ⟨Tl' ++ Tl, fun p hp => (List.mem_append.mp hp).elim (g1 p) (h1 p), fun p hp => (List.mem_append.mp hp).elim (g2 p) (h2 p), fun i k hi ek => ?_⟩
        by_cases q : i = n
        · subst q
          rw [e] at ek
          cases ek
          exact ⟨ra, o, t, lv, hv, ho, hc, ⟨n', hd⟩, g3.mono fun p hp => List.mem_append_left _ hp⟩
        · obtain ⟨ra, o, t, lv, e1, e2, e3, e4, e5⟩ := h3 i k (by omega) ek
          exact ⟨ra, o, t, lv, e1, e2, e3, e4, e5.mono fun p hp => List.mem_append_right _ hp⟩
  exact key 26 (Nat.le_refl _)
theorem ints_at {vs : List Value} {ns : List Int} (h : IntsAre vs ns) : ∀ {j : Nat} {v : Value}, vs[j]? = some v → ∃ z t, v = .int z t ∧ ns[j]? = some z := by
  induction h with
  | nil => intro j v e; simp at e
  | cons n t _ ih =>
    intro j v e
    cases j with
    | zero => simp at e; subst e; exact ⟨n, t, rfl, rfl⟩
    | succ j => exact ih (by simpa using e)
end Mine
end
section
open PySem PySem.W PyProof.Rows PySem.Calls PySem.Spec
set_option Elab.async false
set_option maxRecDepth 100000
set_option maxHeartbeats 4000000
local macro_rules | `(tactic| walk_at "exec For Name Call cons nil") => `(tactic| (k_here; k_dflt (refine' Mine.for_open ?_)))
local macro_rules | `(tactic| walk_at "exec For Name Name cons nil") => `(tactic| (k_here; k_dflt (refine' Mine.for_open ?_)))
local macro_rules | `(tactic| walk_at "exec For Tuple Name cons nil") => `(tactic| (k_here; k_dflt (refine' Mine.for_open ?_)))
local macro_rules | `(tactic| walk_at "subscriptTail Name Name str int") => `(tactic| (k_here; (with_reducible show wpAny _ _ (subscriptTail _ _ (Value.str _ _) (Value.int _ _)) _ _ _); k_dflt (refine' KXi.item (n := 26) ?a ?b ?c ?d ?_; (case a => decide); (case b => omega); (case c => omega); (case d => decide); k_whole); intro _))
local macro_rules | `(tactic| k_all) => `(tactic| (refine fun p hp => ?_; with_reducible assumption))
local macro_rules | `(tactic| k_all) => `(tactic| with_reducible assumption)
local macro_rules | `(tactic| walk_at "subscriptTail") => `(tactic| (k_here; (with_reducible show wpAny _ _ (subscriptTail _ _ (Value.ref _) (Value.int (-1) _)) _ _ _); k_dflt (refine' item_last ?k1 ?_; (case k1 => is_list); k_whole)))
local macro_rules | `(tactic| walk_at "setItem ref int") => `(tactic| (k_here; (with_reducible show wpAny _ _ (PySem.setItem (Value.ref _) (Value.int (-1) _) _) _ _ _); k_dflt (refine' Mine.set_last ?k1 ?k2 ?k3 ?_; (case k1 => k_asm); (case k2 => k_asm); (case k3 => k_upd); k_whole); intro h' F' N'; (try k_sweep)))
local macro_rules | `(tactic| walk_at "subscriptTail") => `(tactic| (k_here; (with_reducible show wpAny _ _ (subscriptTail _ _ (Value.ref _) (Value.ref _)) _ _ _); k_dflt (refine' Mine.slice_to2 ?F ?N ?t ?_; (case F => k_asm); (case N => k_asm); (case t => kun_tup); k_whole); intro D' h' F' N' l1; (try k_lt l1)))
local macro_rules | `(tactic| walk_at "compareOp Eq ref ref") => `(tactic| (k_here; k_dflt (refine Mine.held ?_)))
local macro_rules | `(tactic| walk_at "call builtin:sorted") => `(tactic| (k_here; (with_reducible show wpAny _ _ (call (Value.builtin "sorted") [Value.ref _]) _ _ _); k_dflt (refine' Mine.sorted_own ?hh ?F ?N ?m ?d ?lo ?z ?_; (case hh => exact rfl); (case F => k_asm); (case N => k_asm); (case m => k_mem); (case d => k_asm); (case lo => k_asm); (case z => omega); k_whole); intro D' vs' ns' c' h' tk' F' N' l1 hI' hp' hP'))
local macro_rules | `(tactic| walk_at "compareOp In int ref") => `(tactic| (k_here; k_dflt (refine' kda_in (knd := PySem.intKind _ _) ?N ?m ?d ?lo ?k _ ?b ?_; (case N => k_asm); (case m => k_mem); (case d => k_asm); (case lo => k_asm); (case k => exact intKind_is _ _ _ _); (case b => with_reducible assumption); k_whole)))
local macro_rules | `(tactic| walk_at "subscriptTail") => `(tactic| (k_here; (with_reducible show wpAny _ _ (subscriptTail _ _ (Value.ref _) (Value.int _ _)) _ _ _); k_dflt (refine' kda_item (knd := PySem.intKind _ _) ?N ?m ?d ?k ?v ?_; (case N => k_asm); (case m => k_mem); (case d => k_asm); (case k => exact intKind_is _ _ _ _); (case v => with_reducible assumption); k_whole)))
local macro_rules | `(tactic| walk_at "binaryOp Add ref ref") => `(tactic| (k_here; k_dflt (refine' kde_addT ?k1 ?k2 ?k3 ?k4 ?k5 ?k6 ?k7 ?k8 ?_; (case k1 => k_asm); (case k2 => k_asm); (case k3 => first | kun_tup | is_tup); (case k4 => kun_tup); (case k5 => exact List.cons_ne_nil _ _); (case k6 => exact List.cons_ne_nil _ _); (case k7 => exact Nat.le_of_ble_eq_true rfl); (case k8 => kun_lit); k_whole); intro D' h' F' N' l1; (try k_lt l1); (try k_sweep)))
local macro_rules | `(tactic| walk_at "subscriptTail") => `(tactic| (k_here; (fail_if_success (with_reducible show wpAny _ _ (subscriptTail (PySem.Expr.Name _ _) _ _ _) _ _ _)); k_dflt (refine Mine.turn ?_)))
local macro_rules | `(tactic| walk_at "exec Assign") => `(tactic| (k_here; (with_reducible show wpAny _ _ (exec (Stmt.Assign [Expr.Name _ _] _ _) _) _ _ _); k_dflt (refine wpAny_Assign_Name ?_)))
local macro_rules | `(tactic| walk_at "eval Name") => `(tactic| (k_here; k_dflt (refine' ld ?k1 ?k2 ?_; (case k1 => k_asm); (case k2 => first | exact rfl | assumption); k_whole)))
local macro_rules | `(tactic| k_ne) => `(tactic| with_reducible (first | assumption | (refine Ne.symm ?_; assumption)))
local macro_rules | `(tactic| walk_at "getAttr ref") => `(tactic| (k_here; k_dflt (refine' get_own ?k1 ?k2 ?k3 ?k4 ?k5 ?k6 ?k7 ?k8 ?k9 ?_; (case k1 => k_asm); (case k2 => k_asm); (case k3 => k_inst); (case k4 => k_is); (case k5 => k_is); (case k6 => k_is); (case k7 => k_is); (case k8 => k_get); (case k9 => k_handed); k_whole)))

namespace Mine
section
variable {w : World} {pg : Program} {loose : List Str} {mean : ExcName → Option Value} {mg mb : Str → Option Value}

theorem item_n {i : Nat} (h : i < 26) : Txt.item "ABCDEFGHIJKLMNOPQRSTUVWXYZ" (i : Int) = letter i := by rw [item_abc (by omega) (by omega), Int.toNat_natCast]
theorem own_low {T : Led} {kvs : List (Int × Value)} {f : St} {i : Nat} (hR : OwnIn T kvs f) (hi : i < 26) (hrun : isRun f i = false) : (valueAt kvs ((i : Int) - 1)).isSome = false := by
  by_cases q : 0 < i
  · rw [show (i : Int) - 1 = ((i - 1 : Nat) : Int) by omega, hR.isSome (by omega)]
    unfold isRun at hrun
    rw [decide_eq_true q] at hrun
    exact hrun
  · rw [show (i : Int) - 1 = -1 by omega, hR.low]; rfl
theorem pred_cast {i : Nat} (h : 0 < i) : (i : Int) - 1 = ((i - 1 : Nat) : Int) := by omega
theorem nat26 {i : Nat} (h : (i : Int) < 26) : i < 26 := by omega
inductive RnJ (g : Heap) (L' l d D : Addr) (od : Obj) (ws : List Value) (ns : List Int) (c : Nat) (f : St) (Tl : Led) (sz : Nat) (j : Nat) (h : Heap) : Prop
  | mk (m : Str → Option Value) (us : List Value) (nu : Nat) (Tn : Led) (b : Nat) (hc : Cut ns b j) (hb : b ≤ 26) (F : Fr g L' h m) (hmf : m "found" = some (.ref l)) (hmo : m "own" = some (.ref d))
    (N : News g L' h ((l, W.listOf (us : List Value).toArray nu) :: (d, od) :: (D, W.listOf ws.toArray c) :: Tn)) (hS : SegsIn Tn Tl us (foldF f b)) (hTn : ∀ p ∈ Tn, @LT.lt Nat _ L' p.1 ∧ p.1 ≠ l ∧ p.1 ≠ sz) : RnJ g L' l d D od ws ns c f Tl sz j h
theorem runs_spec ⦃dp un : Nat⦄ ⦃gd : Option (List Code)⦄ ⦃cn : Str⦄ ⦃cs : Scope⦄ ⦃L a : Addr⦄ ⦃ccd : Value⦄ ⦃cl : List (Str × Addr)⦄ ⦃outer : List Env⦄ ⦃A₀ : Around⦄ ⦃base h₀ : Heap⦄ ⦃m : Str → Option Value⦄ ⦃s : Shared⦄ ⦃Q E : Value → Shared → Prop⦄
    {d : Addr} {od : Obj} {kvs : List (Int × Value)} {f : St} {T : Led}
    (H : Here w pg loose mean mg mb cs A₀ base h₀ outer L m s.heap) (hdp : dp + 5 < 900) (hun : un + 70 < 9000)
    (N : News h₀ L s.heap [(d, od)]) (hO : OwnO w od kvs) (lo' : (d == sysModules) = false) (hR : OwnIn T kvs f) (hT : Bears s.heap T)
    (hQ : ∀ h' tk v Tn Tl, Kept [] s.heap h' → Fresh s.heap h' Tn → Bears s.heap Tl → (∀ p ∈ Tl, p.2.cls = .type "tuple") → ArgsIn (Tn ++ Tl) v ((foldF f 26).map segArg) → Q v { s with heap := h', toks := tk }) :
    wpAny (model PySem.Challenge.rw_pq0349_01.row.prog w) (ktrTop dp un gd cn cs L a ccd cl outer) (call (.ref 217) [.ref d]) Q E s := by
  have B := H.B
  have F := H.F
  have X := H.X
  have T0 := H.T
  have hk := H.hk
  revert X; k_fill; intro X
  refine wpAny_call ?_
  k_dflt (refine' Mine.enterP [("own", .ref d)] ?k1 ?k2 ?k3 ?k4 ?k5 ?kA ?kF ?kK ?k6 ?k7 ?k8 ?k9 ?kB ?kbody ?c2 ?c3 ?c4 ?c5; (case kA => exact rfl); (case kF => exact rfl); (case kK => assumption); (case k1 => assumption); (case k2 => assumption); (case k3 => assumption); (case k4 => assumption); (case k5 => assumption); (case k6 => k_is); (case k7 => k_is); (case k8 => (show @LT.lt Nat _ _ 1000; (try dsimp only [ktrTop]); omega)); (case k9 => exact BindsTo.of_eq rfl); (case c5 => decide); (case kB => exact locs rfl); (case c2 => exact rfl); (case c3 => exact rfl); (case c4 => exact rfl); k_whole)
  intro g L' h₁ tk0 hg hL F' N' B' X' T'
  simp only [Mine.bindM] at F'
  have hs0 : ∀ p ∈ [(d, od)], s.heap.get? p.1 = some p.2 := fun p hp => (N p hp).1
  obtain ⟨Tl, hTl, hTlc, hro⟩ := own_open hR hT
  have hodc : od.cls = .type "dict" := by
    obtain ⟨es, ep, e2, _⟩ := hO
    exact e2.1
  have hgt : ∀ ra o, s.heap.get? ra = some o → o.cls = .type "tuple" → g.get? ra = some o := keep_cls hg hs0 (all_cons (fun q => by rw [hodc] at q; simp at q) all_nil)
  have hTlg : Bears g Tl := fun p hp => hgt _ _ (hTl p hp) (hTlc p hp)
  have hkl := hR.len
  clear B F X T0 N
  (try dsimp only)
  refine gen1 ?_
  intro Qq hQq
  refine letAE ?_
  intro Aq Eq
  k_steps
  rename Fr _ _ _ _ => F1
  rename News _ _ _ _ => N1
  rename Heap => h5
  rename_i l _ l1 _ _ _ D ws ns c _ lD hI hp hP
  have hns := strict_of hP (hp.nodup_iff.mpr hR.2.2)
  have hnr : ∀ z ∈ ns, 0 ≤ z ∧ z < 26 := fun z hz => by
    obtain ⟨y, hy, rfl⟩ := List.mem_map.mp (hp.mem_iff.mp hz)
    exact hR.2.1 y hy
  have hnt : ∀ x : Nat, x < 26 → (f x).isSome = true → (x : Int) ∈ ns := fun x hx h => hp.mem_iff.mpr ((hR.told hx).mpr h)
  have hnf : ∀ i : Nat, i < 26 → (i : Int) ∈ ns → (f i).isSome = true := fun i hi h => (hR.told hi).mp (hp.mem_iff.mp h)
  have hwl : ws.length = ns.length := IntsAre.length hI
  have hDl : @Ne Nat D l := Nat.ne_of_gt (lD (l, _) (.head _))
  have hdl : @Ne Nat d l := Nat.ne_of_lt l1
  have hdD : @Ne Nat d D := Nat.ne_of_lt (lD (d, _) (.tail _ (.head _)))
  have hI5 : @LT.lt Nat _ L' h5.objs.size := F1.ns.lt
  have hz3 := sizes3 N1
  refine loop_list (items := ws) (RnJ g L' l d D od ws ns c f Tl h5.objs.size) ⟨_, N1.get mm0, rfl, c, rfl⟩ rfl ?j0 ?stable ?turn ?done (.inl (by intro _ _; rfl))
  case j0 => exact ⟨_, [], 0, [], 0, cut_zero (fun z hz => (hnr z hz).1), by decide, F1, rfl, rfl, news_sub N1 (sub_cons mm1 (sub_cons mm2 (sub_cons mm0 sub_nil))), SegsIn.nil, all_nil⟩
  case stable =>
    rintro i h h' ⟨m, us, nu, Tn, b, hc, hb, F, hmf, hmo, N, hS, hTn⟩ kp
    exact ⟨m, us, nu, Tn, b, hc, hb, fr_stable F hI5 kp, hmf, hmo, news_stable N kp (all_cons hz3.2.1 (all_cons hz3.2.2 (all_cons hz3.1 fun z hz => (hTn z hz).2.2))), hS, hTn⟩
  case turn =>
    intro j v h tk I oI hv HJ hIe hIo hIc hll
    refine genT ?_
    intro Ra hRa
    refine byG fun GG kG => ?_
    obtain ⟨m, us, nu, Tn, b, hc, hb, F, hmf, hmo, N, hS, hTn⟩ := HJ
    obtain ⟨z, t9, rfl, hz⟩ := ints_at hI hv
    have hzn := List.mem_of_getElem? hz
    obtain ⟨hz0, hz1⟩ := hnr z hzn
    obtain ⟨i, rfl⟩ := Int.eq_ofNat_of_zero_le hz0
    have hi := nat26 hz1
    obtain ⟨k, hfi⟩ := Option.isSome_iff_exists.mp (hnf i hi hzn)
    obtain ⟨ra, o, ta, lv, hri, hra, hoc, ⟨no, hod⟩, hlen⟩ := hro i k hi hfi
    refine kG ?_
    clear kG hz0 hz1
    have hfold := cut_gap hc hns hz hi hnt
    rw [← hfold] at hS
    have hIl : @Ne Nat I l := ne_of_eq_size hIe hz3.2.1
    have hLI : @LT.lt Nat _ L' I := by rw [hIe]; exact hI5
    have hDo : h.get? D = some (W.listOf ws.toArray c) := N.get mm2
    have NI := news_sub (news_more F hLI hIo N) rot3
    have hIT : IsTup g ra [.int k ta, lv].toArray := ⟨o, hgt _ _ hra hoc, hoc, no, hod⟩
    have hul := seg_len hS hi
    have hTl1 : ∀ z ∈ Tn, z.1 ≠ l := fun z hz => (hTn z hz).2.1
    clear F1 N1 N
    dsimp only at hIe ⊢
    refine wpAny_assign_Name (stN F NI (fun h1' F2 N2 => ?_))
    clear NI F
    cases hrun : isRun f i with
    | false =>
      have hlow := own_low hR hi hrun
      k_steps
      have hnew := run_new (k := k) hrun
      rename Fr _ _ _ _ => F6
      rename News _ _ _ _ => N6
      rename_i Da _ lDa lb _ llb Dt _ lDt Dc _ lDc _
      try simp only [List.push_toArray] at N6
      rw [item_n hi] at N6
      have q1 : @LT.lt Nat _ I Da := lDa.2.2.2.1
      have p1 : @LT.lt Nat _ l Da := lDa.1
      have q2 : @LT.lt Nat _ I lb := llb.2.2.2.2.1
      have p2 : @LT.lt Nat _ l lb := llb.2.1
      have q4 : @LT.lt Nat _ I Dt := lDt.2.2.2.2.2.1
      have p4 : @LT.lt Nat _ l Dt := lDt.2.2.1
      have q3 : @LT.lt Nat _ I Dc := lDc.2.2.2.2.2.2.1
      have p3 : @LT.lt Nat _ l Dc := lDc.2.2.2.1
      obtain ⟨T3, e3, N7⟩ := four N6
      subst hRa
      subst e3
      refine ⟨_, _, rfl, ⟨_, us ++ [.ref Dc], nu + 1, _, i + 1, cut_next hns hz, hi, F6, hmf, hmo, news_sub N7 (by with_reducible ((repeat' first | refine Mine.sub_cons ?_ ?_ | refine Mine.sub_app ?_ ?_ | exact Mine.sub_nil); all_goals first | exact Mine.mm0 | exact Mine.mm1 | exact Mine.mm2 | exact Mine.mm3 | exact Mine.mm4 | exact Mine.mm5 | exact Mine.mm6 | exact Mine.mm7 | exact Mine.mm8 | exact Mine.mm9 | exact Mine.mm10 | exact Mine.mm11 | exact Mine.mm12 | exact Mine.mm13 | (refine Mine.mL ?_; first | exact Mine.mm0 | exact Mine.mm1 | exact Mine.mm2 | exact Mine.mm3 | exact Mine.mm4 | exact Mine.mm5 | exact Mine.mm6 | exact Mine.mm7 | exact Mine.mm8 | exact Mine.mm9 | exact Mine.mm10 | exact Mine.mm11 | exact Mine.mm12 | exact Mine.mm13) | (refine Mine.mR ?_; first | exact Mine.mm0 | exact Mine.mm1 | exact Mine.mm2 | exact Mine.mm3 | exact Mine.mm4 | exact Mine.mm5 | exact Mine.mm6 | exact Mine.mm7 | exact Mine.mm8 | exact Mine.mm9 | exact Mine.mm10 | exact Mine.mm11 | exact Mine.mm12 | exact Mine.mm13) | exact Mine.sub_rfl | exact Mine.apL | exact Mine.apR | exact Mine.apRL | exact Mine.apRR | exact Mine.apRRL | exact Mine.apRRR | ((first | refine Mine.up14 ?_ | refine Mine.up13 ?_ | refine Mine.up12 ?_ | refine Mine.up11 ?_ | refine Mine.up10 ?_ | refine Mine.up9 ?_ | refine Mine.up8 ?_ | refine Mine.up7 ?_ | refine Mine.up6 ?_ | refine Mine.up5 ?_ | refine Mine.up4 ?_ | refine Mine.up3 ?_ | refine Mine.up2 ?_ | refine Mine.up1 ?_); first | exact Mine.sub_rfl | exact Mine.apL | exact Mine.apR | exact Mine.apRL | exact Mine.apRR | exact Mine.apRRL | exact Mine.apRRR) | (refine Mine.inL ?_; first | exact Mine.sub_rfl | exact Mine.apL | exact Mine.apR | exact Mine.apRL | exact Mine.apRR | exact Mine.apRRL | exact Mine.apRRR | ((first | refine Mine.up14 ?_ | refine Mine.up13 ?_ | refine Mine.up12 ?_ | refine Mine.up11 ?_ | refine Mine.up10 ?_ | refine Mine.up9 ?_ | refine Mine.up8 ?_ | refine Mine.up7 ?_ | refine Mine.up6 ?_ | refine Mine.up5 ?_ | refine Mine.up4 ?_ | refine Mine.up3 ?_ | refine Mine.up2 ?_ | refine Mine.up1 ?_); first | exact Mine.sub_rfl | exact Mine.apL | exact Mine.apR | exact Mine.apRL | exact Mine.apRR | exact Mine.apRRL | exact Mine.apRRR)) | (refine Mine.inR ?_; first | exact Mine.sub_rfl | exact Mine.apL | exact Mine.apR | exact Mine.apRL | exact Mine.apRR | exact Mine.apRRL | exact Mine.apRRR | ((first | refine Mine.up14 ?_ | refine Mine.up13 ?_ | refine Mine.up12 ?_ | refine Mine.up11 ?_ | refine Mine.up10 ?_ | refine Mine.up9 ?_ | refine Mine.up8 ?_ | refine Mine.up7 ?_ | refine Mine.up6 ?_ | refine Mine.up5 ?_ | refine Mine.up4 ?_ | refine Mine.up3 ?_ | refine Mine.up2 ?_ | refine Mine.up1 ?_); first | exact Mine.sub_rfl | exact Mine.apL | exact Mine.apR | exact Mine.apRL | exact Mine.apRR | exact Mine.apRRL | exact Mine.apRRR)))), ?_, all_app (all_cons ⟨Nat.lt_trans hLI q3, Nat.ne_of_gt p3, hIe ▸ Nat.ne_of_gt q3⟩ (all_cons ⟨Nat.lt_trans hLI q4, Nat.ne_of_gt p4, hIe ▸ Nat.ne_of_gt q4⟩ (all_cons ⟨Nat.lt_trans hLI q2, Nat.ne_of_gt p2, hIe ▸ Nat.ne_of_gt q2⟩ (all_cons ⟨Nat.lt_trans hLI q1, Nat.ne_of_gt p1, hIe ▸ Nat.ne_of_gt q1⟩ all_nil)))) hTn⟩, fp_led hIo hDo N7 (mR (by k_mem)) (mR (by k_mem))⟩
      rw [fold_new hfi hnew]
      exact hS.snoc apR ⟨Dc, lb, Da, _, _, _, _, rfl, mm0, mm2, mm3, hlen⟩
    | true =>
      refine byG fun GG kG => ?_
      obtain ⟨hi0, k', hk'⟩ := run_true hrun
      have hz1 := pred_cast hi0
      obtain ⟨ra0, o0, ta0, lv0, hri0, hra0, hoc0, ⟨no0, hod0⟩, hlen0⟩ := hro (i - 1) k' (Nat.lt_of_le_of_lt (Nat.sub_le _ _) hi) hk'
      rw [← hz1] at hri0
      have hlow : (valueAt kvs ((i : Int) - 1)).isSome = true := by rw [hri0]; rfl
      obtain ⟨fpre, lo, efold, hlo⟩ := fold_last (f := f) (n := i - 1) hk'
      rw [Nat.sub_add_cancel hi0] at efold
      have hS' := hS
      rw [efold] at hS'
      obtain ⟨upre, u, rfl, hSp, a1, la, ra1, t1', ta', tb', lv1, rfl, hm1, hm2, hm3, hlen1⟩ := hS'.unsnoc
      dsimp only at hm1 hm3 hlen1
      refine kG ?_
      clear kG
      have hn1 : @Ne Nat a1 l := hTl1 _ hm1
      have hn2 : @Ne Nat la l := hTl1 _ hm2
      have hn3 : @Ne Nat ra1 l := hTl1 _ hm3
      have N3 : News g L' h1' ((l, W.listOf (upre ++ [Value.ref a1]).toArray nu) :: (d, od) :: (D, W.listOf ws.toArray c) :: (a1, { cls := .type "tuple", data := .seq #[.int k' t1', lv1, .ref la] }) :: (la, W.listOf #[.ref ra1] 0) :: (ra1, { cls := .type "tuple", data := .seq #[.str (letter lo) ta', .str (letter (i - 1)) tb'] }) :: (I, oI) :: Tn) := news_sub N2 (sub_cons mm0 (sub_cons mm1 (sub_cons mm2 (sub_cons (tl4 _ hm1) (sub_cons (tl4 _ hm2) (sub_cons (tl4 _ hm3) (sub_cons mm3 tl4)))))))
      clear N2
      k_steps
      rename Fr _ _ _ _ => F5
      rename_i h7
      refine unheld ?_
      dsimp only
      have hTlh := hTlg.keeps F5.keep
      have rD : Reads _ (.ref ra0) (ruleD k') [] := .tuple (F5.keep _ _ (hgt _ _ hra0 hoc0)) hoc0 hod0 (.cons (.int _ _) (.cons (hlen0.reads _ hTlh) .nil))
      have rR : Reads _ (.ref ra) (ruleD k) [] := .tuple (F5.keep _ _ (hgt _ _ hra hoc)) hoc hod (.cons (.int _ _) (.cons (hlen.reads _ hTlh) .nil))
      refine SeqAt.compareEq_shaped rD rR shaped_rule shaped_rule (by show un + 3 + 64 < 9900; omega) ?_
      clear rD rR hTlh
      rw [eqv_rule]
      by_cases hkk : k' = k
      · rw [decide_eq_true hkk]
        k_steps
        rename Fr _ _ _ _ => F6
        rename News _ _ _ _ => N6
        rename_i Da _ lDa lb _ llb Dt _ lDt Dc _ lDc _
        try simp only [List.push_toArray] at N6
        rw [item_n hi] at N6
        have q1 : @LT.lt Nat _ I Da := lDa.2.2.2.2.2.2.2.1
        have p1 : @LT.lt Nat _ l Da := lDa.2.1
        have q2 : @LT.lt Nat _ I lb := llb.2.2.2.2.2.2.2.2.1
        have p2 : @LT.lt Nat _ l lb := llb.2.2.1
        have q4 : @LT.lt Nat _ I Dt := lDt.2.2.2.2.2.2.2.2.2.1
        have p4 : @LT.lt Nat _ l Dt := lDt.2.2.2.1
        have q3 : @LT.lt Nat _ I Dc := lDc.2.2.2.2.2.2.2.2.2.2.1
        have p3 : @LT.lt Nat _ l Dc := lDc.2.2.2.2.1
        obtain ⟨T3, e3, N7⟩ := four N6
        subst hRa
        subst e3
        refine ⟨_, _, rfl, ⟨_, upre ++ [.ref Dc], nu, _, i + 1, cut_next hns hz, hi, F6, hmf, hmo, news_sub N7 (by with_reducible ((repeat' first | refine Mine.sub_cons ?_ ?_ | refine Mine.sub_app ?_ ?_ | exact Mine.sub_nil); all_goals first | exact Mine.mm0 | exact Mine.mm1 | exact Mine.mm2 | exact Mine.mm3 | exact Mine.mm4 | exact Mine.mm5 | exact Mine.mm6 | exact Mine.mm7 | exact Mine.mm8 | exact Mine.mm9 | exact Mine.mm10 | exact Mine.mm11 | exact Mine.mm12 | exact Mine.mm13 | (refine Mine.mL ?_; first | exact Mine.mm0 | exact Mine.mm1 | exact Mine.mm2 | exact Mine.mm3 | exact Mine.mm4 | exact Mine.mm5 | exact Mine.mm6 | exact Mine.mm7 | exact Mine.mm8 | exact Mine.mm9 | exact Mine.mm10 | exact Mine.mm11 | exact Mine.mm12 | exact Mine.mm13) | (refine Mine.mR ?_; first | exact Mine.mm0 | exact Mine.mm1 | exact Mine.mm2 | exact Mine.mm3 | exact Mine.mm4 | exact Mine.mm5 | exact Mine.mm6 | exact Mine.mm7 | exact Mine.mm8 | exact Mine.mm9 | exact Mine.mm10 | exact Mine.mm11 | exact Mine.mm12 | exact Mine.mm13) | exact Mine.sub_rfl | exact Mine.apL | exact Mine.apR | exact Mine.apRL | exact Mine.apRR | exact Mine.apRRL | exact Mine.apRRR | ((first | refine Mine.up14 ?_ | refine Mine.up13 ?_ | refine Mine.up12 ?_ | refine Mine.up11 ?_ | refine Mine.up10 ?_ | refine Mine.up9 ?_ | refine Mine.up8 ?_ | refine Mine.up7 ?_ | refine Mine.up6 ?_ | refine Mine.up5 ?_ | refine Mine.up4 ?_ | refine Mine.up3 ?_ | refine Mine.up2 ?_ | refine Mine.up1 ?_); first | exact Mine.sub_rfl | exact Mine.apL | exact Mine.apR | exact Mine.apRL | exact Mine.apRR | exact Mine.apRRL | exact Mine.apRRR) | (refine Mine.inL ?_; first | exact Mine.sub_rfl | exact Mine.apL | exact Mine.apR | exact Mine.apRL | exact Mine.apRR | exact Mine.apRRL | exact Mine.apRRR | ((first | refine Mine.up14 ?_ | refine Mine.up13 ?_ | refine Mine.up12 ?_ | refine Mine.up11 ?_ | refine Mine.up10 ?_ | refine Mine.up9 ?_ | refine Mine.up8 ?_ | refine Mine.up7 ?_ | refine Mine.up6 ?_ | refine Mine.up5 ?_ | refine Mine.up4 ?_ | refine Mine.up3 ?_ | refine Mine.up2 ?_ | refine Mine.up1 ?_); first | exact Mine.sub_rfl | exact Mine.apL | exact Mine.apR | exact Mine.apRL | exact Mine.apRR | exact Mine.apRRL | exact Mine.apRRR)) | (refine Mine.inR ?_; first | exact Mine.sub_rfl | exact Mine.apL | exact Mine.apR | exact Mine.apRL | exact Mine.apRR | exact Mine.apRRL | exact Mine.apRRR | ((first | refine Mine.up14 ?_ | refine Mine.up13 ?_ | refine Mine.up12 ?_ | refine Mine.up11 ?_ | refine Mine.up10 ?_ | refine Mine.up9 ?_ | refine Mine.up8 ?_ | refine Mine.up7 ?_ | refine Mine.up6 ?_ | refine Mine.up5 ?_ | refine Mine.up4 ?_ | refine Mine.up3 ?_ | refine Mine.up2 ?_ | refine Mine.up1 ?_); first | exact Mine.sub_rfl | exact Mine.apL | exact Mine.apR | exact Mine.apRL | exact Mine.apRR | exact Mine.apRRL | exact Mine.apRRR)))), ?_, all_app (all_cons ⟨Nat.lt_trans hLI q3, Nat.ne_of_gt p3, hIe ▸ Nat.ne_of_gt q3⟩ (all_cons ⟨Nat.lt_trans hLI q4, Nat.ne_of_gt p4, hIe ▸ Nat.ne_of_gt q4⟩ (all_cons ⟨Nat.lt_trans hLI q2, Nat.ne_of_gt p2, hIe ▸ Nat.ne_of_gt q2⟩ (all_cons ⟨Nat.lt_trans hLI q1, Nat.ne_of_gt p1, hIe ▸ Nat.ne_of_gt q1⟩ all_nil)))) hTn⟩, fp_led hIo hDo N7 (mR (by k_mem)) (mR (by k_mem))⟩
        rw [fold_glue hfi hi0 (by rw [hk', hkk]), efold, glue_snoc]
        exact hSp.snoc apR ⟨Dc, lb, Da, _, _, _, _, rfl, mm0, mm2, mm3, hlen1⟩
      · rw [decide_eq_false hkk]
        have hnew : ¬ (0 < i ∧ f (i - 1) = some k) := fun z => hkk (Option.some.inj (hk'.symm.trans z.2))
        k_steps
        rename Fr _ _ _ _ => F6
        rename News _ _ _ _ => N6
        rename_i Da _ lDa lb _ llb Dt _ lDt Dc _ lDc _
        try simp only [List.push_toArray] at N6
        rw [item_n hi] at N6
        have q1 : @LT.lt Nat _ I Da := lDa.2.2.2.2.2.2.1
        have p1 : @LT.lt Nat _ l Da := lDa.1
        have q2 : @LT.lt Nat _ I lb := llb.2.2.2.2.2.2.2.1
        have p2 : @LT.lt Nat _ l lb := llb.2.1
        have q4 : @LT.lt Nat _ I Dt := lDt.2.2.2.2.2.2.2.2.1
        have p4 : @LT.lt Nat _ l Dt := lDt.2.2.1
        have q3 : @LT.lt Nat _ I Dc := lDc.2.2.2.2.2.2.2.2.2.1
        have p3 : @LT.lt Nat _ l Dc := lDc.2.2.2.1
        obtain ⟨T3, e3, N7⟩ := four N6
        subst hRa
        subst e3
        refine ⟨_, _, rfl, ⟨_, (upre ++ [.ref a1]) ++ [.ref Dc], nu + 1, _, i + 1, cut_next hns hz, hi, F6, hmf, hmo, news_sub N7 (by with_reducible ((repeat' first | refine Mine.sub_cons ?_ ?_ | refine Mine.sub_app ?_ ?_ | exact Mine.sub_nil); all_goals first | exact Mine.mm0 | exact Mine.mm1 | exact Mine.mm2 | exact Mine.mm3 | exact Mine.mm4 | exact Mine.mm5 | exact Mine.mm6 | exact Mine.mm7 | exact Mine.mm8 | exact Mine.mm9 | exact Mine.mm10 | exact Mine.mm11 | exact Mine.mm12 | exact Mine.mm13 | (refine Mine.mL ?_; first | exact Mine.mm0 | exact Mine.mm1 | exact Mine.mm2 | exact Mine.mm3 | exact Mine.mm4 | exact Mine.mm5 | exact Mine.mm6 | exact Mine.mm7 | exact Mine.mm8 | exact Mine.mm9 | exact Mine.mm10 | exact Mine.mm11 | exact Mine.mm12 | exact Mine.mm13) | (refine Mine.mR ?_; first | exact Mine.mm0 | exact Mine.mm1 | exact Mine.mm2 | exact Mine.mm3 | exact Mine.mm4 | exact Mine.mm5 | exact Mine.mm6 | exact Mine.mm7 | exact Mine.mm8 | exact Mine.mm9 | exact Mine.mm10 | exact Mine.mm11 | exact Mine.mm12 | exact Mine.mm13) | exact Mine.sub_rfl | exact Mine.apL | exact Mine.apR | exact Mine.apRL | exact Mine.apRR | exact Mine.apRRL | exact Mine.apRRR | ((first | refine Mine.up14 ?_ | refine Mine.up13 ?_ | refine Mine.up12 ?_ | refine Mine.up11 ?_ | refine Mine.up10 ?_ | refine Mine.up9 ?_ | refine Mine.up8 ?_ | refine Mine.up7 ?_ | refine Mine.up6 ?_ | refine Mine.up5 ?_ | refine Mine.up4 ?_ | refine Mine.up3 ?_ | refine Mine.up2 ?_ | refine Mine.up1 ?_); first | exact Mine.sub_rfl | exact Mine.apL | exact Mine.apR | exact Mine.apRL | exact Mine.apRR | exact Mine.apRRL | exact Mine.apRRR) | (refine Mine.inL ?_; first | exact Mine.sub_rfl | exact Mine.apL | exact Mine.apR | exact Mine.apRL | exact Mine.apRR | exact Mine.apRRL | exact Mine.apRRR | ((first | refine Mine.up14 ?_ | refine Mine.up13 ?_ | refine Mine.up12 ?_ | refine Mine.up11 ?_ | refine Mine.up10 ?_ | refine Mine.up9 ?_ | refine Mine.up8 ?_ | refine Mine.up7 ?_ | refine Mine.up6 ?_ | refine Mine.up5 ?_ | refine Mine.up4 ?_ | refine Mine.up3 ?_ | refine Mine.up2 ?_ | refine Mine.up1 ?_); first | exact Mine.sub_rfl | exact Mine.apL | exact Mine.apR | exact Mine.apRL | exact Mine.apRR | exact Mine.apRRL | exact Mine.apRRR)) | (refine Mine.inR ?_; first | exact Mine.sub_rfl | exact Mine.apL | exact Mine.apR | exact Mine.apRL | exact Mine.apRR | exact Mine.apRRL | exact Mine.apRRR | ((first | refine Mine.up14 ?_ | refine Mine.up13 ?_ | refine Mine.up12 ?_ | refine Mine.up11 ?_ | refine Mine.up10 ?_ | refine Mine.up9 ?_ | refine Mine.up8 ?_ | refine Mine.up7 ?_ | refine Mine.up6 ?_ | refine Mine.up5 ?_ | refine Mine.up4 ?_ | refine Mine.up3 ?_ | refine Mine.up2 ?_ | refine Mine.up1 ?_); first | exact Mine.sub_rfl | exact Mine.apL | exact Mine.apR | exact Mine.apRL | exact Mine.apRR | exact Mine.apRRL | exact Mine.apRRR)))), ?_, all_app (all_cons ⟨Nat.lt_trans hLI q3, Nat.ne_of_gt p3, hIe ▸ Nat.ne_of_gt q3⟩ (all_cons ⟨Nat.lt_trans hLI q4, Nat.ne_of_gt p4, hIe ▸ Nat.ne_of_gt q4⟩ (all_cons ⟨Nat.lt_trans hLI q2, Nat.ne_of_gt p2, hIe ▸ Nat.ne_of_gt q2⟩ (all_cons ⟨Nat.lt_trans hLI q1, Nat.ne_of_gt p1, hIe ▸ Nat.ne_of_gt q1⟩ all_nil)))) hTn⟩, fp_led hIo hDo N7 (mR (by k_mem)) (mR (by k_mem))⟩
        rw [fold_new hfi hnew]
        exact hS.snoc apR ⟨Dc, lb, Da, _, _, _, _, rfl, mm0, mm2, mm3, hlen⟩
  case done =>
    rintro h tk ⟨m, us, nu, Tn, b, hc, hb, F, hmf, hmo, N, hS, hTn⟩
    rw [hwl] at hc
    rw [← cut_end hc hb hnt] at hS
    clear F1 N1
    dsimp only
    k_steps
    subst hQq
    exact hQ _ _ (.ref l) ((l, W.listOf us.toArray nu) :: Tn) Tl (kept_four hg hs0 F N (sub_cons mm1 sub_nil)) (fun z hz => ⟨N.get (sub_cons mm0 tl3 _ hz), all_cons (P := fun z : Addr × Obj => s.heap.get? z.1 = none) (new_of hg N mm0 (fun q => hdl (List.mem_singleton.mp q).symm)) (fun z hz => get_none_of_le (Nat.le_of_lt (Nat.lt_of_le_of_lt hL (hTn z hz).1))) z hz⟩) hTl hTlc hS.args
end
end Mine
end
section
open PySem PySem.W PyProof.Rows PySem.Calls PySem.Spec
set_option Elab.async false
set_option maxRecDepth 100000
set_option maxHeartbeats 4000000
namespace Mine
section
variable {prog : Program} {w : World} {A : Around} {E : Value → Shared → Prop} {s : Shared} {h₀ : Heap} {L : Addr} {m : Str → Option Value} {news : Led} {Q : Value → Shared → Prop}
theorem list_rng {r : Addr} {a b : Int} {t u v : Tok} {n : Nat} (hh : A.handled = none) (F : Fr h₀ L s.heap m) (N : News h₀ L s.heap news) (hr : IsRange s.heap r a b 1 t u v) (hsmall : Builtin.Range.small a b 1 = true) (hn : Builtin.Range.rangeSize a b 1 = (n : Int)) (hlen : n ≤ 2 ^ 24)
    (h : ∀ D ws c h' tk, Fr h₀ L h' m → News h₀ L h' ((D, W.listOf (ws : List Value).toArray c) :: news) → (∀ p ∈ news, @LT.lt Nat _ p.1 D) → ws.length = n → (∀ (j : Nat) v, ws[j]? = some v → ∃ t, v = .int (a + j) t) → Q (.ref D) { s with heap := h', toks := tk }) :
    wpAny (model prog w) A (call (.type "list") [.ref r]) Q E s := by
  refine call_list_range hh hr hsmall hn hlen fun h' tk acc' c' hk hS' hacc => ?_
  refine h s.heap.objs.size acc'.toList c' h' tk (F.keeps hk) (fun p hp => ?_) (fun p hp => Heap.lt_size (N p hp).1) (by rw [Array.length_toList]; exact hacc.1) fun j v hv => ?_
  · rcases List.mem_cons.mp hp with rfl | hp
    · refine ⟨by rw [Array.toArray_toList]; exact hS', Nat.ne_of_gt F.ns.lt, ?_⟩
      cases e : h₀.get? s.heap.objs.size with
      | none => rfl
      | some o => exact absurd (Heap.lt_size (F.keep _ _ e)) (Nat.lt_irrefl _)
    · exact ⟨hk _ _ (N p hp).1, (N p hp).2⟩
  · obtain ⟨t', rfl⟩ := hacc.2 j v (by simpa using hv)
    exact ⟨t', by rw [Int.mul_one]⟩
end
theorem eqv_nil {xs : List PyData} : PyData.eqv (.list xs) (.list []) = xs.isEmpty := by
  cases xs <;> simp [PyData.eqv, PyData.eqvAll]
theorem shaped_ints {ns : List Int} : SeqAt.shaped (.list (ns.map .int)) = true := by
  have h : PyData.canLayAll0 (ns.map .int) = true ∧ PyData.depthAll (ns.map .int) = 0 := by
    induction ns with
    | nil => exact ⟨rfl, by simp [PyData.depthAll]⟩
    | cons n r ih => exact ⟨by rw [List.map_cons, PyData.canLayAll0, ih.1]; simp [PyData.canLay0], by rw [List.map_cons, PyData.depthAll, ih.2]; simp [PyData.depth]⟩
  unfold SeqAt.shaped
  rw [PyData.canLay0, h.1, PyData.depth, h.2]; decide
theorem reads_ints {h : Heap} {a : Addr} {o : Obj} {vs : List Value} {ns : List Int} {n : Nat} (ho : h.get? a = some o) (hc : o.cls = .type "list") (hd : o.data = .seq vs.toArray n) (hi : IntsAre vs ns) : ∃ as, Reads h (.ref a) (.list (ns.map .int)) as :=
  ⟨_, .list ho hc hd (by simpa using hi.reads h)⟩
section
variable {prog : Program} {w : World} {A : Around} {s : Shared} {h₀ : Heap} {L : Addr} {m : Str → Option Value} {env : Env} {ct elt : Expr} {x : Str} {scope : Scope} {cl : List (Str × Addr)} {S : Led → Prop} {P : Nat → Value → Prop} {Fin : List Value → Led → Prop}
/-- the turns of a comprehension with a test -/
theorem comp_indT (n : Nat) (Inv : Nat → List Value → Led → Prop) {news : Led} (h0 : Inv 0 [] news)
    (turn : ∀ i ys news, i < n → Inv i ys news → ∀ v I oI C oC D m₂ h tk (E' : Value → Shared → Prop), P i v → LCg.NsObj oC m₂ → m₂ x = some v → Fr h₀ L h m → News h₀ L h ((I, oI) :: (C, oC) :: (D, LCg.lst ys) :: news) → LCg.Off3 I C D news → ((@Ne Nat I C) ∧ (@Ne Nat I D) ∧ (@Ne Nat C D)) →
      wpAny (model prog w) A (isTrue ct (compEnvC scope cl C env) (eval ct (compEnvC scope cl C env))) (fun ok s' => if ok = true then
        wpAny (model prog w) A (eval elt (compEnvC scope cl C env)) (LCg.CompEnd h₀ L m { s with heap := h, toks := tk } I oI C oC D (LCg.lst ys) S (fun y news' => Inv (i + 1) (ys ++ [y]) news')) E' s'
        else LCg.CompEnd h₀ L m { s with heap := h, toks := tk } I oI C oC D (LCg.lst ys) S (fun _ news' => Inv (i + 1) ys news') Value.none s') E' { s with heap := h, toks := tk })
    (fin : ∀ ys news, Inv n ys news → Fin ys news) : LCt.CompRestT prog w A h₀ L m env ct elt x scope cl s S P Fin n 0 [] news := by
  have key : ∀ j i ys news, i + j = n → Inv i ys news → LCt.CompRestT prog w A h₀ L m env ct elt x scope cl s S P Fin j i ys news := by
    intro j
    induction j with
    | zero =>
      intro i ys news e hI
      obtain rfl : i = n := by omega
      exact LCt.CompRestT.zero (fin _ _ hI)
    | succ j ih =>
      intro i ys news e hI
      refine LCt.CompRestT.succ fun v I oI C oC D m₂ h tk E' hP hC hx F N off ne => ?_
      refine wpAny_mono (turn i ys news (by omega) hI v I oI C oC D m₂ h tk E' hP hC hx F N off ne) (fun ok s₂ hy => ?_) (fun _ _ e => e)
      by_cases q : ok = true
      · rw [if_pos q] at hy ⊢
        exact wpAny_mono hy (fun y s₃ hz => comp_end_mono (fun y n hn => ih _ _ _ (by omega) hn) hz) (fun _ _ e => e)
      · rw [if_neg q] at hy ⊢
        exact comp_end_mono (fun y n hn => ih _ _ _ (by omega) hn) hy
  exact key n 0 [] news (by omega) h0
end
end Mine
end
section
local macro_rules | `(tactic| walk_at "idle") => `(tactic| skip)
open PySem PySem.W PyProof.Rows PySem.Calls PySem.Spec
set_option Elab.async false
set_option maxRecDepth 100000
set_option maxHeartbeats 4000000
local macro_rules | `(tactic| walk_at "eval Name") => `(tactic| (k_here; k_dflt (refine' nameX_L ?k1 ?k2 ?_; (case k1 => k_asm); (case k2 => first | exact rfl | assumption); k_whole)))
local macro_rules | `(tactic| k_ne) => `(tactic| with_reducible (first | assumption | (refine Ne.symm ?_; assumption)))
local macro_rules | `(tactic| walk_at "exec For Name Call cons nil") => `(tactic| (k_here; k_dflt (refine' Mine.for_open ?_)))
local macro_rules | `(tactic| walk_at "exec For Name Name cons nil") => `(tactic| (k_here; k_dflt (refine' Mine.for_open ?_)))
local macro_rules | `(tactic| walk_at "exec For Tuple Name cons nil") => `(tactic| (k_here; k_dflt (refine' Mine.for_open ?_)))
local macro_rules | `(tactic| walk_at "subscriptTail") => `(tactic| (k_here; (with_reducible show wpAny _ _ (subscriptTail _ _ (Value.ref _) (Value.int _ _)) _ _ _); k_dflt (refine' item_listL ?k1 ?k2 ?k3 ?k4 ?_; (case k1 => is_list); (case k4 => with_reducible assumption); (case k2 => omega); (case k3 => omega); k_whole)))
local macro_rules | `(tactic| k_all) => `(tactic| (refine fun p hp => ?_; with_reducible assumption))
local macro_rules | `(tactic| k_all) => `(tactic| with_reducible assumption)
local macro_rules | `(tactic| walk_at "compareOp In int ref") => `(tactic| (k_here; k_dflt (refine' kda_in (knd := PySem.intKind _ _) ?N ?m ?d ?lo ?k _ ?b ?_; (case N => k_asm); (case m => k_mem); (case d => k_asm); (case lo => k_asm); (case k => exact intKind_is _ _ _ _); (case b => with_reducible assumption); k_whole)))
local macro_rules | `(tactic| walk_at "setItem ref int") => `(tactic| (k_here; k_dflt (refine' kda_set (knd := PySem.intKind _ _) ?F ?N ?U ?d (intKind_is _ _ _ _) ?z ?_; (case F => k_asm); (case N => k_asm); (case U => k_updF); (case d => k_asm); (case z => exact kdl_size (by omega)); k_whole); intro h' o' F' N' hd'; (try dsimp only at N')))
local macro_rules | `(tactic| walk_at "eval ListComp") => `(tactic| (k_here; lct_look; lcg_calm; k_dflt (refine LCt.ListComp_T (F₀ := by k_asm) (by with_unfolding_all rfl) (by decide) (by rfl) (by decide) (by rfl) ?_); k_dflt lct_toSrc))
local macro_rules | `(tactic| walk_at "CompSrcT") => `(tactic| (k_here; k_dflt (refine Mine.held ?_)))
local macro_rules | `(tactic| walk_at "call builtin:str.index") => `(tactic| (k_here; k_dflt (refine index_or (by rfl) ?A ?B; (case A => intros; exfalso; omega)); intros))
local macro_rules | `(tactic| walk_at "call type:list") => `(tactic| (k_here; k_dflt (refine Mine.held ?_)))
local macro_rules | `(tactic| walk_at "compareOp Eq ref ref") => `(tactic| (k_here; k_dflt (refine Mine.held ?_)))
local macro_rules | `(tactic| walk_at "compareOp NotEq ref ref") => `(tactic| (k_here; k_dflt (refine Mine.held ?_)))
local macro_rules | `(tactic| walk_at "subscriptTail") => `(tactic| (k_here; (fail_if_success (with_reducible show wpAny _ _ (subscriptTail (PySem.Expr.Name _ _) _ _ _) _ _ _)); k_dflt (refine Mine.turn ?_)))
local macro_rules | `(tactic| walk_at "exec Assign") => `(tactic| (k_here; (with_reducible show wpAny _ _ (exec (Stmt.Assign [Expr.Name _ _] _ _) _) _ _ _); k_dflt (refine wpAny_Assign_Name ?_)))
local macro_rules | `(tactic| walk_at "getAttr ref") => `(tactic| (k_here; k_dflt (refine' get_own ?k1 ?k2 ?k3 ?k4 ?k5 ?k6 ?k7 ?k8 ?k9 ?_; (case k1 => k_asm); (case k2 => k_asm); (case k3 => k_inst); (case k4 => k_is); (case k5 => k_is); (case k6 => k_is); (case k7 => k_is); (case k8 => k_get); (case k9 => k_handed); k_whole)))

namespace Mine

inductive LJ1 (w : World) (g : Heap) (L' d rl : Addr) (oc : Obj) (f : St) (rs : List (Int × List (Nat × Nat))) (Tr T : Led) (sz : Nat) (i : Nat) (h : Heap) : Prop
  | mk (m0 : Str → Option Value) (f' : St) (od' : Obj) (kvs' : List (Int × Value)) (Tn : Led) (e1 : addF f rs = addF f' (rs.drop i)) (F : Fr g L' h m0)
     (N : News g L' h ((d, od') :: (L' + 1, oc) :: Tn)) (hO : OwnO w od' kvs') (hR : OwnIn (Tn ++ (Tr ++ T)) kvs' f') (hT : (∀ p ∈ Tn, @LT.lt Nat _ L' p.1) ∧ ∀ p ∈ Tn, p.1 ≠ sz) : LJ1 w g L' d rl oc f rs Tr T sz i h
inductive LJ2 (w : World) (g : Heap) (L' d rl : Addr) (oc : Obj) (f : St) (rs : List (Int × List (Nat × Nat))) (Tr T : Led) (sz : Nat) (sz9 : Nat) (r : Int × List (Nat × Nat)) (ta : Tok) (lv : Value) (b : Addr) (i : Nat) (I : Addr) (oI : Obj) (j : Nat) (h : Heap) : Prop
  | mk (m0 : Str → Option Value) (f2 : St) (od2 : Obj) (kvs2 : List (Int × Value)) (Tn2 : Led) (e2 : addF f rs = contF f2 r.1 (r.2.drop j) (rs.drop (i + 1))) (F : Fr g L' h m0) (hmk : m0 "kind" = some (.int r.1 ta)) (hml : m0 "length" = some lv)
     (N : News g L' h ((d, od2) :: (L' + 1, oc) :: (I, oI) :: Tn2)) (hO : OwnO w od2 kvs2) (hR : OwnIn (Tn2 ++ (Tr ++ T)) kvs2 f2) (hT : (∀ p ∈ Tn2, @LT.lt Nat _ L' p.1) ∧ (∀ p ∈ Tn2, p.1 ≠ sz) ∧ ∀ p ∈ Tn2, p.1 ≠ sz9) : LJ2 w g L' d rl oc f rs Tr T sz sz9 r ta lv b i I oI j h
inductive LJ3 (w : World) (g : Heap) (L' d rl : Addr) (oc : Obj) (f : St) (rs : List (Int × List (Nat × Nat))) (Tr T : Led) (sz : Nat) (sz9 : Nat) (r : Int × List (Nat × Nat)) (ta : Tok) (lv : Value) (b : Addr) (i : Nat) (I : Addr) (oI : Obj) (sz15 : Nat) (q : Nat × Nat) (tc tc' : Tok) (D : Addr) (us : List Value) (c : Nat) (I2 : Addr) (oI2 : Obj) (f2 : St) (m : Nat) (h : Heap) : Prop
  | mk (m0 : Str → Option Value) (od3 : Obj) (kvs3 : List (Int × Value)) (Tn3 : Led) (F : Fr g L' h m0) (hmk : m0 "kind" = some (.int r.1 ta)) (hml : m0 "length" = some lv)
     (N : News g L' h ((d, od3) :: (L' + 1, oc) :: (D, W.listOf us.toArray c) :: (I2, oI2) :: (I, oI) :: Tn3)) (hO : OwnO w od3 kvs3) (hR : OwnIn (Tn3 ++ (Tr ++ T)) kvs3 (tellM f2 r.1 q.1 m)) (hT : ∀ p ∈ Tn3, @LT.lt Nat _ L' p.1 ∧ p.1 ≠ sz ∧ p.1 ≠ sz9 ∧ p.1 ≠ sz15) : LJ3 w g L' d rl oc f rs Tr T sz sz9 r ta lv b i I oI sz15 q tc tc' D us c I2 oI2 f2 m h
section
variable {w : World} {pg : Program} {loose : List Str} {mean : ExcName → Option Value} {mg mb : Str → Option Value}

theorem lt26 {lo hi : Nat} (h : hi < 26) : hi + 1 - lo ≤ 26 := by omega
theorem lt_in {lo hi i n : Nat} (h : hi < 26) (e : n = hi + 1 - lo) (hi1 : i < n) : lo + i < 26 := by omega
theorem lt_cast {lo i : Nat} : ((lo + i : Nat) : Int) = (lo : Int) + (i : Int) := by omega
theorem lt_some {f : St} {lo hi n : Nat} (hh : hi < 26) (hlt : ¬ hi < lo) (e : n = hi + 1 - lo) (h : ¬ ∀ j, j < n → f (lo + j) = none) : tellErr f lo hi = some ("a letter that is told twice" : Str) := by
  obtain ⟨j, hj⟩ := Classical.not_forall.mp h
  obtain ⟨hj1, hj2⟩ := Classical.not_imp.mp hj
  unfold tellErr
  rw [if_neg hlt, if_pos ⟨lo + j, by omega, by omega, by omega, Option.isSome_iff_ne_none.mpr hj2⟩]
theorem lt_none {f : St} {lo hi n : Nat} (hh : hi < 26) (hlt : ¬ hi < lo) (e : n = hi + 1 - lo) (h : ∀ j, j < n → f (lo + j) = none) : tellErr f lo hi = none := tellErr_ok (by omega) hh fun i h1 h2 => by
  have := h (i - lo) (by omega)
  rw [show lo + (i - lo) = i by omega] at this
  exact this
theorem lt_step0 {f : St} {ys : List Value} {lo i : Nat} (hfi : f (lo + i) = none) (hys : ys = [] ↔ ∀ j, j < i → f (lo + j) = none) : ys = [] ↔ ∀ j, j < i + 1 → f (lo + j) = none :=
  hys.trans ⟨fun h j hj => by
    by_cases z : j = i
    · rw [z]; exact hfi
    · exact h j (by omega), fun h j hj => h j (by omega)⟩
theorem lt_step1 {f : St} {ys : List Value} {v : Value} {lo i : Nat} {kk : Int} (hfi : f (lo + i) = some kk) : ys ++ [v] = [] ↔ ∀ j, j < i + 1 → f (lo + j) = none :=
  ⟨fun h => absurd h (by simp), fun h => by rw [h i (Nat.lt_succ_self _)] at hfi; cases hfi⟩
theorem lt_empty {lo hi : Nat} : (((List.range (hi + 1 - lo)).map fun j => ((lo : Int) + (j : Nat))).map PyData.int).isEmpty = decide (hi < lo) := by
  by_cases z : hi < lo
  · rw [show hi + 1 - lo = 0 by omega, decide_eq_true z]; rfl
  · obtain ⟨n, hn⟩ : ∃ n, hi + 1 - lo = n + 1 := ⟨hi - lo, by omega⟩
    rw [hn, decide_eq_false z]; simp [List.range_succ_eq_map]
theorem lt_ints {us : List Value} {lo n : Nat} (hul : us.length = n) (hus : ∀ (j : Nat) v, us[j]? = some v → ∃ t, v = .int ((lo : Int) + j) t) : IntsAre us ((List.range n).map fun j => ((lo : Int) + (j : Nat))) := ints_of (by simp [hul]) fun j v z e1 e2 => by
  obtain ⟨t, rfl⟩ := hus j v e1
  have hj : j < n := by rw [← hul]; exact (List.getElem?_eq_some_iff.mp e1).1
  rw [List.getElem?_map, List.getElem?_range hj] at e2
  cases e2
  exact ⟨t, rfl⟩
theorem ltold_spec ⦃dp un : Nat⦄ ⦃gd : Option (List Code)⦄ ⦃cn : Str⦄ ⦃cs : Scope⦄ ⦃L a : Addr⦄ ⦃ccd : Value⦄ ⦃cl : List (Str × Addr)⦄ ⦃outer : List Env⦄ ⦃A₀ : Around⦄ ⦃base h₀ : Heap⦄ ⦃m : Str → Option Value⦄ ⦃s : Shared⦄ ⦃Q E : Value → Shared → Prop⦄
    {d rl : Addr} {od : Obj} {kvs : List (Int × Value)} {f : St} {T Tr : Led} {rs : List (Int × List (Nat × Nat))}
    (H : Here w pg loose mean mg mb cs A₀ base h₀ outer L m s.heap) (hdp : dp + 10 < 900) (hun : un + 70 < 9000)
    (N : News h₀ L s.heap ((d, od) :: [])) (hO : OwnO w od kvs) (lo' : (d == sysModules) = false) (hR : OwnIn T kvs f) (hA : ArgsIn Tr (.ref rl) rs) (hTr : Bears s.heap Tr) (hTd : ∀ p ∈ Tr, @Ne Nat p.1 d)
    (hQ : ∀ h' tk v od' kvs' Tn f', (addF f rs = (f', none) ∧ v = .none ∨ ∃ y t, addF f rs = (f', some y) ∧ v = .str y t) → Kept [d] s.heap h' → h'.get? d = some od' → OwnO w od' kvs' → OwnIn (Tn ++ (Tr ++ T)) kvs' f' → Fresh s.heap h' Tn → Q v { s with heap := h', toks := tk }) :
    wpAny (model PySem.Challenge.rw_pq0349_01.row.prog w) (ktrTop dp un gd cn cs L a ccd cl outer) (call (.ref 210) [.ref d, .ref rl]) Q E s := by
  have B := H.B
  have F := H.F
  have X := H.X
  have T0 := H.T
  have hk := H.hk
  revert X; k_fill; intro X
  refine wpAny_call ?_
  k_dflt (refine' Mine.enterC (binds := [("own", .ref d), ("rules", .ref rl)]) ?k1 ?k2 ?k3 ?k4 ?k5 ?kA ?kF ?kK ?k6 ?k7 ?k8 ?k9 ?kB ?kD ?kbody ?c2 ?c3 ?c4; (case kA => exact rfl); (case kF => exact rfl); (case kK => assumption); (case k1 => assumption); (case k2 => assumption); (case k3 => assumption); (case k4 => assumption); (case k5 => assumption); (case k6 => k_is); (case k7 => k_is); (case k8 => (show @LT.lt Nat _ _ 1000; (try dsimp only [ktrTop]); omega)); (case k9 => exact BindsTo.of_eq rfl); (case kB => exact rfl); (case kD => decide +kernel); (case c2 => exact rfl); (case c3 => exact rfl); (case c4 => exact rfl); k_whole)
  intro g L' h₁ tk0 cells hg hL lL F' N' Y' B' X' T'
  k_lt lL
  k_cells Y'
  (try simp only [List.cons_append, List.nil_append] at N')
  rename Obj => oc
  rename _ = Data.cell _ => hoc
  replace F' : Fr g L' h₁ (fun y => if y = "rules" then some (.ref rl) else none) := Fr.as F' (fun y => rfl)
  replace N' : News g L' h₁ [(d, od), (L' + 1, oc)] := news_sub N' (fun p hp => by
    simp only [List.mem_cons, List.not_mem_nil, or_false] at hp ⊢
    exact hp.symm)
  have hs0 : ∀ p ∈ [(d, od)], s.heap.get? p.1 = some p.2 := fun p hp => (N p hp).1
  have hTg : Bears g Tr := fun p hp => hg _ _ (hTr p hp) (fun z => by
    simp only [List.map_cons, List.map_nil, List.mem_cons, List.not_mem_nil, or_false] at z
    exact hTd p hp z)
  obtain ⟨rl', ol, vs, nl, e, hm, hc, hd, hvl, hvs⟩ := hA
  cases e
  have hl : g.IsList rl vs.toArray := ⟨ol, hTg _ hm, hc, nl, hd⟩
  have hI : @LT.lt Nat _ L' h₁.objs.size := F'.ns.lt
  have hd1 : @LT.lt Nat _ d h₁.objs.size := Heap.lt_size (N'.get (.head _))
  have hc1 : @LT.lt Nat _ (L' + 1) h₁.objs.size := Heap.lt_size (N'.get (.tail _ (.head _)))
  clear B F X T0 N
  (try dsimp only)
  refine gen1 ?_
  intro Qq hQq
  refine letAE ?_
  intro Aq Eq
  k_steps
  refine loop_list (items := vs) (LJ1 w g L' d rl oc f rs Tr T h₁.objs.size) (hl.at fun o e => F'.keep _ _ e) rfl ?j0 ?stable ?turn ?done ?ht
  case ht =>
    refine .inr ⟨_, _, _, rfl, fun i v e => ?_⟩
    obtain ⟨r, hr⟩ := get_of_len (l := rs) e hvl
    obtain ⟨u, hu, ra, o, ta, lv, rv, na, rfl, _⟩ := hvs i r hr
    rw [e] at hu
    exact ⟨ra, Option.some.inj hu⟩
  case j0 =>
    exact ⟨_, f, od, kvs, [], by simp, F', N', hO, hR.mono t_app0, all_nil, all_nil⟩
  case stable =>
    rintro i h h' ⟨m0, f', od', kvs', Tn, e1, F, N, hO', hR', hTn'⟩ kp
    exact ⟨m0, f', od', kvs', Tn, e1, fr_stable F hI kp, news_stable N kp (all_cons (Nat.ne_of_lt hd1) (all_cons (Nat.ne_of_lt hc1) hTn'.2)), hO', hR', hTn'⟩
  case turn =>
    intro i v h tk I oI hv HJ hIe hIo hIc hll
    refine genT ?_
    intro Ra hRa
    refine byG fun GG kG => ?_
    obtain ⟨m0, f', od', kvs', Tn, e1, F, N, hO', hR', hTn'⟩ := HJ
    obtain ⟨r, hr⟩ := get_of_len (l := rs) hv hvl
    obtain ⟨u, hu, ra, o, ta, lv, rv, na, hu2, hma, hca, hda, hlen, b, o2, ws, nl2, hu3, hm2, hc2, hd2, hwl, hws⟩ := hvs i r hr
    subst hu3
    subst hu2
    rw [hv] at hu
    cases hu
    refine kG ?_
    clear kG
    have hta : IsTup g ra [.int r.1 ta, lv, .ref b].toArray := ⟨o, hTg _ hma, hca, na, hda⟩
    clear F' N'
    dsimp only at hIe ⊢
    have hLI : @LT.lt Nat _ L' I := by rw [hIe]; exact hI
    have hId : @Ne Nat I d := by rw [hIe]; exact Nat.ne_of_gt hd1
    have NI := news_sub (news_more F hLI hIo N) rot2
    have hl2 : g.IsList b ws.toArray := ⟨o2, hTg _ hm2, hc2, nl2, hd2⟩
    have hrl0 : h.get? rl = some ol := F.keep _ _ (hTg _ hm)
    clear N
    have ed := drop_get hr
    rw [ed, addF_cons] at e1
    k_steps
    rename Fr _ _ _ _ => F2
    rename News _ _ _ _ => N2
    rename Heap => h9
    have hI2 : @LT.lt Nat _ L' h9.objs.size := F2.ns.lt
    have hd9 : @LT.lt Nat _ d h9.objs.size := Heap.lt_size (N2.get (.head _))
    have hc9 : @LT.lt Nat _ (L' + 1) h9.objs.size := Heap.lt_size (N2.get (.tail _ (.head _)))
    have hTn9 : ∀ p ∈ (I, oI) :: Tn, p.1 ≠ h9.objs.size := fun p hp => Nat.ne_of_lt (Heap.lt_size (N2.get (.tail _ (.tail _ hp))))
    refine loop_list (items := ws) (LJ2 w g L' d rl oc f rs Tr T h₁.objs.size h9.objs.size r ta lv b i I oI) (hl2.at fun o e => F2.keep _ _ e) rfl ?ij0 ?istable ?iturn ?idone ?iht
    case iht =>
      refine .inr ⟨_, _, _, rfl, fun i v e => ?_⟩
      obtain ⟨q, hq⟩ := get_of_len (l := r.2) e hwl
      obtain ⟨u, hu, _, _, ca, co, tc, tc', nc, rfl, _⟩ := hws i q hq
      rw [e] at hu
      exact ⟨ca, Option.some.inj hu⟩
    case ij0 => exact ⟨_, f', od', kvs', Tn, by simpa using e1, F2, rfl, rfl, N2, hO', hR', hTn'.1, hTn'.2, fun p hp => hTn9 p (.tail _ hp)⟩
    case istable =>
      rintro j h h' ⟨m2, f2, od2, kvs2, Tn2, e2, F, hmk2, hml2, N, hO2, hR2, hT1, hT2, hT3⟩ kp
      exact ⟨m2, f2, od2, kvs2, Tn2, e2, fr_stable F hI2 kp, hmk2, hml2, news_stable N kp (all_cons (Nat.ne_of_lt hd9) (all_cons (Nat.ne_of_lt hc9) (all_cons (hTn9 (I, oI) mm0) hT3))), hO2, hR2, hT1, hT2, hT3⟩
    case iturn =>
      intro j v h tk I2 oI2 hv2 HJ hIe2 hIo2 hIc2 hll2
      refine genT ?_
      intro Rb hRb
      refine byG fun GG kG => ?_
      obtain ⟨m2, f2, od2, kvs2, Tn2, e2, F, hmk2, hml2, N, hO2, hR2, hT1, hT2, hT3⟩ := HJ
      obtain ⟨q, hq⟩ := get_of_len (l := r.2) hv2 hwl
      obtain ⟨u, hu, hlo, hhi, ca, co, tc, tc', nc, hu2, hmc, hcc, hdc⟩ := hws j q hq
      subst hu2
      rw [hv2] at hu
      cases hu
      refine kG ?_
      clear kG
      have htc : IsTup g ca [.str (letter q.1) tc, .str (letter q.2) tc'].toArray := ⟨co, hTg _ hmc, hcc, nc, hdc⟩
      have ed2 := drop_get hq
      rw [ed2] at e2
      have hb0 : h.get? b = some o2 := F.keep _ _ (hTg _ hm2)
      dsimp only at hIe2
      have hLI2 : @LT.lt Nat _ L' I2 := by rw [hIe2]; exact hI2
      have hId2 : @Ne Nat I2 d := by rw [hIe2]; exact Nat.ne_of_gt hd9
      have NI2 := news_sub (news_more F hLI2 hIo2 N) rot2
      have hkl := hR2.len
      have hf1 := find_abc _ hlo
      have hf2 := find_abc _ hhi
      clear F2 N2 N
      dsimp only
      k_steps
      · rename _ = (-1 : Int) => hbad
        rw [hf2] at hbad
        exfalso; omega
      rename Fr _ _ _ _ => F3
      rename News _ _ _ _ => N3
      rename IsRange _ _ _ _ _ _ _ _ => hRg
      rw [hf1, hf2] at hRg
      refine unheld ?_
      have hsz : Builtin.Range.rangeSize (q.1 : Int) ((q.2 : Int) + 1) 1 = ((q.2 + 1 - q.1 : Nat) : Int) := te_sz
      refine list_rng (n := q.2 + 1 - q.1) rfl F3 N3 hRg (te_sm hlo hhi) hsz (Nat.le_trans (lt26 hhi) (by decide)) fun D us c h11 tk11 F4 N4 lD hul hus => ?_
      clear F3 N3 hRg
      have hui : IntsAre us ((List.range (q.2 + 1 - q.1)).map fun j => ((q.1 : Int) + (j : Nat))) := lt_ints hul hus
      have hDd : @Ne Nat D d := Nat.ne_of_gt (lD (d, _) (.head _))
      have hD2 : @LT.lt Nat _ I2 D := lD (I2, _) (.tail _ (.tail _ (.head _)))
      have hD1 : @LT.lt Nat _ I D := lD (I, _) (.tail _ (.tail _ (.tail _ (.head _))))
      k_lt lD
      dsimp only
      k_steps
      rename Fr _ _ _ _ => F5
      rename News _ _ _ _ => N5
      rename_i l3 h12 l31
      refine unheld ?_
      dsimp only
      have he := lt_empty (lo := q.1) (hi := q.2)
      obtain ⟨as1, rA⟩ := reads_ints (N5.get (.tail _ (.head _))) rfl rfl hui
      obtain ⟨as2, rB⟩ := reads_ints (vs := []) (ns := []) (N5.get (.head _)) rfl rfl .nil
      refine SeqAt.compareEq_shaped rA rB shaped_ints shaped_ints (by show un + 3 + 64 < 9900; omega) ?_
      clear rA rB
      rw [List.map_nil, eqv_nil, he]
      by_cases hlt : q.2 < q.1
      · have herr : tellErr f2 q.1 q.2 = some ("letters that do not ascend" : Str) := by unfold tellErr; rw [if_pos hlt]
        rw [decide_eq_true hlt]
        k_steps
        subst hRb hRa hQq
        refine hQ _ _ _ od2 kvs2 Tn2 f2 (.inr ⟨_, _, by rw [e2, contF_err herr], rfl⟩) (kept_end hg hs0 F5 fun z hz hn => absurd (by rw [List.mem_singleton.mp hz]; exact .head _) hn) (N5.get (.tail _ (.tail _ (.head _)))) hO2 hR2 fun p hp => ⟨N5.get (.tail _ (.tail _ (.tail _ (.tail _ (.tail _ (.tail _ hp)))))), get_none_of_le (Nat.le_of_lt (Nat.lt_of_le_of_lt hL (hT1 p hp)))⟩
      · rw [decide_eq_false hlt]
        clear he
        k_steps
        rename Fr _ _ _ _ => F6
        rename News _ _ _ _ => N6
        refine unheld ?_
        refine LCt.CompSrcT.ledger rfl F6 N6 (by k_mem) (kdl_size (by rw [List.size_toArray, hul]; exact Nat.le_trans (lt26 hhi) (by decide))) fun gg => ?_
        refine comp_indT us.toArray.size (fun i ys nw => nw = ((l3, W.listOf #[] 0) :: (D, W.listOf us.toArray c) :: (d, od2) :: (L' + 1, oc) :: (I2, oI2) :: (I, oI) :: Tn2) ∧ (∃ zs, IntsAre ys zs) ∧ (ys = [] ↔ ∀ j, j < i → f2 (q.1 + j) = none)) ⟨rfl, ⟨[], .nil⟩, by simp⟩ ?cturn ?cfin
        case cturn =>
          rintro i1 ys nw hi1 ⟨rfl, ⟨zs, hzs⟩, hys⟩ v I3 oI3 C oC D3 m₂ h13 tk13 E3 hP hC hx F N off hne
          rw [List.size_toArray] at hi1
          obtain ⟨ti, rfl⟩ := hus i1 v (by simpa using hP)
          have hb := hR2.isSome (i := q.1 + i1) (lt_in hhi hul hi1)
          rw [lt_cast] at hb
          clear F6 N6
          cases hfi : f2 (q.1 + i1) with
          | none =>
            rw [hfi] at hb
            simp only [Option.isSome_none] at hb
            k_steps
            exact LCg.CompEnd.intro F N _ (fun x hx => hx) off (.inr ⟨_, .tail _ (.head _), rfl, _, rfl⟩) ⟨rfl, ⟨zs, hzs⟩, lt_step0 hfi hys⟩
          | some kk =>
            rw [hfi] at hb
            simp only [Option.isSome_some] at hb
            k_steps
            exact LCg.CompEnd.intro F N _ (fun x hx => hx) off (.inr ⟨_, .tail _ (.head _), rfl, _, rfl⟩) ⟨rfl, ⟨_, IntsAre.append hzs (.cons _ ti .nil)⟩, lt_step1 hfi⟩
        case cfin =>
          rintro ys nw ⟨rfl, ⟨zs, hzs⟩, hys⟩
          intro D3 h13 tk13 F7 N7 off
          clear F6 N6
          dsimp only
          k_steps
          rename Fr _ _ _ _ => F8
          rename News _ _ _ _ => N8
          rename_i l4 h14 l41
          refine unheld ?_
          dsimp only
          obtain ⟨as1, rA⟩ := reads_ints (N8.get (.tail _ (.head _))) rfl rfl hzs
          obtain ⟨as2, rB⟩ := reads_ints (vs := []) (ns := []) (N8.get (.head _)) rfl rfl .nil
          refine SeqAt.compareNe_shaped rA rB shaped_ints shaped_ints (by show un + 3 + 64 < 9900; omega) ?_
          clear rA rB
          rw [List.map_nil, eqv_nil]
          rw [List.size_toArray] at hys
          by_cases htold : ∀ j, j < us.length → f2 (q.1 + j) = none
          · have hy := hys.mpr htold
            subst hy
            cases hzs
            rw [show (!(List.map PyData.int []).isEmpty) = false from rfl]
            k_steps
            rename Fr _ _ _ _ => F9
            rename News _ _ _ _ => N9
            rename Heap => h15
            have hI3 : @LT.lt Nat _ L' h15.objs.size := F9.ns.lt
            have hDo : h15.get? D = some (W.listOf us.toArray c) := N9.get (.tail _ (.tail _ (.tail _ (.head _))))
            have hND : ∀ p ∈ ((d, od2) :: (L' + 1, oc) :: (D, W.listOf us.toArray c) :: (I2, oI2) :: (I, oI) :: Tn2), @LT.lt Nat _ p.1 h15.objs.size := fun p hp => Heap.lt_size (N9.get (sub_cons mm4 (sub_cons mm5 (sub_cons mm3 (sub_cons mm6 (sub_cons mm7 tl8)))) p hp))
            refine loop_list (items := us) (LJ3 w g L' d rl oc f rs Tr T h₁.objs.size h9.objs.size r ta lv b i I oI h15.objs.size q tc tc' D us c I2 oI2 f2) ⟨_, hDo, rfl, c, rfl⟩ rfl ?lj0 ?lstable ?lturn ?ldone (.inl (by intro _ _; rfl))
            case lj0 =>
              refine ⟨_, od2, kvs2, Tn2, F9, hmk2, hml2, news_sub N9 (by with_reducible ((repeat' first | refine Mine.sub_cons ?_ ?_ | refine Mine.sub_app ?_ ?_ | exact Mine.sub_nil); all_goals first | exact Mine.mm0 | exact Mine.mm1 | exact Mine.mm2 | exact Mine.mm3 | exact Mine.mm4 | exact Mine.mm5 | exact Mine.mm6 | exact Mine.mm7 | exact Mine.mm8 | exact Mine.mm9 | exact Mine.mm10 | exact Mine.mm11 | exact Mine.mm12 | exact Mine.mm13 | exact Mine.sub_rfl | exact Mine.apL | exact Mine.apR | exact Mine.apRL | exact Mine.apRR | exact Mine.apRRL | exact Mine.apRRR | ((first | refine Mine.up14 ?_ | refine Mine.up13 ?_ | refine Mine.up12 ?_ | refine Mine.up11 ?_ | refine Mine.up10 ?_ | refine Mine.up9 ?_ | refine Mine.up8 ?_ | refine Mine.up7 ?_ | refine Mine.up6 ?_ | refine Mine.up5 ?_ | refine Mine.up4 ?_ | refine Mine.up3 ?_ | refine Mine.up2 ?_ | refine Mine.up1 ?_); first | exact Mine.sub_rfl | exact Mine.apL | exact Mine.apR | exact Mine.apRL | exact Mine.apRR | exact Mine.apRRL | exact Mine.apRRR))), hO2, by rw [tellM_zero]; exact hR2, fun p hp => ⟨hT1 p hp, hT2 p hp, hT3 p hp, Nat.ne_of_lt (hND p (.tail _ (.tail _ (.tail _ (.tail _ (.tail _ hp))))))⟩⟩
            case lstable =>
              rintro m h h' ⟨m3, od3, kvs3, Tn3, F, hmk3, hml3, N, hO3, hR3, hT4⟩ kp
              exact ⟨m3, od3, kvs3, Tn3, fr_stable F hI3 kp, hmk3, hml3, news_stable N kp (all_cons (Nat.ne_of_lt (hND (d, od2) mm0)) (all_cons (Nat.ne_of_lt (hND (L' + 1, oc) mm1)) (all_cons (Nat.ne_of_lt (hND (D, _) mm2)) (all_cons (Nat.ne_of_lt (hND (I2, oI2) mm3)) (all_cons (Nat.ne_of_lt (hND (I, oI) mm4)) fun p hp => (hT4 p hp).2.2.2))))), hO3, hR3, hT4⟩
            case lturn =>
              rintro m v h tk3 I4 oI4 hv4 ⟨m3, od3, kvs3, Tn3, F, hmk3, hml3, N, hO3, hR3, hT4⟩ hIe4 hIo4 hIc4 hll4
              refine genT ?_
              intro Rc hRc
              obtain ⟨tm, rfl⟩ := hus m v hv4
              have hm : m < us.length := (List.getElem?_eq_some_iff.mp hv4).1
              dsimp only at hIe4
              have hI4d : @Ne Nat I4 d := by rw [hIe4]; exact Nat.ne_of_gt (hND (d, od2) (.head _))
              have hDo4 : h.get? D = some (W.listOf us.toArray c) := N.get (.tail _ (.tail _ (.head _)))
              have hkl3 := hR3.len
              have hTd4 : ∀ z ∈ Tn3, z.1 ≠ d := fun z hz q => absurd (hT4 z hz).1 (by rw [q]; exact Nat.not_lt.mpr (Nat.le_of_lt lL))
              have NI4 := news_sub (news_more F (by rw [hIe4]; exact hI3) hIo4 N) rot3
              clear F9 N9 N
              dsimp only
              refine wpAny_assign_Name (storeX_L F NI4 (fun h1' F10 N10 => ?_))
              clear NI4 F
              k_steps
              rename Fr _ _ _ _ => F11
              rename News _ _ _ _ => N11
              rename OwnO _ _ _ => hd11
              rename_i D4 _ _ _ lD4 _ o4
              rw [← lt_cast] at hd11
              have a1 : @LT.lt Nat _ I4 D4 := by omega
              have a2 : @LT.lt Nat _ I2 D4 := by omega
              have a3 : @LT.lt Nat _ I D4 := by omega
              subst hRc
              refine ⟨_, _, rfl, ⟨_, o4, _, (D4, tupO #[.int r.1 ta, lv]) :: Tn3, F11, hmk3, hml3, news_sub N11 (sub_cons mm1 (sub_cons mm2 (sub_cons mm3 (sub_cons mm5 (sub_cons mm6 (sub_cons mm0 tl7)))))), hd11, OwnIn.store (hR3.mono tl1) (lt_in hhi hul hm) (htold m hm) (pair_rule (.head _) rfl rfl (hlen.mono fun p hp => List.mem_append_right _ (List.mem_append_left _ hp))), fun p hp => ?_⟩, fp_led hIo4 hDo4 N11 (.tail _ (.tail _ (.tail _ (.tail _ (.head _))))) (.tail _ (.tail _ (.tail _ (.head _))))⟩
              · rcases List.mem_cons.mp hp with rfl | hp
                · exact ⟨Nat.lt_trans hLI a3, by rw [← hIe]; exact Nat.ne_of_gt a3, by rw [← hIe2]; exact Nat.ne_of_gt a2, by rw [← hIe4]; exact Nat.ne_of_gt a1⟩
                · exact hT4 p hp
            case ldone =>
              rintro h tk3 ⟨m3, od3, kvs3, Tn3, F, hmk3, hml3, N, hO3, hR3, hT4⟩
              rw [hul] at hR3
              clear F9 N9
              dsimp only
              k_steps
              have hok := lt_none hhi hlt hul htold
              subst hRb
              exact ⟨_, _, rfl, ⟨_, tellM f2 r.1 q.1 (q.2 + 1 - q.1), od3, kvs3, Tn3, by rw [e2, contF_ok hok], F, hmk3, hml3, news_sub N (by with_reducible ((repeat' first | refine Mine.sub_cons ?_ ?_ | refine Mine.sub_app ?_ ?_ | exact Mine.sub_nil); all_goals first | exact Mine.mm0 | exact Mine.mm1 | exact Mine.mm2 | exact Mine.mm3 | exact Mine.mm4 | exact Mine.mm5 | exact Mine.mm6 | exact Mine.mm7 | exact Mine.mm8 | exact Mine.mm9 | exact Mine.mm10 | exact Mine.mm11 | exact Mine.mm12 | exact Mine.mm13 | exact Mine.sub_rfl | exact Mine.apL | exact Mine.apR | exact Mine.apRL | exact Mine.apRR | exact Mine.apRRL | exact Mine.apRRR | ((first | refine Mine.up14 ?_ | refine Mine.up13 ?_ | refine Mine.up12 ?_ | refine Mine.up11 ?_ | refine Mine.up10 ?_ | refine Mine.up9 ?_ | refine Mine.up8 ?_ | refine Mine.up7 ?_ | refine Mine.up6 ?_ | refine Mine.up5 ?_ | refine Mine.up4 ?_ | refine Mine.up3 ?_ | refine Mine.up2 ?_ | refine Mine.up1 ?_); first | exact Mine.sub_rfl | exact Mine.apL | exact Mine.apR | exact Mine.apRL | exact Mine.apRR | exact Mine.apRRL | exact Mine.apRRR))), hO3, hR3, (fun p hp => (hT4 p hp).1), (fun p hp => (hT4 p hp).2.1), fun p hp => (hT4 p hp).2.2.1⟩, fp_list hIo2 hb0 (hTg _ hm2) F N (.tail _ (.tail _ (.tail _ (.head _))))⟩
          · have hzn : (!(List.map PyData.int zs).isEmpty) = true := by
              cases hzs with
              | nil => exact absurd (hys.mp rfl) htold
              | cons n t r => rfl
            have herr := lt_some hhi hlt hul htold
            rw [hzn]
            k_steps
            subst hRb hRa hQq
            refine hQ _ _ _ od2 kvs2 Tn2 f2 (.inr ⟨_, _, by rw [e2, contF_err herr], rfl⟩) (kept_end hg hs0 F8 fun z hz hn => absurd (by rw [List.mem_singleton.mp hz]; exact .head _) hn) (N8.get (.tail _ (.tail _ (.tail _ (.tail _ (.head _)))))) hO2 hR2 fun p hp => ⟨N8.get (.tail _ (.tail _ (.tail _ (.tail _ (.tail _ (.tail _ (.tail _ (.tail _ hp)))))))), get_none_of_le (Nat.le_of_lt (Nat.lt_of_le_of_lt hL (hT1 p hp)))⟩
    case idone =>
      rintro h tk ⟨m2, f2, od2, kvs2, Tn2, e2, F, hmk2, hml2, N, hO2, hR2, hT1, hT2, hT3⟩
      rw [List.drop_eq_nil_of_le (by omega), contF_nil] at e2
      clear F2 N2
      dsimp only
      k_steps
      subst hRa
      exact ⟨_, _, rfl, ⟨m2, f2, od2, kvs2, Tn2, e2, F, news_sub N (by with_reducible ((repeat' first | refine Mine.sub_cons ?_ ?_ | refine Mine.sub_app ?_ ?_ | exact Mine.sub_nil); all_goals first | exact Mine.mm0 | exact Mine.mm1 | exact Mine.mm2 | exact Mine.mm3 | exact Mine.mm4 | exact Mine.mm5 | exact Mine.mm6 | exact Mine.mm7 | exact Mine.mm8 | exact Mine.mm9 | exact Mine.mm10 | exact Mine.mm11 | exact Mine.mm12 | exact Mine.mm13 | exact Mine.sub_rfl | exact Mine.apL | exact Mine.apR | exact Mine.apRL | exact Mine.apRR | exact Mine.apRRL | exact Mine.apRRR | ((first | refine Mine.up14 ?_ | refine Mine.up13 ?_ | refine Mine.up12 ?_ | refine Mine.up11 ?_ | refine Mine.up10 ?_ | refine Mine.up9 ?_ | refine Mine.up8 ?_ | refine Mine.up7 ?_ | refine Mine.up6 ?_ | refine Mine.up5 ?_ | refine Mine.up4 ?_ | refine Mine.up3 ?_ | refine Mine.up2 ?_ | refine Mine.up1 ?_); first | exact Mine.sub_rfl | exact Mine.apL | exact Mine.apR | exact Mine.apRL | exact Mine.apRR | exact Mine.apRRL | exact Mine.apRRR))), hO2, hR2, hT1, hT2⟩, fp_list hIo hrl0 (hTg _ hm) F N (.tail _ (.tail _ (.head _)))⟩
  case done =>
    rintro h tk ⟨m0, f', od', kvs', Tn, e1, F, N, hO', hR', hTn'⟩
    clear F' N'
    dsimp only
    k_steps
    rw [List.drop_eq_nil_of_le (by omega)] at e1
    subst hQq
    refine hQ _ _ .none od' kvs' Tn f' (.inl ⟨e1, rfl⟩) (kept_end hg hs0 F fun z hz hn => absurd (by rw [List.mem_singleton.mp hz]; exact .head _) hn) (N.get (.head _)) hO' hR' fun p hp => ⟨N.get (.tail _ (.tail _ hp)), get_none_of_le (Nat.le_of_lt (Nat.lt_of_le_of_lt hL (hTn'.1 p hp)))⟩
end
end Mine
end
section
open PySem PySem.W PyProof.Rows PySem.Calls PySem.Spec
set_option Elab.async false
set_option maxRecDepth 100000
set_option maxHeartbeats 4000000
local macro_rules | `(tactic| walk_at "exec For Name Call cons nil") => `(tactic| (k_here; k_dflt (refine' Mine.for_open ?_)))
local macro_rules | `(tactic| walk_at "exec For Name Name cons nil") => `(tactic| (k_here; k_dflt (refine' Mine.for_open ?_)))
local macro_rules | `(tactic| walk_at "exec For Tuple Name cons nil") => `(tactic| (k_here; k_dflt (refine' Mine.for_open ?_)))
local macro_rules | `(tactic| walk_at "subscriptTail") => `(tactic| (k_here; (with_reducible show wpAny _ _ (subscriptTail _ _ (Value.ref _) (Value.int _ _)) _ _ _); k_dflt (refine' item_listL ?k1 ?k2 ?k3 ?k4 ?_; (case k1 => is_list); (case k4 => with_reducible assumption); (case k2 => omega); (case k3 => omega); k_whole)))
local macro_rules | `(tactic| walk_at "subscriptTail Name Name str int") => `(tactic| (k_here; (with_reducible show wpAny _ _ (subscriptTail _ _ (Value.str _ _) (Value.int _ _)) _ _ _); k_dflt (refine' KXi.item (n := 26) ?a ?b ?c ?d ?_; (case a => decide); (case b => omega); (case c => omega); (case d => decide); k_whole); intro _))
local macro_rules | `(tactic| k_all) => `(tactic| (refine fun p hp => ?_; with_reducible assumption))
local macro_rules | `(tactic| k_all) => `(tactic| with_reducible assumption)
local macro_rules | `(tactic| walk_at "compareOp In int ref") => `(tactic| (k_here; k_dflt (refine' kda_in (knd := PySem.intKind _ _) ?N ?m ?d ?lo ?k _ ?b ?_; (case N => k_asm); (case m => k_mem); (case d => k_asm); (case lo => k_asm); (case k => exact intKind_is _ _ _ _); (case b => with_reducible assumption); k_whole)))
local macro_rules | `(tactic| walk_at "getMethod ref") => `(tactic| (k_here; (with_reducible show wpAny _ _ (getMethod (Value.ref _) (Str.ofString "get") _) _ _ _); k_dflt (refine' kdg_method (knd := PySem.intKind _ _) ?N ?m ?d ?_; (case N => k_asm); (case m => k_mem); (case d => k_asm); k_whole)))
local macro_rules | `(tactic| walk_at "call builtin:dict.get") => `(tactic| (k_here; k_dflt (refine' kdg_get2 (knd := PySem.intKind _ _) ?N ?m ?d ?lo ?k _ ?v ?_; (case N => k_asm); (case m => k_mem); (case d => k_asm); (case lo => k_asm); (case k => exact intKind_is _ _ _ _); (case v => with_reducible assumption); k_whole); (try dsimp only [Option.getD])))
local macro_rules | `(tactic| walk_at "compareOp Eq ref ref") => `(tactic| (k_here; k_dflt (refine Mine.held ?_)))
local macro_rules | `(tactic| walk_at "compareOp NotEq ref ref") => `(tactic| (k_here; k_dflt (refine Mine.held ?_)))
local macro_rules | `(tactic| walk_at "subscriptTail") => `(tactic| (k_here; (fail_if_success (with_reducible show wpAny _ _ (subscriptTail (PySem.Expr.Name _ _) _ _ _) _ _ _)); k_dflt (refine Mine.turn ?_)))
local macro_rules | `(tactic| walk_at "exec Assign") => `(tactic| (k_here; (with_reducible show wpAny _ _ (exec (Stmt.Assign [Expr.Name _ _] _ _) _) _ _ _); k_dflt (refine wpAny_Assign_Name ?_)))
local macro_rules | `(tactic| walk_at "eval Name") => `(tactic| (k_here; k_dflt (refine' ld ?k1 ?k2 ?_; (case k1 => k_asm); (case k2 => first | exact rfl | assumption); k_whole)))
local macro_rules | `(tactic| walk_at "getAttr ref") => `(tactic| (k_here; k_dflt (refine' get_own ?k1 ?k2 ?k3 ?k4 ?k5 ?k6 ?k7 ?k8 ?k9 ?_; (case k1 => k_asm); (case k2 => k_asm); (case k3 => k_inst); (case k4 => k_is); (case k5 => k_is); (case k6 => k_is); (case k7 => k_is); (case k8 => k_get); (case k9 => k_handed); k_whole)))

namespace Mine
section
variable {w : World} {pg : Program} {loose : List Str} {mean : ExcName → Option Value} {mg mb : Str → Option Value}

theorem reads_first {h : Heap} {D : Addr} {t : Tok} {k : Int} (hk : k ≠ 5) (ho : h.get? D = some { cls := .type "tuple", data := .seq #[.int k t, .none] }) : Reads h (.ref D) (ruleD k) [] := by
  unfold ruleD lenD
  rw [if_neg hk]
  exact .tuple ho rfl rfl (.cons (.int _ _) (.cons .none .nil))
theorem letterX : ∀ i, i < 26 → (letter i ++ "X").length = 2 ∧ Txt.find "ABCDEFGHIJKLMNOPQRSTUVWXYZ" (Txt.item (letter i ++ "X") 0) = (i : Int) := by decide +kernel
theorem al_kind {f : St} {i : Nat} (h : f i = none) : kindAt f i = dflt i := by unfold kindAt; rw [h]; rfl
theorem al_some {f : St} {i : Nat} {k : Int} (h : f i = some k) : kindAt f i = k := by unfold kindAt; rw [h]; rfl
theorem al_d0 {i : Nat} (h : i < 8) : ruleD (dflt i) = ruleD 1 := congrArg ruleD (show dflt i = _ by unfold dflt; rw [if_neg (by omega)])
theorem al_d1 {i : Nat} (h : 8 ≤ i ∧ i < 14) : ruleD (dflt i) = ruleD 0 := congrArg ruleD (show dflt i = _ by unfold dflt; rw [if_pos h])
theorem al_d2 {i : Nat} (h : 14 ≤ i) : ruleD (dflt i) = ruleD 1 := congrArg ruleD (show dflt i = _ by unfold dflt; rw [if_neg (by omega)])
theorem al_cut (i : Nat) : i < 8 ∨ (8 ≤ i ∧ i < 14) ∨ 14 ≤ i := by omega
theorem al_case {kvs : List (Int × Value)} {f : St} {T2 : Led} {h : Heap} {i : Nat} (hW : OwnIn T2 kvs f) (hT2 : Bears h T2) (hi : i < 26) : (f i = none ∧ valueAt kvs ((0 : Int) + (i : Int)) = none) ∨ ∃ k u, f i = some k ∧ valueAt kvs ((0 : Int) + (i : Int)) = some (.ref u) ∧ ReadsIn T2 (.ref u) (ruleD k) := by
  rw [Int.zero_add]
  cases hfi : f i with
  | none => exact .inl ⟨rfl, hW.told_none hi hfi⟩
  | some k =>
    obtain ⟨u, hu, hr⟩ := hW.told_some hi hfi
    obtain ⟨ub, _, _, _, _, rfl, _⟩ := reads_rule_inv (hr h hT2)
    exact .inr ⟨k, ub, rfl, hu, hr⟩
inductive AlJ (g : Heap) (L' x d : Addr) (led : Led) (h : Heap) : Prop
  | mk (m : Str → Option Value) (F : Fr g L' h m) (hmo : m "own" = some (.ref d)) (hmi : m "implicit" = some (.ref x)) (N : News g L' h led) : AlJ g L' x d led h
theorem alike_spec ⦃dp un : Nat⦄ ⦃gd : Option (List Code)⦄ ⦃cn : Str⦄ ⦃cs : Scope⦄ ⦃L a : Addr⦄ ⦃ccd : Value⦄ ⦃cl : List (Str × Addr)⦄ ⦃outer : List Env⦄ ⦃A₀ : Around⦄ ⦃base h₀ : Heap⦄ ⦃m : Str → Option Value⦄ ⦃s : Shared⦄ ⦃Q E : Value → Shared → Prop⦄
    {x dx lr lt d : Addr} {t1 t2 : Tok} {n nr nt : Nat} {rules : List Value} {f : St} {T T2 : Led} {od : Obj} {kvs : List (Int × Value)}
    (H : Here w pg loose mean mg mb cs A₀ base h₀ outer L m s.heap) (hdp : dp + 20 < 900) (hun : un + 100 < 9000)
    (N : News h₀ L s.heap [(lr, W.listOf rules.toArray nr), (lt, W.listOf (boolsOf f).toArray nt), (x, instObj 89 dx), (dx, impDict w lr lt t1 t2 n), (d, od)]) (hR : RulesIn T rules f) (hT : Bears s.heap T)
    (hO : OwnO w od kvs) (lo' : (d == sysModules) = false) (hW : OwnIn T2 kvs f) (hT2 : Bears s.heap T2)
    (hQ : ∀ h' tk, Kept [] s.heap h' → Q (.bool true) { s with heap := h', toks := tk }) :
    wpAny (model PySem.Challenge.rw_pq0349_01.row.prog w) (ktrTop dp un gd cn cs L a ccd cl outer) (call (.ref 224) [.ref x, .ref d]) Q E s := by
  have B := H.B
  have F := H.F
  have X := H.X
  have T0 := H.T
  have hk := H.hk
  revert X; k_fill; intro X
  refine wpAny_call ?_
  k_dflt (refine' Mine.enterP [("own", .ref d), ("implicit", .ref x)] ?k1 ?k2 ?k3 ?k4 ?k5 ?kA ?kF ?kK ?k6 ?k7 ?k8 ?k9 ?kB ?kbody ?c2 ?c3 ?c4 ?c5; (case kA => exact rfl); (case kF => exact rfl); (case kK => assumption); (case k1 => assumption); (case k2 => assumption); (case k3 => assumption); (case k4 => assumption); (case k5 => assumption); (case k6 => k_is); (case k7 => k_is); (case k8 => (show @LT.lt Nat _ _ 1000; (try dsimp only [ktrTop]); omega)); (case k9 => exact BindsTo.of_eq rfl); (case c5 => decide); (case kB => exact locs rfl); (case c2 => exact rfl); (case c3 => exact rfl); (case c4 => exact rfl); k_whole)
  intro g L' h₁ tk0 hg hL F' N' B' X' T'
  simp only [Mine.bindM] at F'
  have hs0 : ∀ p ∈ [(lr, W.listOf rules.toArray nr), (lt, W.listOf (boolsOf f).toArray nt), (x, instObj 89 dx), (dx, impDict w lr lt t1 t2 n), (d, od)], s.heap.get? p.1 = some p.2 := fun p hp => (N p hp).1
  have hrl : rules.length = 26 := hR.1
  have hlen26 : (boolsOf f).length = 26 := by simp [boolsOf]
  have hkl := hW.len
  clear B F X T0 N
  (try dsimp only)
  refine gen1 ?_
  intro Qq hQq
  refine letAE ?_
  intro Aq Eq
  k_steps
  rename Fr _ _ _ _ => F1
  rename IsRange _ _ _ _ _ _ _ _ => hRg
  rename News _ _ _ _ => N1
  rename Heap => h5
  have hI : @LT.lt Nat _ L' h5.objs.size := F1.ns.lt
  have hz := sizes5 N1
  refine loop_range (n := 26) (fun _ => AlJ g L' x d [(lr, W.listOf rules.toArray nr), (lt, W.listOf (boolsOf f).toArray nt), (x, instObj 89 dx), (dx, impDict w lr lt t1 t2 n), (d, od)]) hRg rfl (by decide) (by decide) ?j0 ?stable ?turn ?done
  case j0 => exact ⟨_, F1, rfl, rfl, N1⟩
  case stable =>
    rintro i h h' ⟨m, F, hmo, hmi, N⟩ kp
    exact ⟨m, fr_stable F hI kp, hmo, hmi, news_stable N kp (sz5 hz all_nil)⟩
  case turn =>
    intro i h tk t9 I oI hi HJ hIe hIo hIc
    refine genT ?_
    intro Ra hRa
    refine byG fun GG kG => ?_
    obtain ⟨m, F, hmo, hmi, N⟩ := HJ
    obtain ⟨v, hv, hrv⟩ := hR.2 i hi
    obtain ⟨ra, _, _, _, _, rfl, _⟩ := reads_rule_inv (hrv s.heap hT)
    refine kG ?_
    clear kG
    have hti : (boolsOf f)[((0 : Int) + (i : Int)).toNat]? = some (.bool (f i).isSome) := to0.symm ▸ bool_at hi
    have NI := news_more F (by rw [hIe]; exact hI) hIo N
    clear F1 N1 hRg N
    dsimp only at hIe ⊢
    refine wpAny_assign_Name (stN F NI (fun h1' F2 N2 => ?_))
    clear NI F
    have hnm := item_i hi
    have hcase := al_case hW hT2 hi
    have hmem4 : ∀ {D : Addr} {o : Obj}, ∀ p ∈ [(lr, W.listOf rules.toArray nr), (lt, W.listOf (boolsOf f).toArray nt), (x, instObj 89 dx), (dx, impDict w lr lt t1 t2 n)], p ∈ ((D, o) :: (I, oI) :: [(lr, W.listOf rules.toArray nr), (lt, W.listOf (boolsOf f).toArray nt), (x, instObj 89 dx), (dx, impDict w lr lt t1 t2 n), (d, od)]) := sub_cons mm2 (sub_cons mm3 (sub_cons mm4 (sub_cons mm5 sub_nil)))
    have hmem5 : ∀ {D : Addr} {o : Obj}, ∀ p ∈ [(lr, W.listOf rules.toArray nr), (lt, W.listOf (boolsOf f).toArray nt), (x, instObj 89 dx), (dx, impDict w lr lt t1 t2 n), (d, od)], p ∈ ((D, o) :: (I, oI) :: [(lr, W.listOf rules.toArray nr), (lt, W.listOf (boolsOf f).toArray nt), (x, instObj 89 dx), (dx, impDict w lr lt t1 t2 n), (d, od)]) := tl2
    rcases al_cut i with h8 | h8 | h8
    · k_steps
      rename Fr _ _ _ _ => F3
      rename News _ _ _ _ => N3
      rename_i Dn _ lD _ _ _ _ _
      rw [hnm]
      refine of_spec (i := i) (v := .ref ra) ⟨B', F3, H.XB, H.TB, rfl⟩ (by show _ + 5 < 900; dsimp only [ktrTop]; omega) (news_sub N3 hmem4) hi (letterX i hi).1 (letterX i hi).2 hrl hv fun h6 tk6 k6 => ?_
      have F4 := fr_kept F3 k6 (fun a ha => nomatch ha)
      have N4 := news_kept N3 k6 (fun p hp h => nomatch h)
      have hdf := al_d0 h8
      clear F3 N3 k6
      dsimp only
      rcases hcase with ⟨hfi, hval⟩ | ⟨k, u, hfi, hval, hru⟩
      · have hbin : (valueAt kvs ((0 : Int) + (i : Int))).isSome = false := by rw [hval]; rfl
        rw [hfi] at hti
        simp only [Option.isSome_none] at hti
        k_steps
        rename Fr _ _ _ _ => F5
        rename News _ _ _ _ => N5
        refine unheld ?_
        have hK := (kept_four hg hs0 F5 N5 hmem5).all
        have rD := reads_first (by decide) (N5.get (.head _))
        rw [← hdf] at rD
        have rR := hrv _ (hT.keeps hK)
        rw [al_kind hfi] at rR
        refine SeqAt.compareNe_shaped rR rD shaped_rule shaped_rule (by show un + 3 + 64 < 9900; omega) ?_
        clear rD rR hK hdf
        rw [eqv_rule, decide_eq_true rfl]
        k_steps
        rename Fr _ _ _ _ => F7
        rename News _ _ _ _ => N7
        subst hRa
        exact ⟨_, _, rfl, ⟨_, F7, hmo, hmi, news_sub N7 tl2⟩, fp_one hIo N7 mm1⟩
      · have hbin : (valueAt kvs ((0 : Int) + (i : Int))).isSome = true := by rw [hval]; rfl
        rw [hfi] at hti
        simp only [Option.isSome_some] at hti
        k_steps
        rename Fr _ _ _ _ => F5
        rename News _ _ _ _ => N5
        refine unheld ?_
        have hK := (kept_four hg hs0 F5 N5 hmem5).all
        have rD := hru _ (hT2.keeps hK)
        have rR := hrv _ (hT.keeps hK)
        rw [al_some hfi] at rR
        refine SeqAt.compareNe_shaped rR rD shaped_rule shaped_rule (by show un + 3 + 64 < 9900; omega) ?_
        clear rD rR hK hdf
        rw [eqv_rule, decide_eq_true rfl]
        k_steps
        rename Fr _ _ _ _ => F7
        rename News _ _ _ _ => N7
        subst hRa
        exact ⟨_, _, rfl, ⟨_, F7, hmo, hmi, news_sub N7 tl2⟩, fp_one hIo N7 mm1⟩
    · k_steps
      rename Fr _ _ _ _ => F3
      rename News _ _ _ _ => N3
      rename_i Dn _ lD _ _ _ _ _
      rw [hnm]
      refine of_spec (i := i) (v := .ref ra) ⟨B', F3, H.XB, H.TB, rfl⟩ (by show _ + 5 < 900; dsimp only [ktrTop]; omega) (news_sub N3 hmem4) hi (letterX i hi).1 (letterX i hi).2 hrl hv fun h6 tk6 k6 => ?_
      have F4 := fr_kept F3 k6 (fun a ha => nomatch ha)
      have N4 := news_kept N3 k6 (fun p hp h => nomatch h)
      have hdf := al_d1 h8
      clear F3 N3 k6
      dsimp only
      rcases hcase with ⟨hfi, hval⟩ | ⟨k, u, hfi, hval, hru⟩
      · have hbin : (valueAt kvs ((0 : Int) + (i : Int))).isSome = false := by rw [hval]; rfl
        rw [hfi] at hti
        simp only [Option.isSome_none] at hti
        k_steps
        rename Fr _ _ _ _ => F5
        rename News _ _ _ _ => N5
        refine unheld ?_
        have hK := (kept_four hg hs0 F5 N5 hmem5).all
        have rD := reads_first (by decide) (N5.get (.head _))
        rw [← hdf] at rD
        have rR := hrv _ (hT.keeps hK)
        rw [al_kind hfi] at rR
        refine SeqAt.compareNe_shaped rR rD shaped_rule shaped_rule (by show un + 3 + 64 < 9900; omega) ?_
        clear rD rR hK hdf
        rw [eqv_rule, decide_eq_true rfl]
        k_steps
        rename Fr _ _ _ _ => F7
        rename News _ _ _ _ => N7
        subst hRa
        exact ⟨_, _, rfl, ⟨_, F7, hmo, hmi, news_sub N7 tl2⟩, fp_one hIo N7 mm1⟩
      · have hbin : (valueAt kvs ((0 : Int) + (i : Int))).isSome = true := by rw [hval]; rfl
        rw [hfi] at hti
        simp only [Option.isSome_some] at hti
        k_steps
        rename Fr _ _ _ _ => F5
        rename News _ _ _ _ => N5
        refine unheld ?_
        have hK := (kept_four hg hs0 F5 N5 hmem5).all
        have rD := hru _ (hT2.keeps hK)
        have rR := hrv _ (hT.keeps hK)
        rw [al_some hfi] at rR
        refine SeqAt.compareNe_shaped rR rD shaped_rule shaped_rule (by show un + 3 + 64 < 9900; omega) ?_
        clear rD rR hK hdf
        rw [eqv_rule, decide_eq_true rfl]
        k_steps
        rename Fr _ _ _ _ => F7
        rename News _ _ _ _ => N7
        subst hRa
        exact ⟨_, _, rfl, ⟨_, F7, hmo, hmi, news_sub N7 tl2⟩, fp_one hIo N7 mm1⟩
    · k_steps
      rename Fr _ _ _ _ => F3
      rename News _ _ _ _ => N3
      rename_i Dn _ lD _ _ _ _ _
      rw [hnm]
      refine of_spec (i := i) (v := .ref ra) ⟨B', F3, H.XB, H.TB, rfl⟩ (by show _ + 5 < 900; dsimp only [ktrTop]; omega) (news_sub N3 hmem4) hi (letterX i hi).1 (letterX i hi).2 hrl hv fun h6 tk6 k6 => ?_
      have F4 := fr_kept F3 k6 (fun a ha => nomatch ha)
      have N4 := news_kept N3 k6 (fun p hp h => nomatch h)
      have hdf := al_d2 h8
      clear F3 N3 k6
      dsimp only
      rcases hcase with ⟨hfi, hval⟩ | ⟨k, u, hfi, hval, hru⟩
      · have hbin : (valueAt kvs ((0 : Int) + (i : Int))).isSome = false := by rw [hval]; rfl
        rw [hfi] at hti
        simp only [Option.isSome_none] at hti
        k_steps
        rename Fr _ _ _ _ => F5
        rename News _ _ _ _ => N5
        refine unheld ?_
        have hK := (kept_four hg hs0 F5 N5 hmem5).all
        have rD := reads_first (by decide) (N5.get (.head _))
        rw [← hdf] at rD
        have rR := hrv _ (hT.keeps hK)
        rw [al_kind hfi] at rR
        refine SeqAt.compareNe_shaped rR rD shaped_rule shaped_rule (by show un + 3 + 64 < 9900; omega) ?_
        clear rD rR hK hdf
        rw [eqv_rule, decide_eq_true rfl]
        k_steps
        rename Fr _ _ _ _ => F7
        rename News _ _ _ _ => N7
        subst hRa
        exact ⟨_, _, rfl, ⟨_, F7, hmo, hmi, news_sub N7 tl2⟩, fp_one hIo N7 mm1⟩
      · have hbin : (valueAt kvs ((0 : Int) + (i : Int))).isSome = true := by rw [hval]; rfl
        rw [hfi] at hti
        simp only [Option.isSome_some] at hti
        k_steps
        rename Fr _ _ _ _ => F5
        rename News _ _ _ _ => N5
        refine unheld ?_
        have hK := (kept_four hg hs0 F5 N5 hmem5).all
        have rD := hru _ (hT2.keeps hK)
        have rR := hrv _ (hT.keeps hK)
        rw [al_some hfi] at rR
        refine SeqAt.compareNe_shaped rR rD shaped_rule shaped_rule (by show un + 3 + 64 < 9900; omega) ?_
        clear rD rR hK hdf
        rw [eqv_rule, decide_eq_true rfl]
        k_steps
        rename Fr _ _ _ _ => F7
        rename News _ _ _ _ => N7
        subst hRa
        exact ⟨_, _, rfl, ⟨_, F7, hmo, hmi, news_sub N7 tl2⟩, fp_one hIo N7 mm1⟩
  case done =>
    rintro h tk ⟨m, F, hmo, hmi, N⟩
    clear F1 N1 hRg
    dsimp only
    k_steps
    have hK0 := kept_four hg hs0 F N (fun z hz => hz)
    refine told_spec (f := f) (T := T) ⟨B', F, H.XB, H.TB, rfl⟩ (by show _ + 5 < 900; dsimp only [ktrTop]; omega) (by show _ + 70 < 9000; dsimp only [ktrTop]; omega) (news_sub N take4) hR (hT.keeps hK0.all) fun h6 tk6 v1 Tn1 Tl1 k6 fr6 hb6 hc6 ha6 => ?_
    have F4 := fr_kept F k6 (fun a ha => nomatch ha)
    have N4 := news_kept N k6 (fun p hp h => nomatch h)
    clear F N
    dsimp only
    k_steps
    have hK1 := hK0.trans k6
    refine runs_spec (f := f) (T := T2) (od := od) (kvs := kvs) ⟨B', F4, H.XB, H.TB, rfl⟩ (by show _ + 5 < 900; dsimp only [ktrTop]; omega) (by show _ + 70 < 9000; dsimp only [ktrTop]; omega) (news_sub N4 (sub_cons mm4 sub_nil)) hO lo' hW (hT2.keeps hK1.all) fun h7 tk7 v2 Tn2 Tl2 k7 fr7 hb7 hc7 ha7 => ?_
    obtain ⟨as1, r1⟩ := args_reads (h := h7) ha6 (all_app (fun p hp => k7.all _ _ (fr6 p hp).1) fun p hp => k7.all _ _ (k6.all _ _ (hb6 p hp)))
    obtain ⟨as2, r2⟩ := args_reads (h := h7) ha7 (all_app (fun p hp => (fr7 p hp).1) fun p hp => k7.all _ _ (hb7 p hp))
    dsimp only
    refine SeqAt.compareEq_shaped r1 r2 shaped_fold shaped_fold (by show un + 3 + 64 < 9900; omega) ?_
    rw [eqv_fold]
    subst hQq
    exact hQ _ _ (hK1.trans k7)
end
end Mine
end
section
open PySem PySem.W PyProof.Rows PySem.Calls PySem.Spec
set_option Elab.async false
set_option maxRecDepth 100000
set_option maxHeartbeats 4000000
local macro_rules | `(tactic| walk_at "exec For Name Call cons nil") => `(tactic| (k_here; k_dflt (refine' Mine.for_open ?_)))
local macro_rules | `(tactic| walk_at "exec For Name Name cons nil") => `(tactic| (k_here; k_dflt (refine' Mine.for_open ?_)))
local macro_rules | `(tactic| walk_at "exec For Tuple Name cons nil") => `(tactic| (k_here; k_dflt (refine' Mine.for_open ?_)))
local macro_rules | `(tactic| walk_at "call builtin:len") => `(tactic| (k_here; (with_reducible show wpAny _ _ (call (Value.builtin "len") [Value.ref _]) _ _ _); (refine' len_list ?k1 ?k2 ?_; (case k1 => is_list); (case k2 => (simp only [List.size_toArray]; omega))); (try simp only [List.size_toArray])))
local macro_rules | `(tactic| k_all) => `(tactic| (refine fun p hp => ?_; with_reducible assumption))
local macro_rules | `(tactic| k_all) => `(tactic| with_reducible assumption)
local macro_rules | `(tactic| walk_at "compareOp NotEq str str") => `(tactic| (k_here; k_dflt (refine Mine.held ?_)))
local macro_rules | `(tactic| walk_at "subscriptTail") => `(tactic| (k_here; (fail_if_success (with_reducible show wpAny _ _ (subscriptTail (PySem.Expr.Name _ _) _ _ _) _ _ _)); k_dflt (refine Mine.turn ?_)))
local macro_rules | `(tactic| walk_at "exec Assign") => `(tactic| (k_here; (with_reducible show wpAny _ _ (exec (Stmt.Assign [Expr.Name _ _] _ _) _) _ _ _); k_dflt (refine wpAny_Assign_Name ?_)))
local macro_rules | `(tactic| walk_at "getAttr ref") => `(tactic| (k_here; k_dflt (refine' get_own ?k1 ?k2 ?k3 ?k4 ?k5 ?k6 ?k7 ?k8 ?k9 ?_; (case k1 => k_asm); (case k2 => k_asm); (case k3 => k_inst); (case k4 => k_is); (case k5 => k_is); (case k6 => k_is); (case k7 => k_is); (case k8 => k_get); (case k9 => k_handed); k_whole)))
local macro_rules | `(tactic| walk_at "eval Name") => `(tactic| (k_here; k_dflt (refine' nameX_L ?k1 ?k2 ?_; (case k1 => k_asm); (case k2 => first | exact rfl | assumption); k_whole)))
local macro_rules | `(tactic| k_ne) => `(tactic| with_reducible (first | assumption | (refine Ne.symm ?_; assumption)))
namespace Mine
theorem fresh_off {h h' : Heap} {Tn : Led} (fr : Fresh h h' Tn) {X : List Addr} (hX : ∀ a ∈ X, ∃ o, h.get? a = some o) : ∀ p ∈ Tn, p.1 ∉ X := fun p hp hm => by
  obtain ⟨o, e⟩ := hX _ hm
  have := (fr p hp).2
  rw [e] at this; cases this
local macro_rules | `(tactic| walk_at "CompSrc") => `(tactic| (k_here; k_dflt (refine Mine.held ?_)))
abbrev topA (dp un : Nat) (gd : Option (List Code)) : Around := { handled := none, depth := dp, frames := some [], guards := gd, units := un }

theorem got {g h : Heap} {L a : Addr} {o : Obj} {N : Led} (x : News g L h N) (m : (a, o) ∈ N) : ∃ o, h.get? a = some o := ⟨_, x.get m⟩
theorem not_in4 {a x y z u : Addr} (h : a ∉ [x, y, z, u]) : @Ne Nat a x ∧ @Ne Nat a y ∧ @Ne Nat a z ∧ @Ne Nat a u :=
  ⟨fun q => h (q ▸ mm0), fun q => h (q ▸ mm1), fun q => h (q ▸ mm2), fun q => h (q ▸ mm3)⟩
theorem not_in7 {a x y z u v s t : Addr} (h : a ∉ [x, y, z, u, v, s, t]) : @Ne Nat a x ∧ @Ne Nat a y ∧ @Ne Nat a z ∧ @Ne Nat a u ∧ @Ne Nat a v ∧ @Ne Nat a s ∧ @Ne Nat a t :=
  ⟨fun q => h (q ▸ mm0), fun q => h (q ▸ mm1), fun q => h (q ▸ mm2), fun q => h (q ▸ mm3), fun q => h (q ▸ mm4), fun q => h (q ▸ mm5), fun q => h (q ▸ mm6)⟩
theorem in5 {a x y z u v : Addr} (h1 : @Ne Nat a x) (h2 : @Ne Nat a y) (h3 : @Ne Nat a z) (h4 : @Ne Nat a u) (h5 : @Ne Nat a v) : a ∉ [x, y, z, u, v] := fun h => by
  simp only [List.mem_cons, List.not_mem_nil, or_false] at h
  rcases h with h | h | h | h | h
  · exact h1 h
  · exact h2 h
  · exact h3 h
  · exact h4 h
  · exact h5 h
theorem off_of {X : List Addr} {T : Led} (h : ∀ p ∈ T, p.1 ∉ X) {a : Addr} (m : a ∈ X) : ∀ p ∈ T, p.1 ≠ a := fun p hp q => h p hp (q ▸ m)
theorem off_ne {X : List Addr} {T : Led} {a : Addr} (h : ∀ p ∈ T, p.1 ∉ X) (m : a ∈ X) : ∀ p ∈ T, @Ne Nat p.1 a := off_of h m
theorem off_two {X : List Addr} {T : Led} {a b : Addr} (h : ∀ p ∈ T, p.1 ∉ X) (m : a ∈ X) (m' : b ∈ X) : ∀ p ∈ T, p.1 ≠ a ∧ p.1 ≠ b := fun p hp => ⟨off_of h m p hp, off_of h m' p hp⟩
theorem bears_sub {g h : Heap} {L : Addr} {N T : Led} (x : News g L h N) (s : ∀ p ∈ T, p ∈ N) : Bears h T := fun p hp => x.get (s p hp)
theorem wb1 {k r : Int} {i : Nat} (h : k ≤ 13 + 41 * (i : Int)) (hi : i < r.toNat) (hr : r < 6) : k < 900 := by omega
theorem wb2 {k k' : Int} {i : Nat} (h : k ≤ 13 + 41 * (i : Int)) (h' : k' ≤ k + 40) : k' ≤ 13 + 41 * ((i + 1 : Nat) : Int) := by omega
theorem wb3 {r : Int} (h0 : 0 ≤ r) (h : r < 6) : Builtin.Range.small 0 r 1 = true ∧ Builtin.Range.rangeSize 0 r 1 = (r.toNat : Int) := ⟨small_of (by omega) (by omega) (by omega) (by omega), size_of (by omega)⟩
theorem same_told {f' f2 : St} {eo : Option Str} {hv v2 : Value} {x : St × Option Str} (hadd : x = (f', eo)) (hhv : (eo = none ∧ hv = Value.none) ∨ ∃ y ty, eo = some y ∧ hv = .str y ty)
    (hor : (x = (f2, none) ∧ v2 = .none) ∨ ∃ y t, x = (f2, some y) ∧ v2 = .str y t) : f2 = f' ∧ ((hv = .none ∧ v2 = .none) ∨ ∃ y t1 t2, hv = .str y t1 ∧ v2 = .str y t2) := by
  subst hadd
  rcases hor with ⟨h1, rfl⟩ | ⟨y, t1, h1, rfl⟩
  · obtain ⟨rfl, rfl⟩ := Prod.mk.inj h1
    rcases hhv with ⟨_, rfl⟩ | ⟨y, ty, hy, _⟩
    · exact ⟨rfl, .inl ⟨rfl, rfl⟩⟩
    · cases hy
  · obtain ⟨rfl, rfl⟩ := Prod.mk.inj h1
    rcases hhv with ⟨hy, _⟩ | ⟨y', ty, hy, rfl⟩
    · cases hy
    · cases hy; exact ⟨rfl, .inr ⟨y, ty, t1, rfl, rfl⟩⟩
inductive WEnd (g : Heap) (L : Addr) (s₁ : Shared) (f : Flow) (s' : Shared) : Prop
  | mk (h' : Heap) (tk : Nat) (m' : Str → Option Value) (ps : Array Value) (ef : f = .ret (.bool true)) (es : s' = { s₁ with heap := h', toks := tk }) (F : Fr g L h' m') (N : News g L h' [(193, tabObj ps)]) : WEnd g L s₁ f s'
inductive WJ2 (wld : World) (g : Heap) (L pl D ilr ilt ix idx d : Addr) (ws : List Value) (oP : Obj) (ps : Array Value) (it1 it2 : Tok) (iN : Nat) (sz : Nat) (i : Nat) (h : Heap) : Prop
  | mk (m : Str → Option Value) (kk : Int) (tt : Tok) (nn : Nat) (f : St) (irs : List Value) (inr intt : Nat) (od : Obj) (kvs : List (Int × Value)) (iT : Led) (hkk0 : 0 ≤ kk) (hkk1 : kk ≤ 13 + 41 * (i : Int)) (F : Fr g L h m) (hmi : m "implicit" = some (.ref ix)) (hmo : m "own" = some (.ref d))
     (N : News g L h ((pl, W.listOf #[.ref D, .int (kk) tt] nn) :: (D, W.listOf ws.toArray 0) :: (L + 1, oP) :: (193, tabObj ps) :: (ilr, W.listOf (irs : List Value).toArray inr) :: (ilt, W.listOf (boolsOf f).toArray intt) :: (ix, instObj 89 idx) :: (idx, impDict wld ilr ilt it1 it2 iN) :: (d, od) :: iT)) (hR : RulesIn iT irs f) (hO : OwnO wld od kvs) (hW : OwnIn iT kvs f) (hoff : ∀ p ∈ iT, p.1 ∉ [pl, ilr, ilt, d, sz]) : WJ2 wld g L pl D ilr ilt ix idx d ws oP ps it1 it2 iN sz i h
inductive WPost (wld : World) (g : Heap) (L pl D ilr ilt ix idx d rl I : Addr) (ws : List Value) (oP od oI : Obj) (ps : Array Value) (it1 it2 : Tok) (iN : Nat) (sz : Nat) (kk' : Int) (tt' : Tok) (nn' : Nat) (f : St) (rs : List (Int × List (Nat × Nat))) (U : Led) (s₁ : Shared) (fl : Flow) (s' : Shared) : Prop
  | mk (m : Str → Option Value) (h : Heap) (tk : Nat) (hv : Value) (irs' : List Value) (inr' intt' : Nat) (f' : St) (T3 : Led) (eo : Option Str) (ef : fl = .next) (es : s' = { s₁ with heap := h, toks := tk }) (hadd : addF f rs = (f', eo)) (hhv : (eo = none ∧ hv = Value.none) ∨ ∃ y ty, eo = some y ∧ hv = .str y ty) (F : Fr g L h m)
     (hmi : m "implicit" = some (.ref ix)) (hmo : m "own" = some (.ref d)) (hmr : m "rules" = some (.ref rl)) (hmh : m "heard" = some hv)
     (N : News g L h ((pl, W.listOf #[.ref D, .int (kk') tt'] nn') :: (D, W.listOf ws.toArray 0) :: (L + 1, oP) :: (193, tabObj ps) :: (ilr, W.listOf (irs' : List Value).toArray inr') :: (ilt, W.listOf (boolsOf f').toArray intt') :: (ix, instObj 89 idx) :: (idx, impDict wld ilr ilt it1 it2 iN) :: (d, od) :: (I, oI) :: (T3 ++ U))) (hR : RulesIn (T3 ++ U) irs' f') (hT3 : ∀ p ∈ T3, p.1 ∉ [pl, ilr, ilt, d, sz]) : WPost wld g L pl D ilr ilt ix idx d rl I ws oP od oI ps it1 it2 iN sz kk' tt' nn' f rs U s₁ fl s'
theorem not_in1s {a : Addr} {l : Led} (h : ∀ p ∈ l, @Ne Nat p.1 a) : ∀ p ∈ l, p.1 ∉ [a] := fun p hp q => h p hp (List.mem_singleton.mp q)
inductive WI (pl D L : Addr) (ws : List Value) (oP : Obj) (i : Nat) (ys : List Value) (nw : Led) : Prop
  | mk (k : Int) (t : Tok) (n : Nat) (T : Led) (toks : List Tk) (e : nw = (pl, W.listOf #[.ref D, .int k t] n) :: (D, W.listOf ws.toArray 0) :: (L + 1, oP) :: (193, tabObj #[]) :: T) (hk0 : 0 ≤ k) (hk1 : k ≤ 1 + i) (htl : toks.length = i) (hys : ToksIn ys toks T) (hTp : ∀ x ∈ T, @Ne Nat x.1 pl) (hT9 : ∀ x ∈ T, @Ne Nat x.1 193) : WI pl D L ws oP i ys nw
theorem wb4 {r : Int} (h0 : 0 ≤ r) (h : r < 10) : Builtin.Range.small 0 r 1 = true ∧ Builtin.Range.rangeSize 0 r 1 = (r.toNat : Int) ∧ r.toNat ≤ 10 := ⟨small_of (by omega) (by omega) (by omega) (by omega), size_of (by omega), by omega⟩
theorem wi3 {k r : Int} {i : Nat} (h : k ≤ 1 + (i : Int)) (hi : i < r.toNat) (hr : r < 10) : k < 1000 ∧ 0 ≤ (0 : Int) + (i : Int) ∧ (0 : Int) + (i : Int) < 10 := by omega
theorem wi4 {n : Nat} (h : n ≤ 10) : Builtin.Range.small 0 ((n : Int) + 2) 1 = true := small_of (by omega) (by omega) (by omega) (by omega)
theorem wi1 {k : Int} {i : Nat} (h0 : 0 ≤ k) (h : k ≤ 1 + i) : 0 ≤ k + 1 ∧ k + 1 ≤ 1 + ((i + 1 : Nat) : Int) := by omega
inductive WJ1 (g : Heap) (L D1 pl D : Addr) (ws ys : List Value) (k : Int) (t : Tok) (n : Nat) (oP : Obj) (T : Led) (sz : Nat) (i : Nat) (h : Heap) : Prop
  | mk (m : Str → Option Value) (ps : Array Value) (x : Addr) (ox : Obj) (F : Fr g L h m) (hmt : m "tokens" = some (.ref D1)) (N : News g L h ((D1, LCg.lst ys) :: (pl, W.listOf #[.ref D, .int k t] n) :: (D, W.listOf ws.toArray 0) :: (L + 1, oP) :: (193, tabObj ps) :: (x, ox) :: T)) (hT : TabX ps x ox) (hx9 : @Ne Nat x 193) (hxd : ∀ i n, ox.data ≠ .seq i n) (hxI : @Ne Nat x sz) : WJ1 g L D1 pl D ws ys k t n oP T sz i h
theorem top : PySem.Challenge.rw_pq0349_01.Holds := by
  refine hd ?_
  w_strict (
    k_go0
    rename Shared => s₁
    rename World => wld
    rename Heap => h₁
    rename_i mg mb G Y fa o pm cd doc ho hcd hg X V T B TE TW ns hs hlay0 hLy hr hl2 was1 was2 sc vs was3 hl1 ra w1 r0 hi hr2 hlen hcond2 hD tk1 oc0 hoc0 hY X0 T0 B0 F0 N0 l0
    clear hcond2
    refine wpAny_mono (Q := WEnd (ghostOf s₁.heap [(197, 193)]) s₁.heap.objs.size s₁) ?main (fun f s' hh => ?close) (fun _ _ e => e)
    case close =>
      obtain ⟨h', tk, m', ps, rfl, rfl, F, N⟩ := hh
      clear F0 N0
      dsimp only
      k_steps
    clear G Y ho hcd hg X V T B TE TW hs hlay0 hLy hr hl2 hl1 ra w1 r0 hr2 hD hY hT8 hT9
    revert B0
    obtain ⟨A₀, eA, dp, un, gd, hA₀, hdp, hun⟩ : ∃ A₀, callerA = A₀ ∧ ∃ dp un gd, A₀ = topA dp un gd ∧ dp < 700 ∧ un < 5000 := ⟨_, rfl, _, _, _, rfl, by decide, by decide⟩
    rw [eA]
    clear eA
    subst hA₀
    intro B0
    generalize ghostOf s₁.heap [(197, 193)] = g at *
    generalize hLe : s₁.heap.objs.size = L at *
    clear hLe
    have F : Fr g L h₁ (fun y => if y = "script" then some (.ref sc) else none) := Fr.as F0 (fun y => rfl)
    clear F0
    have X := X0
    clear X0
    revert X; k_fill; intro X
    dsimp only at codeHd ⊢
    refine letAE ?_
    intro Aq Eq
    k_steps
    rename Fr _ _ _ _ => F1
    rename News _ _ _ _ => N1
    rename_i D ws hA hI hC hL2 lA pl hB lB hC2 oP d9
    have hIws := hI
    have hws : ws.length ≤ 60 := by rw [IntsAre.length hI, hC]; omega
    refine pick_spec B0 F1 X T0 rfl (by show dp + 1 < 900; omega) (news_sub N1 (n₂ := [_, _]) (fun x hx => List.mem_append_left [_, _] hx)) (Nat.ne_of_lt lB.1) hI (by rw [IntsAre.length hI, hC]; omega) (by decide) (by decide) (by decide) (by decide) fun h2 tk2 r tr t' n' hr0 hr1 k2 hp2 => ?_
    have F2 := fr_pick F1 N1 k2
    have N2 := news_pick N1 k2 hp2 (all_cons (Nat.ne_of_lt lB.1) (all_cons (Nat.ne_of_lt lB.2.1) (all_cons (Nat.ne_of_lt lB.2.2) all_nil)))
    clear F1 N1 k2 hp2
    dsimp only
    k_steps
    rename IsRange _ _ _ _ _ _ _ _ => hR
    rename Fr _ _ _ _ => F3
    rename News _ _ _ _ => N3
    refine LCg.CompSrc.range rfl F3 N3 hR (wb4 hr0 hr1).1 (wb4 hr0 hr1).2.1 (by show r.toNat ≤ _; exact Nat.le_trans (wb4 hr0 hr1).2.2 (by decide)) fun gg => ?_
    clear F3 N3 hR
    refine comp_ind r.toNat (WI pl D L ws oP) ⟨1, _, _, [], [], rfl, by decide, Int.le_refl _, rfl, ToksIn.nil, all_nil, all_nil⟩ ?turn ?fin
    case turn =>
      intro i ys nw hi' HI v I oI C oC D1 m₂ h tk E' hP hC hx F N off hne
      refine byG fun GG kG => ?_
      obtain ⟨k, t, n, T, toks, rfl, hk0, hk1, htl, hys, hTp, hT9⟩ := HI
      obtain ⟨ti, rfl⟩ := hP
      refine kG ?_
      clear kG
      dsimp only
      k_steps
      have hDp : @Ne Nat D pl := Nat.ne_of_lt lB.1
      refine token_spec ⟨B0, F, X, T0, rfl⟩ (by show dp + 1 + 5 < 900; omega) (news_sub N (n₂ := [(pl, W.listOf #[.ref D, .int k t] n), (D, W.listOf ws.toArray 0)]) (sub_cons mm3 (sub_cons mm4 sub_nil))) hDp hI hws hk0 (wi3 hk1 hi' hr1).1 (wi3 hk1 hi' hr1).2.1 (wi3 hk1 hi' hr1).2.2 fun h' tk' a o tkn kt val th n₁ t' n' kK hp' ha ho hoc hod hval hgood => ?_
      refine byG fun GG kG => ?_
      obtain ⟨⟨hIp, hCp, hDp'⟩, off'⟩ := off
      refine kG ?_
      clear kG
      have F4 := fr_kept F kK (all_cons (N _ mm3).2.symm all_nil)
      have hIa := ne_new ha (N _ mm0).1
      have hCa := ne_new ha (N _ mm1).1
      have hDa := ne_new ha (N _ mm2).1
      have hpa := ne_new ha (N _ mm3).1
      have N4 := news_tok (l1 := [(I, oI), (C, oC), (D1, LCg.lst ys)]) (l2 := [(D, W.listOf ws.toArray 0), (L + 1, oP), (193, tabObj #[])]) F N kK hp' ha ho (all_cons hIp.symm (all_cons hCp.symm (all_cons hDp'.symm all_nil))) (all_app (all_cons hDp (all_cons (Nat.ne_of_lt lB.2.1) (all_cons (Nat.ne_of_lt lB.2.2) all_nil))) hTp)
      refine LCg.CompEnd.intro F4 N4 _ (fun x hx => hx) ⟨⟨hIp, hCp, hDp'⟩, off'.1, off'.2.1, off'.2.2.1, ⟨hIa.symm, hCa.symm, hDa.symm⟩, off'.2.2.2⟩ trivial ⟨k + 1, _, _, (a, o) :: T, toks ++ [tkn], rfl, (wi1 hk0 hk1).1, (wi1 hk0 hk1).2, by simp [htl], hys.snoc hgood ⟨hoc, _, _, _, _, hod, hval⟩, all_cons hpa.symm hTp, all_cons (ne_new ha (N (193, tabObj #[]) mm6).1).symm hT9⟩
    case fin =>
      rintro ys nw ⟨k, t, n, T, toks, rfl, hk0, hk1, htl, hys, hTp, hT9⟩
      intro D1 h tk F N off
      dsimp only
      have hll : toks.length ≤ 10 := by omega
      have hyl := hys.1
      k_steps
      rename Fr _ _ _ _ => F5
      rename News _ _ _ _ => N5
      rename IsRange _ _ _ _ _ _ _ _ => hR
      rename Heap => h7
      have hI : @LT.lt Nat _ L h7.objs.size := F5.ns.lt
      have hI0 : @LT.lt Nat _ pl h7.objs.size := Heap.lt_size (N5.get mm1)
      refine loop_range (n := toks.length + 2) (WJ1 g L D1 pl D ws ys k t n oP T h7.objs.size) hR rfl ?sm ?sz ?j0 ?stable ?turn ?done
      case sm => exact small_of (by omega) (by omega) (by omega) (by omega)
      case sz => exact size_of (by omega)
      case j0 =>
        exact ⟨_, #[], L + 1, oP, F5, rfl, news_sub N5 (sub_cons mm0 (sub_cons mm1 (sub_cons mm2 (sub_cons mm3 (sub_cons mm4 (sub_cons mm3 tl5)))))), .inl rfl, Nat.ne_of_gt (Nat.lt_succ_of_lt l0), (fun i n q => by rw [d9] at q; cases q), Nat.ne_of_lt (Heap.lt_size (N5.get mm3))⟩
      case stable =>
        rintro i h h' ⟨m, ps, x, ox, F, hmt, N, hT, hx9, hxd, hxI⟩ kp
        exact ⟨m, ps, x, ox, fr_stable F hI kp, hmt, news_stable N kp (all_cons (Nat.ne_of_lt (Heap.lt_size (N5.get mm0))) (all_cons (Nat.ne_of_lt (Heap.lt_size (N5.get mm1))) (all_cons (Nat.ne_of_lt (Heap.lt_size (N5.get mm2))) (all_cons (Nat.ne_of_lt (Heap.lt_size (N5.get mm3))) (all_cons (Nat.ne_of_lt (Heap.lt_size (N5.get mm4))) (all_cons hxI (sizes N5 tl5))))))), hT, hx9, hxd, hxI⟩
      case turn =>
        intro i h tk t9 I oI hi HJ hIe hIo hIc
        refine genT ?_
        intro Ra hRa
        refine byG fun GG kG => ?_
        obtain ⟨m, ps, x, ox, F, hmt, N, hT, hx9, hxd, hxI⟩ := HJ
        refine kG ?_
        clear kG hR F5 N5
        have NI := news_more F (by rw [hIe]; exact hI) hIo N
        clear N
        dsimp only at hIe ⊢
        refine wpAny_assign_Name (storeX_L F NI (fun h1' F1' N1' => ?_))
        clear NI F
        k_steps
        refine looks_spec (hys.at N1' tl7 mm1) hys.marks hys.names (by omega) (by omega) (by omega)
          ⟨B0, F1', X, T0, rfl⟩ rfl (by show dp + 1 + 20 < 900; omega) (by show un + _ < 9000; omega) (news_sub N1' (sub_cons mm5 (sub_cons mm6 sub_nil))) codeHd hx9 hxd hT fun h' tk' ps' x' ox' kM h193 hx' hor h9' hd' hT' => ?_
        have F2 := law_fr F1' rfl kM (all_cons (N1' (193, tabObj ps) mm5).2.symm all_nil)
        have hx'2 : h'.get? x' = some ox' ∧ x' ≠ L ∧ g.get? x' = none ∧ @Ne Nat x' h7.objs.size := by
          rcases hor with ⟨rfl, rfl⟩ | hnew
          · exact ⟨hx', (N1' (x', ox') mm6).2.1, (N1' (x', ox') mm6).2.2, hxI⟩
          · have z := law_new F1' hnew hx'
            refine ⟨z.1, z.2.1, z.2.2, ?_⟩
            rw [← hIe]
            exact (ne_new hnew (N1' (I, oI) (List.Mem.head _)).1).symm
        have Nr := law_news (news_sub N1' (n₂ := (I, oI) :: (D1, LCg.lst ys) :: (pl, W.listOf #[.ref D, .int k t] n) :: (D, W.listOf ws.toArray 0) :: (L + 1, oP) :: T) (sub_cons mm0 (sub_cons mm1 (sub_cons mm2 (sub_cons mm3 (sub_cons mm4 tl7)))))) rfl kM (not_in1s (all_cons (hIe ▸ Nat.ne_of_gt (Nat.lt_trans l0 hI)) (all_cons off.2.2.2.1.symm (all_cons (Nat.ne_of_gt lB.2.2) (all_cons (Nat.ne_of_gt lA.2) (all_cons (Nat.ne_of_gt (Nat.lt_succ_of_lt l0)) hT9))))))
        have N2 : News g L h' ((I, oI) :: (D1, LCg.lst ys) :: (pl, W.listOf #[.ref D, .int k t] n) :: (D, W.listOf ws.toArray 0) :: (L + 1, oP) :: (193, tabObj ps') :: (x', ox') :: T) := all_cons (Nr _ mm0) (all_cons (Nr _ mm1) (all_cons (Nr _ mm2) (all_cons (Nr _ mm3) (all_cons (Nr _ mm4) (all_cons ⟨h193, (N1' (193, tabObj ps) mm5).2⟩ (all_cons ⟨hx'2.1, hx'2.2.1, hx'2.2.2.1⟩ fun p hp => Nr _ (tl5 p hp)))))))
        clear F1' N1' Nr kM
        dsimp only
        k_steps
        subst hRa
        exact ⟨_, _, rfl, ⟨_, ps', x', ox', F2, hmt, fun p hp => N2 p (tl1 p hp), hT', h9', hd', hx'2.2.2.2⟩, fp_one hIo N2 mm0⟩
      case done =>
        rintro h tk ⟨m, ps, x, ox, F, hmt, N, hT, hx9, hxd, hxI⟩
        clear hR F5 N5
        dsimp only
        have hLl : 193 < L := l0
        k_steps
        refine implicit_spec ⟨B0, F, X, T0, rfl⟩ (by show dp + 1 + 5 < 900; omega) fun h8 tk8 ix idx ilr ilt it1 it2 iN irs inr intt iT k8 fr8 hR8 hne8 hT8 => ?_
        have F2 := fr_kept F k8 (fun a ha => nomatch ha)
        have hold8 : ∀ a ∈ [pl, D, L + 1, 193], ∃ o, h.get? a = some o := (all_cons (got N mm1) (all_cons (got N mm2) (all_cons (got N mm3) (all_cons (got N mm4) all_nil))))
        have off8 := fresh_off fr8 hold8
        have N2 : News g L h8 ((pl, W.listOf #[.ref D, .int (k) t] n) :: (D, W.listOf ws.toArray 0) :: (L + 1, oP) :: (193, tabObj ps) :: (ilr, W.listOf (irs : List Value).toArray inr) :: (ilt, W.listOf (boolsOf (fun _ => none)).toArray intt) :: (ix, instObj 89 idx) :: (idx, impDict wld ilr ilt it1 it2 iN) :: iT) := news_sub (fr8.news F (news_kept N k8 (fun p hp h => nomatch h))) ((by with_reducible ((repeat' first | refine Mine.sub_cons ?_ ?_ | refine Mine.sub_app ?_ ?_ | exact Mine.sub_nil); all_goals first | exact Mine.mm0 | exact Mine.mm1 | exact Mine.mm2 | exact Mine.mm3 | exact Mine.mm4 | exact Mine.mm5 | exact Mine.mm6 | exact Mine.mm7 | exact Mine.mm8 | exact Mine.mm9 | exact Mine.mm10 | exact Mine.mm11 | exact Mine.mm12 | exact Mine.mm13 | (refine Mine.mL ?_; first | exact Mine.mm0 | exact Mine.mm1 | exact Mine.mm2 | exact Mine.mm3 | exact Mine.mm4 | exact Mine.mm5 | exact Mine.mm6 | exact Mine.mm7 | exact Mine.mm8 | exact Mine.mm9 | exact Mine.mm10 | exact Mine.mm11 | exact Mine.mm12 | exact Mine.mm13 | (refine Mine.mL ?_; first | exact Mine.mm0 | exact Mine.mm1 | exact Mine.mm2 | exact Mine.mm3 | exact Mine.mm4 | exact Mine.mm5 | exact Mine.mm6 | exact Mine.mm7 | exact Mine.mm8 | exact Mine.mm9 | exact Mine.mm10 | exact Mine.mm11 | exact Mine.mm12 | exact Mine.mm13) | (refine Mine.mR ?_; first | exact Mine.mm0 | exact Mine.mm1 | exact Mine.mm2 | exact Mine.mm3 | exact Mine.mm4 | exact Mine.mm5 | exact Mine.mm6 | exact Mine.mm7 | exact Mine.mm8 | exact Mine.mm9 | exact Mine.mm10 | exact Mine.mm11 | exact Mine.mm12 | exact Mine.mm13)) | (refine Mine.mR ?_; first | exact Mine.mm0 | exact Mine.mm1 | exact Mine.mm2 | exact Mine.mm3 | exact Mine.mm4 | exact Mine.mm5 | exact Mine.mm6 | exact Mine.mm7 | exact Mine.mm8 | exact Mine.mm9 | exact Mine.mm10 | exact Mine.mm11 | exact Mine.mm12 | exact Mine.mm13 | (refine Mine.mL ?_; first | exact Mine.mm0 | exact Mine.mm1 | exact Mine.mm2 | exact Mine.mm3 | exact Mine.mm4 | exact Mine.mm5 | exact Mine.mm6 | exact Mine.mm7 | exact Mine.mm8 | exact Mine.mm9 | exact Mine.mm10 | exact Mine.mm11 | exact Mine.mm12 | exact Mine.mm13) | (refine Mine.mR ?_; first | exact Mine.mm0 | exact Mine.mm1 | exact Mine.mm2 | exact Mine.mm3 | exact Mine.mm4 | exact Mine.mm5 | exact Mine.mm6 | exact Mine.mm7 | exact Mine.mm8 | exact Mine.mm9 | exact Mine.mm10 | exact Mine.mm11 | exact Mine.mm12 | exact Mine.mm13)) | exact Mine.sub_rfl | exact Mine.apL | exact Mine.apR | exact Mine.apRL | exact Mine.apRR | exact Mine.apRRL | exact Mine.apRRR | ((first | refine Mine.up14 ?_ | refine Mine.up13 ?_ | refine Mine.up12 ?_ | refine Mine.up11 ?_ | refine Mine.up10 ?_ | refine Mine.up9 ?_ | refine Mine.up8 ?_ | refine Mine.up7 ?_ | refine Mine.up6 ?_ | refine Mine.up5 ?_ | refine Mine.up4 ?_ | refine Mine.up3 ?_ | refine Mine.up2 ?_ | refine Mine.up1 ?_); first | exact Mine.sub_rfl | exact Mine.apL | exact Mine.apR | exact Mine.apRL | exact Mine.apRR | exact Mine.apRRL | exact Mine.apRRR) | (refine Mine.inL ?_; first | exact Mine.sub_rfl | exact Mine.apL | exact Mine.apR | exact Mine.apRL | exact Mine.apRR | exact Mine.apRRL | exact Mine.apRRR | ((first | refine Mine.up14 ?_ | refine Mine.up13 ?_ | refine Mine.up12 ?_ | refine Mine.up11 ?_ | refine Mine.up10 ?_ | refine Mine.up9 ?_ | refine Mine.up8 ?_ | refine Mine.up7 ?_ | refine Mine.up6 ?_ | refine Mine.up5 ?_ | refine Mine.up4 ?_ | refine Mine.up3 ?_ | refine Mine.up2 ?_ | refine Mine.up1 ?_); first | exact Mine.sub_rfl | exact Mine.apL | exact Mine.apR | exact Mine.apRL | exact Mine.apRR | exact Mine.apRRL | exact Mine.apRRR) | (refine Mine.inL ?_; first | exact Mine.sub_rfl | exact Mine.apL | exact Mine.apR | exact Mine.apRL | exact Mine.apRR | exact Mine.apRRL | exact Mine.apRRR | ((first | refine Mine.up14 ?_ | refine Mine.up13 ?_ | refine Mine.up12 ?_ | refine Mine.up11 ?_ | refine Mine.up10 ?_ | refine Mine.up9 ?_ | refine Mine.up8 ?_ | refine Mine.up7 ?_ | refine Mine.up6 ?_ | refine Mine.up5 ?_ | refine Mine.up4 ?_ | refine Mine.up3 ?_ | refine Mine.up2 ?_ | refine Mine.up1 ?_); first | exact Mine.sub_rfl | exact Mine.apL | exact Mine.apR | exact Mine.apRL | exact Mine.apRR | exact Mine.apRRL | exact Mine.apRRR)) | (refine Mine.inR ?_; first | exact Mine.sub_rfl | exact Mine.apL | exact Mine.apR | exact Mine.apRL | exact Mine.apRR | exact Mine.apRRL | exact Mine.apRRR | ((first | refine Mine.up14 ?_ | refine Mine.up13 ?_ | refine Mine.up12 ?_ | refine Mine.up11 ?_ | refine Mine.up10 ?_ | refine Mine.up9 ?_ | refine Mine.up8 ?_ | refine Mine.up7 ?_ | refine Mine.up6 ?_ | refine Mine.up5 ?_ | refine Mine.up4 ?_ | refine Mine.up3 ?_ | refine Mine.up2 ?_ | refine Mine.up1 ?_); first | exact Mine.sub_rfl | exact Mine.apL | exact Mine.apR | exact Mine.apRL | exact Mine.apRR | exact Mine.apRRL | exact Mine.apRRR))) | (refine Mine.inR ?_; first | exact Mine.sub_rfl | exact Mine.apL | exact Mine.apR | exact Mine.apRL | exact Mine.apRR | exact Mine.apRRL | exact Mine.apRRR | ((first | refine Mine.up14 ?_ | refine Mine.up13 ?_ | refine Mine.up12 ?_ | refine Mine.up11 ?_ | refine Mine.up10 ?_ | refine Mine.up9 ?_ | refine Mine.up8 ?_ | refine Mine.up7 ?_ | refine Mine.up6 ?_ | refine Mine.up5 ?_ | refine Mine.up4 ?_ | refine Mine.up3 ?_ | refine Mine.up2 ?_ | refine Mine.up1 ?_); first | exact Mine.sub_rfl | exact Mine.apL | exact Mine.apR | exact Mine.apRL | exact Mine.apRR | exact Mine.apRRL | exact Mine.apRRR) | (refine Mine.inL ?_; first | exact Mine.sub_rfl | exact Mine.apL | exact Mine.apR | exact Mine.apRL | exact Mine.apRR | exact Mine.apRRL | exact Mine.apRRR | ((first | refine Mine.up14 ?_ | refine Mine.up13 ?_ | refine Mine.up12 ?_ | refine Mine.up11 ?_ | refine Mine.up10 ?_ | refine Mine.up9 ?_ | refine Mine.up8 ?_ | refine Mine.up7 ?_ | refine Mine.up6 ?_ | refine Mine.up5 ?_ | refine Mine.up4 ?_ | refine Mine.up3 ?_ | refine Mine.up2 ?_ | refine Mine.up1 ?_); first | exact Mine.sub_rfl | exact Mine.apL | exact Mine.apR | exact Mine.apRL | exact Mine.apRR | exact Mine.apRRL | exact Mine.apRRR)) | (refine Mine.inR ?_; first | exact Mine.sub_rfl | exact Mine.apL | exact Mine.apR | exact Mine.apRL | exact Mine.apRR | exact Mine.apRRL | exact Mine.apRRR | ((first | refine Mine.up14 ?_ | refine Mine.up13 ?_ | refine Mine.up12 ?_ | refine Mine.up11 ?_ | refine Mine.up10 ?_ | refine Mine.up9 ?_ | refine Mine.up8 ?_ | refine Mine.up7 ?_ | refine Mine.up6 ?_ | refine Mine.up5 ?_ | refine Mine.up4 ?_ | refine Mine.up3 ?_ | refine Mine.up2 ?_ | refine Mine.up1 ?_); first | exact Mine.sub_rfl | exact Mine.apL | exact Mine.apR | exact Mine.apRL | exact Mine.apRR | exact Mine.apRRL | exact Mine.apRRR))))))
        have o1 := not_in4 (off8 (ilr, _) mm0)
        have o2 := not_in4 (off8 (ilt, _) mm1)
        have o3 := not_in4 (off8 (ix, _) mm2)
        have o4 := not_in4 (off8 (idx, _) mm3)
        clear F N
        dsimp only
        k_steps
        rename Fr _ _ _ _ => F3
        rename News _ _ _ _ => N3
        rename_i d _ od lo0 _ _ hO0 _ ld D9 _ lD9 _ _ _
        have N3p : News g L _ ((pl, W.listOf #[.ref D, .int (k) t] n) :: (D, W.listOf ws.toArray 0) :: (L + 1, oP) :: (193, tabObj ps) :: (ilr, W.listOf (irs : List Value).toArray inr) :: (ilt, W.listOf (boolsOf (fun _ => none)).toArray intt) :: (ix, instObj 89 idx) :: (idx, impDict wld ilr ilt it1 it2 iN) :: (d, od) :: iT) := news_sub N3 ((by with_reducible ((repeat' first | refine Mine.sub_cons ?_ ?_ | refine Mine.sub_app ?_ ?_ | exact Mine.sub_nil); all_goals first | exact Mine.mm0 | exact Mine.mm1 | exact Mine.mm2 | exact Mine.mm3 | exact Mine.mm4 | exact Mine.mm5 | exact Mine.mm6 | exact Mine.mm7 | exact Mine.mm8 | exact Mine.mm9 | exact Mine.mm10 | exact Mine.mm11 | exact Mine.mm12 | exact Mine.mm13 | (refine Mine.mL ?_; first | exact Mine.mm0 | exact Mine.mm1 | exact Mine.mm2 | exact Mine.mm3 | exact Mine.mm4 | exact Mine.mm5 | exact Mine.mm6 | exact Mine.mm7 | exact Mine.mm8 | exact Mine.mm9 | exact Mine.mm10 | exact Mine.mm11 | exact Mine.mm12 | exact Mine.mm13) | (refine Mine.mR ?_; first | exact Mine.mm0 | exact Mine.mm1 | exact Mine.mm2 | exact Mine.mm3 | exact Mine.mm4 | exact Mine.mm5 | exact Mine.mm6 | exact Mine.mm7 | exact Mine.mm8 | exact Mine.mm9 | exact Mine.mm10 | exact Mine.mm11 | exact Mine.mm12 | exact Mine.mm13) | exact Mine.sub_rfl | exact Mine.apL | exact Mine.apR | exact Mine.apRL | exact Mine.apRR | exact Mine.apRRL | exact Mine.apRRR | ((first | refine Mine.up14 ?_ | refine Mine.up13 ?_ | refine Mine.up12 ?_ | refine Mine.up11 ?_ | refine Mine.up10 ?_ | refine Mine.up9 ?_ | refine Mine.up8 ?_ | refine Mine.up7 ?_ | refine Mine.up6 ?_ | refine Mine.up5 ?_ | refine Mine.up4 ?_ | refine Mine.up3 ?_ | refine Mine.up2 ?_ | refine Mine.up1 ?_); first | exact Mine.sub_rfl | exact Mine.apL | exact Mine.apR | exact Mine.apRL | exact Mine.apRR | exact Mine.apRRL | exact Mine.apRRR) | (refine Mine.inL ?_; first | exact Mine.sub_rfl | exact Mine.apL | exact Mine.apR | exact Mine.apRL | exact Mine.apRR | exact Mine.apRRL | exact Mine.apRRR | ((first | refine Mine.up14 ?_ | refine Mine.up13 ?_ | refine Mine.up12 ?_ | refine Mine.up11 ?_ | refine Mine.up10 ?_ | refine Mine.up9 ?_ | refine Mine.up8 ?_ | refine Mine.up7 ?_ | refine Mine.up6 ?_ | refine Mine.up5 ?_ | refine Mine.up4 ?_ | refine Mine.up3 ?_ | refine Mine.up2 ?_ | refine Mine.up1 ?_); first | exact Mine.sub_rfl | exact Mine.apL | exact Mine.apR | exact Mine.apRL | exact Mine.apRR | exact Mine.apRRL | exact Mine.apRRR)) | (refine Mine.inR ?_; first | exact Mine.sub_rfl | exact Mine.apL | exact Mine.apR | exact Mine.apRL | exact Mine.apRR | exact Mine.apRRL | exact Mine.apRRR | ((first | refine Mine.up14 ?_ | refine Mine.up13 ?_ | refine Mine.up12 ?_ | refine Mine.up11 ?_ | refine Mine.up10 ?_ | refine Mine.up9 ?_ | refine Mine.up8 ?_ | refine Mine.up7 ?_ | refine Mine.up6 ?_ | refine Mine.up5 ?_ | refine Mine.up4 ?_ | refine Mine.up3 ?_ | refine Mine.up2 ?_ | refine Mine.up1 ?_); first | exact Mine.sub_rfl | exact Mine.apL | exact Mine.apR | exact Mine.apRL | exact Mine.apRR | exact Mine.apRRL | exact Mine.apRRR)))))
        have hnePl : ∀ {rs : List Value} {nr : Nat} {f : St} {nt : Nat} {od' : Obj} (T : Led), (∀ p ∈ T, p.1 ≠ pl) → ∀ x ∈ ((D, W.listOf ws.toArray 0) :: (L + 1, oP) :: (193, tabObj ps) :: (ilr, W.listOf (rs : List Value).toArray nr) :: (ilt, W.listOf (boolsOf f).toArray nt) :: (ix, instObj 89 idx) :: (idx, impDict wld ilr ilt it1 it2 iN) :: (d, od') :: T), @Ne Nat x.1 pl := fun T hT => (all_cons (Nat.ne_of_lt lB.1) (all_cons (Nat.ne_of_lt lB.2.1) (all_cons (Nat.ne_of_lt lB.2.2) (all_cons o1.1 (all_cons o2.1 (all_cons o3.1 (all_cons o4.1 (all_cons (Nat.ne_of_gt ld.1) hT))))))))
        refine pick_spec B0 F3 X T0 rfl (by show dp + 1 < 900; omega) (news_sub N3p ((by with_reducible ((repeat' first | refine Mine.sub_cons ?_ ?_ | refine Mine.sub_app ?_ ?_ | exact Mine.sub_nil); all_goals first | exact Mine.mm0 | exact Mine.mm1 | exact Mine.mm2 | exact Mine.mm3 | exact Mine.mm4 | exact Mine.mm5 | exact Mine.mm6 | exact Mine.mm7 | exact Mine.mm8 | exact Mine.mm9 | exact Mine.mm10 | exact Mine.mm11 | exact Mine.mm12 | exact Mine.mm13 | exact Mine.sub_rfl | exact Mine.apL | exact Mine.apR | exact Mine.apRL | exact Mine.apRR | exact Mine.apRRL | exact Mine.apRRR | ((first | refine Mine.up14 ?_ | refine Mine.up13 ?_ | refine Mine.up12 ?_ | refine Mine.up11 ?_ | refine Mine.up10 ?_ | refine Mine.up9 ?_ | refine Mine.up8 ?_ | refine Mine.up7 ?_ | refine Mine.up6 ?_ | refine Mine.up5 ?_ | refine Mine.up4 ?_ | refine Mine.up3 ?_ | refine Mine.up2 ?_ | refine Mine.up1 ?_); first | exact Mine.sub_rfl | exact Mine.apL | exact Mine.apR | exact Mine.apRL | exact Mine.apRR | exact Mine.apRRL | exact Mine.apRRR))))) (Nat.ne_of_lt lB.1) hIws hws (by omega) (by omega) (by decide) (by decide) fun h9 tk9 r9 tr9 tt9 n9 hr90 hr91 k9 hp9 => ?_
        have F4 := fr_pick F3 N3p k9
        have N4 := news_pick N3p k9 hp9 (hnePl iT (off_of (fun p hp => off8 p (apR p hp)) mm0))
        clear F3 N3 N3p k9 hp9
        dsimp only
        k_steps
        rename IsRange _ _ _ _ _ _ _ _ => hRg
        rename Fr _ _ _ _ => F5
        rename News _ _ _ _ => N5
        rename Heap => h10
        have hI10 : @LT.lt Nat _ L h10.objs.size := F5.ns.lt
        have b1 : @LT.lt Nat _ pl h10.objs.size := Heap.lt_size (N5.get mm0)
        have b2 : @LT.lt Nat _ D h10.objs.size := Heap.lt_size (N5.get mm1)
        have b3 : @LT.lt Nat _ (L + 1) h10.objs.size := Heap.lt_size (N5.get mm2)
        have b4 : @LT.lt Nat _ 193 h10.objs.size := Heap.lt_size (N5.get mm3)
        have b5 : @LT.lt Nat _ ilr h10.objs.size := Heap.lt_size (N5.get mm4)
        have b6 : @LT.lt Nat _ ilt h10.objs.size := Heap.lt_size (N5.get mm5)
        have b7 : @LT.lt Nat _ ix h10.objs.size := Heap.lt_size (N5.get mm6)
        have b8 : @LT.lt Nat _ idx h10.objs.size := Heap.lt_size (N5.get mm7)
        have b9 : @LT.lt Nat _ d h10.objs.size := Heap.lt_size (N5.get mm8)
        have hm10 : ∀ {kk : Int} {tt : Tok} {nn : Nat} {rs : List Value} {nr : Nat} {f : St} {nt : Nat} {od' : Obj} (T : Led), (∀ p ∈ T, p.1 ≠ h10.objs.size) → ∀ x ∈ ((pl, W.listOf #[.ref D, .int (kk) tt] nn) :: (D, W.listOf ws.toArray 0) :: (L + 1, oP) :: (193, tabObj ps) :: (ilr, W.listOf (rs : List Value).toArray nr) :: (ilt, W.listOf (boolsOf f).toArray nt) :: (ix, instObj 89 idx) :: (idx, impDict wld ilr ilt it1 it2 iN) :: (d, od') :: T), x.1 ≠ h10.objs.size := fun T hT => (all_cons (Nat.ne_of_lt b1) (all_cons (Nat.ne_of_lt b2) (all_cons (Nat.ne_of_lt b3) (all_cons (Nat.ne_of_lt b4) (all_cons (Nat.ne_of_lt b5) (all_cons (Nat.ne_of_lt b6) (all_cons (Nat.ne_of_lt b7) (all_cons (Nat.ne_of_lt b8) (all_cons (Nat.ne_of_lt b9) hT)))))))))
        have hdd : @Ne Nat d ilr ∧ @Ne Nat d ilt ∧ @Ne Nat d ix ∧ @Ne Nat d idx := ⟨Nat.ne_of_gt ld.2.2.2.2.1, Nat.ne_of_gt ld.2.2.2.2.2.1, Nat.ne_of_gt ld.2.2.2.2.2.2.1, Nat.ne_of_gt ld.2.2.2.2.2.2.2.1⟩
        have hdo : @Ne Nat D d ∧ @Ne Nat (L + 1) d ∧ @Ne Nat 193 d ∧ @Ne Nat pl d := ⟨Nat.ne_of_lt ld.2.1, Nat.ne_of_lt ld.2.2.1, Nat.ne_of_lt ld.2.2.2.1, Nat.ne_of_lt ld.1⟩
        have hsz2 := wb3 hr90 hr91
        refine loop_range (n := r9.toNat) (WJ2 wld g L pl D ilr ilt ix idx d ws oP ps it1 it2 iN h10.objs.size) hRg rfl hsz2.1 hsz2.2 ?j02 ?stable2 ?turn2 ?done2
        case j02 =>
          exact ⟨_, k + 1, tt9, n9, (fun _ => none), irs, inr, intt, od, [], iT, by omega, by omega, F5, rfl, rfl, N5, hR8, hO0, OwnIn.nil, fun p hp => have z1 := not_in4 (off8 p (apR p hp)); have z2 := hT8 p hp; in5 z1.1 z2.1 z2.2 (Nat.ne_of_lt (allLt_mem ld.2.2.2.2.2.2.2.2 p hp)) (Nat.ne_of_lt (Heap.lt_size (N5.get (tl9 p hp))))⟩
        case stable2 =>
          rintro i h h' ⟨m, kk, tt, nn, f, irs, inr, intt, od, kvs, iT, hkk0, hkk1, F, hmi, hmo, N, hR, hO, hW, hoff⟩ kp
          exact ⟨m, kk, tt, nn, f, irs, inr, intt, od, kvs, iT, hkk0, hkk1, fr_stable F hI10 kp, hmi, hmo, news_stable N kp (hm10 iT (off_of hoff mm4)), hR, hO, hW, hoff⟩
        case turn2 =>
          intro i h tk t9 I oI hi HJ hIe hIo hIc
          refine genT ?_
          intro Ra hRa
          refine byG fun GG kG => ?_
          obtain ⟨m, kk, tt, nn, f, irs, inr, intt, od, kvs, iT, hkk0, hkk1, F, hmi, hmo, N, hR, hO, hW, hoff⟩ := HJ
          refine kG ?_
          clear kG
          have hkb := wb1 hkk1 hi hr91
          replace hkk1 : Hold _ := hkk1
          replace hi : Hold _ := hi
          have NI : News g L h ((pl, W.listOf #[.ref D, .int (kk) tt] nn) :: (D, W.listOf ws.toArray 0) :: (L + 1, oP) :: (193, tabObj ps) :: (ilr, W.listOf (irs : List Value).toArray inr) :: (ilt, W.listOf (boolsOf f).toArray intt) :: (ix, instObj 89 idx) :: (idx, impDict wld ilr ilt it1 it2 iN) :: (d, od) :: (I, oI) :: iT) := news_sub (news_more F (by rw [hIe]; exact hI10) hIo N) ((by with_reducible ((repeat' first | refine Mine.sub_cons ?_ ?_ | refine Mine.sub_app ?_ ?_ | exact Mine.sub_nil); all_goals first | exact Mine.mm0 | exact Mine.mm1 | exact Mine.mm2 | exact Mine.mm3 | exact Mine.mm4 | exact Mine.mm5 | exact Mine.mm6 | exact Mine.mm7 | exact Mine.mm8 | exact Mine.mm9 | exact Mine.mm10 | exact Mine.mm11 | exact Mine.mm12 | exact Mine.mm13 | (refine Mine.mL ?_; first | exact Mine.mm0 | exact Mine.mm1 | exact Mine.mm2 | exact Mine.mm3 | exact Mine.mm4 | exact Mine.mm5 | exact Mine.mm6 | exact Mine.mm7 | exact Mine.mm8 | exact Mine.mm9 | exact Mine.mm10 | exact Mine.mm11 | exact Mine.mm12 | exact Mine.mm13) | (refine Mine.mR ?_; first | exact Mine.mm0 | exact Mine.mm1 | exact Mine.mm2 | exact Mine.mm3 | exact Mine.mm4 | exact Mine.mm5 | exact Mine.mm6 | exact Mine.mm7 | exact Mine.mm8 | exact Mine.mm9 | exact Mine.mm10 | exact Mine.mm11 | exact Mine.mm12 | exact Mine.mm13) | exact Mine.sub_rfl | exact Mine.apL | exact Mine.apR | exact Mine.apRL | exact Mine.apRR | exact Mine.apRRL | exact Mine.apRRR | ((first | refine Mine.up14 ?_ | refine Mine.up13 ?_ | refine Mine.up12 ?_ | refine Mine.up11 ?_ | refine Mine.up10 ?_ | refine Mine.up9 ?_ | refine Mine.up8 ?_ | refine Mine.up7 ?_ | refine Mine.up6 ?_ | refine Mine.up5 ?_ | refine Mine.up4 ?_ | refine Mine.up3 ?_ | refine Mine.up2 ?_ | refine Mine.up1 ?_); first | exact Mine.sub_rfl | exact Mine.apL | exact Mine.apR | exact Mine.apRL | exact Mine.apRR | exact Mine.apRRL | exact Mine.apRRR) | (refine Mine.inL ?_; first | exact Mine.sub_rfl | exact Mine.apL | exact Mine.apR | exact Mine.apRL | exact Mine.apRR | exact Mine.apRRL | exact Mine.apRRR | ((first | refine Mine.up14 ?_ | refine Mine.up13 ?_ | refine Mine.up12 ?_ | refine Mine.up11 ?_ | refine Mine.up10 ?_ | refine Mine.up9 ?_ | refine Mine.up8 ?_ | refine Mine.up7 ?_ | refine Mine.up6 ?_ | refine Mine.up5 ?_ | refine Mine.up4 ?_ | refine Mine.up3 ?_ | refine Mine.up2 ?_ | refine Mine.up1 ?_); first | exact Mine.sub_rfl | exact Mine.apL | exact Mine.apR | exact Mine.apRL | exact Mine.apRR | exact Mine.apRRL | exact Mine.apRRR)) | (refine Mine.inR ?_; first | exact Mine.sub_rfl | exact Mine.apL | exact Mine.apR | exact Mine.apRL | exact Mine.apRR | exact Mine.apRRL | exact Mine.apRRR | ((first | refine Mine.up14 ?_ | refine Mine.up13 ?_ | refine Mine.up12 ?_ | refine Mine.up11 ?_ | refine Mine.up10 ?_ | refine Mine.up9 ?_ | refine Mine.up8 ?_ | refine Mine.up7 ?_ | refine Mine.up6 ?_ | refine Mine.up5 ?_ | refine Mine.up4 ?_ | refine Mine.up3 ?_ | refine Mine.up2 ?_ | refine Mine.up1 ?_); first | exact Mine.sub_rfl | exact Mine.apL | exact Mine.apR | exact Mine.apRL | exact Mine.apRR | exact Mine.apRRL | exact Mine.apRRR)))))
          clear F5 N5 hRg N
          dsimp only at hIe ⊢
          refine wpAny_assign_Name (storeX_L F NI (fun h1' F1' N1' => ?_))
          clear NI F
          k_steps
          refine rules_spec ⟨B0, F1', X, T0, rfl⟩ (by show dp + 1 + 5 < 900; omega) (news_sub N1' ((by with_reducible ((repeat' first | refine Mine.sub_cons ?_ ?_ | refine Mine.sub_app ?_ ?_ | exact Mine.sub_nil); all_goals first | exact Mine.mm0 | exact Mine.mm1 | exact Mine.mm2 | exact Mine.mm3 | exact Mine.mm4 | exact Mine.mm5 | exact Mine.mm6 | exact Mine.mm7 | exact Mine.mm8 | exact Mine.mm9 | exact Mine.mm10 | exact Mine.mm11 | exact Mine.mm12 | exact Mine.mm13 | exact Mine.sub_rfl | exact Mine.apL | exact Mine.apR | exact Mine.apRL | exact Mine.apRR | exact Mine.apRRL | exact Mine.apRRR | ((first | refine Mine.up14 ?_ | refine Mine.up13 ?_ | refine Mine.up12 ?_ | refine Mine.up11 ?_ | refine Mine.up10 ?_ | refine Mine.up9 ?_ | refine Mine.up8 ?_ | refine Mine.up7 ?_ | refine Mine.up6 ?_ | refine Mine.up5 ?_ | refine Mine.up4 ?_ | refine Mine.up3 ?_ | refine Mine.up2 ?_ | refine Mine.up1 ?_); first | exact Mine.sub_rfl | exact Mine.apL | exact Mine.apR | exact Mine.apRL | exact Mine.apRR | exact Mine.apRRL | exact Mine.apRRR))))) (Nat.ne_of_lt lB.1) hIws hws hkk0 hkb fun h11 tk11 v rs Tn kk' tt' nn' k11 hp11 hkk0' hkk1' fr11 hA hrl hrs => ?_
          have F2 := fr_pick F1' N1' k11
          have N2 : News g L h11 ((pl, W.listOf #[.ref D, .int (kk') tt'] nn') :: (D, W.listOf ws.toArray 0) :: (L + 1, oP) :: (193, tabObj ps) :: (ilr, W.listOf (irs : List Value).toArray inr) :: (ilt, W.listOf (boolsOf f).toArray intt) :: (ix, instObj 89 idx) :: (idx, impDict wld ilr ilt it1 it2 iN) :: (d, od) :: (I, oI) :: (Tn ++ iT)) := news_sub (fr11.news F1' (news_pick N1' k11 hp11 (hnePl ((I, oI) :: iT) (all_cons (P := fun p : Addr × Obj => p.1 ≠ pl) (ne_of_eq_size hIe (Nat.ne_of_lt b1)) (off_of hoff mm0))))) ((by with_reducible ((repeat' first | refine Mine.sub_cons ?_ ?_ | refine Mine.sub_app ?_ ?_ | exact Mine.sub_nil); all_goals first | exact Mine.mm0 | exact Mine.mm1 | exact Mine.mm2 | exact Mine.mm3 | exact Mine.mm4 | exact Mine.mm5 | exact Mine.mm6 | exact Mine.mm7 | exact Mine.mm8 | exact Mine.mm9 | exact Mine.mm10 | exact Mine.mm11 | exact Mine.mm12 | exact Mine.mm13 | (refine Mine.mL ?_; first | exact Mine.mm0 | exact Mine.mm1 | exact Mine.mm2 | exact Mine.mm3 | exact Mine.mm4 | exact Mine.mm5 | exact Mine.mm6 | exact Mine.mm7 | exact Mine.mm8 | exact Mine.mm9 | exact Mine.mm10 | exact Mine.mm11 | exact Mine.mm12 | exact Mine.mm13) | (refine Mine.mR ?_; first | exact Mine.mm0 | exact Mine.mm1 | exact Mine.mm2 | exact Mine.mm3 | exact Mine.mm4 | exact Mine.mm5 | exact Mine.mm6 | exact Mine.mm7 | exact Mine.mm8 | exact Mine.mm9 | exact Mine.mm10 | exact Mine.mm11 | exact Mine.mm12 | exact Mine.mm13) | exact Mine.sub_rfl | exact Mine.apL | exact Mine.apR | exact Mine.apRL | exact Mine.apRR | exact Mine.apRRL | exact Mine.apRRR | ((first | refine Mine.up14 ?_ | refine Mine.up13 ?_ | refine Mine.up12 ?_ | refine Mine.up11 ?_ | refine Mine.up10 ?_ | refine Mine.up9 ?_ | refine Mine.up8 ?_ | refine Mine.up7 ?_ | refine Mine.up6 ?_ | refine Mine.up5 ?_ | refine Mine.up4 ?_ | refine Mine.up3 ?_ | refine Mine.up2 ?_ | refine Mine.up1 ?_); first | exact Mine.sub_rfl | exact Mine.apL | exact Mine.apR | exact Mine.apRL | exact Mine.apRR | exact Mine.apRRL | exact Mine.apRRR) | (refine Mine.inL ?_; first | exact Mine.sub_rfl | exact Mine.apL | exact Mine.apR | exact Mine.apRL | exact Mine.apRR | exact Mine.apRRL | exact Mine.apRRR | ((first | refine Mine.up14 ?_ | refine Mine.up13 ?_ | refine Mine.up12 ?_ | refine Mine.up11 ?_ | refine Mine.up10 ?_ | refine Mine.up9 ?_ | refine Mine.up8 ?_ | refine Mine.up7 ?_ | refine Mine.up6 ?_ | refine Mine.up5 ?_ | refine Mine.up4 ?_ | refine Mine.up3 ?_ | refine Mine.up2 ?_ | refine Mine.up1 ?_); first | exact Mine.sub_rfl | exact Mine.apL | exact Mine.apR | exact Mine.apRL | exact Mine.apRR | exact Mine.apRRL | exact Mine.apRRR)) | (refine Mine.inR ?_; first | exact Mine.sub_rfl | exact Mine.apL | exact Mine.apR | exact Mine.apRL | exact Mine.apRR | exact Mine.apRRL | exact Mine.apRRR | ((first | refine Mine.up14 ?_ | refine Mine.up13 ?_ | refine Mine.up12 ?_ | refine Mine.up11 ?_ | refine Mine.up10 ?_ | refine Mine.up9 ?_ | refine Mine.up8 ?_ | refine Mine.up7 ?_ | refine Mine.up6 ?_ | refine Mine.up5 ?_ | refine Mine.up4 ?_ | refine Mine.up3 ?_ | refine Mine.up2 ?_ | refine Mine.up1 ?_); first | exact Mine.sub_rfl | exact Mine.apL | exact Mine.apR | exact Mine.apRL | exact Mine.apRR | exact Mine.apRRL | exact Mine.apRRR)))))
          have offTn := fresh_off (X := [pl, ilr, ilt, d, h10.objs.size]) fr11 (all_cons (got N1' mm0) (all_cons (got N1' mm4) (all_cons (got N1' mm5) (all_cons (got N1' mm8) (all_cons (hIe ▸ got N1' mm9) all_nil)))))
          have offTx := fresh_off (X := [ix, idx]) fr11 (all_cons (got N1' mm6) (all_cons (got N1' mm7) all_nil))
          obtain ⟨rl, orl, _, _, rfl, _⟩ := id hA
          clear F1' N1' k11 hp11 fr11
          dsimp only
          k_steps
          rename Fr _ _ _ _ => F3
          rename News _ _ _ _ => N3
          have hIs : @Ne Nat I ilr ∧ @Ne Nat I ilt ∧ @Ne Nat I d ∧ @Ne Nat I pl := by rw [hIe]; exact ⟨Nat.ne_of_gt b5, Nat.ne_of_gt b6, Nat.ne_of_gt b9, Nat.ne_of_gt b1⟩
          have hoffU : ∀ p ∈ Tn ++ iT, p.1 ∉ [pl, ilr, ilt, d, h10.objs.size] := all_app offTn hoff
          refine wpAny_mono (Q := WPost wld g L pl D ilr ilt ix idx d rl I ws oP od oI ps it1 it2 iN h10.objs.size kk' tt' nn' f rs (Tn ++ iT) s₁) ?tryT (fun f s' hh => ?tryR) (fun _ _ e => e)
          case tryT =>
            refine wpAny_Try_except ?_
            k_steps
            have hold3 : ∀ a ∈ [pl, ilr, ilt, d, h10.objs.size], ∃ o, (_ : Heap).get? a = some o := (all_cons (got N3 mm0) (all_cons (got N3 mm4) (all_cons (got N3 mm5) (all_cons (got N3 mm8) (all_cons (hIe ▸ got N3 mm9) all_nil)))))
            have N3p : News g L _ ((ilr, W.listOf (irs : List Value).toArray inr) :: (ilt, W.listOf (boolsOf f).toArray intt) :: (ix, instObj 89 idx) :: (idx, impDict wld ilr ilt it1 it2 iN) :: (pl, W.listOf #[.ref D, .int (kk') tt'] nn') :: (D, W.listOf ws.toArray 0) :: (L + 1, oP) :: (193, tabObj ps) :: (d, od) :: (I, oI) :: (Tn ++ iT)) := news_sub N3 ((by with_reducible ((repeat' first | refine Mine.sub_cons ?_ ?_ | refine Mine.sub_app ?_ ?_ | exact Mine.sub_nil); all_goals first | exact Mine.mm0 | exact Mine.mm1 | exact Mine.mm2 | exact Mine.mm3 | exact Mine.mm4 | exact Mine.mm5 | exact Mine.mm6 | exact Mine.mm7 | exact Mine.mm8 | exact Mine.mm9 | exact Mine.mm10 | exact Mine.mm11 | exact Mine.mm12 | exact Mine.mm13 | (refine Mine.mL ?_; first | exact Mine.mm0 | exact Mine.mm1 | exact Mine.mm2 | exact Mine.mm3 | exact Mine.mm4 | exact Mine.mm5 | exact Mine.mm6 | exact Mine.mm7 | exact Mine.mm8 | exact Mine.mm9 | exact Mine.mm10 | exact Mine.mm11 | exact Mine.mm12 | exact Mine.mm13) | (refine Mine.mR ?_; first | exact Mine.mm0 | exact Mine.mm1 | exact Mine.mm2 | exact Mine.mm3 | exact Mine.mm4 | exact Mine.mm5 | exact Mine.mm6 | exact Mine.mm7 | exact Mine.mm8 | exact Mine.mm9 | exact Mine.mm10 | exact Mine.mm11 | exact Mine.mm12 | exact Mine.mm13) | exact Mine.sub_rfl | exact Mine.apL | exact Mine.apR | exact Mine.apRL | exact Mine.apRR | exact Mine.apRRL | exact Mine.apRRR | ((first | refine Mine.up14 ?_ | refine Mine.up13 ?_ | refine Mine.up12 ?_ | refine Mine.up11 ?_ | refine Mine.up10 ?_ | refine Mine.up9 ?_ | refine Mine.up8 ?_ | refine Mine.up7 ?_ | refine Mine.up6 ?_ | refine Mine.up5 ?_ | refine Mine.up4 ?_ | refine Mine.up3 ?_ | refine Mine.up2 ?_ | refine Mine.up1 ?_); first | exact Mine.sub_rfl | exact Mine.apL | exact Mine.apR | exact Mine.apRL | exact Mine.apRR | exact Mine.apRRL | exact Mine.apRRR) | (refine Mine.inL ?_; first | exact Mine.sub_rfl | exact Mine.apL | exact Mine.apR | exact Mine.apRL | exact Mine.apRR | exact Mine.apRRL | exact Mine.apRRR | ((first | refine Mine.up14 ?_ | refine Mine.up13 ?_ | refine Mine.up12 ?_ | refine Mine.up11 ?_ | refine Mine.up10 ?_ | refine Mine.up9 ?_ | refine Mine.up8 ?_ | refine Mine.up7 ?_ | refine Mine.up6 ?_ | refine Mine.up5 ?_ | refine Mine.up4 ?_ | refine Mine.up3 ?_ | refine Mine.up2 ?_ | refine Mine.up1 ?_); first | exact Mine.sub_rfl | exact Mine.apL | exact Mine.apR | exact Mine.apRL | exact Mine.apRR | exact Mine.apRRL | exact Mine.apRRR)) | (refine Mine.inR ?_; first | exact Mine.sub_rfl | exact Mine.apL | exact Mine.apR | exact Mine.apRL | exact Mine.apRR | exact Mine.apRRL | exact Mine.apRRR | ((first | refine Mine.up14 ?_ | refine Mine.up13 ?_ | refine Mine.up12 ?_ | refine Mine.up11 ?_ | refine Mine.up10 ?_ | refine Mine.up9 ?_ | refine Mine.up8 ?_ | refine Mine.up7 ?_ | refine Mine.up6 ?_ | refine Mine.up5 ?_ | refine Mine.up4 ?_ | refine Mine.up3 ?_ | refine Mine.up2 ?_ | refine Mine.up1 ?_); first | exact Mine.sub_rfl | exact Mine.apL | exact Mine.apR | exact Mine.apRL | exact Mine.apRR | exact Mine.apRRL | exact Mine.apRRR)))))
            have hrest : ∀ x ∈ ((ix, instObj 89 idx) :: (idx, impDict wld ilr ilt it1 it2 iN) :: (pl, W.listOf #[.ref D, .int (kk') tt'] nn') :: (D, W.listOf ws.toArray 0) :: (L + 1, oP) :: (193, tabObj ps) :: (d, od) :: (I, oI) :: (Tn ++ iT)), x.1 ≠ ilr ∧ x.1 ≠ ilt := (all_cons ⟨hne8.2.1.symm, hne8.2.2.2.1.symm⟩ (all_cons ⟨hne8.2.2.1.symm, hne8.2.2.2.2.1.symm⟩ (all_cons ⟨o1.1.symm, o2.1.symm⟩ (all_cons ⟨o1.2.1.symm, o2.2.1.symm⟩ (all_cons ⟨o1.2.2.1.symm, o2.2.2.1.symm⟩ (all_cons ⟨o1.2.2.2.symm, o2.2.2.2.symm⟩ (all_cons ⟨hdd.1, hdd.2.1⟩ (all_cons ⟨hIs.1, hIs.2.1⟩ (off_two hoffU mm1 mm2)))))))))
            refine add_spec (T := iT) (Tr := Tn) ⟨B0, F3, X, T0, rfl⟩ (by show dp + 1 + 10 < 900; omega) (news_sub N3p ((by with_reducible ((repeat' first | refine Mine.sub_cons ?_ ?_ | refine Mine.sub_app ?_ ?_ | exact Mine.sub_nil); all_goals first | exact Mine.mm0 | exact Mine.mm1 | exact Mine.mm2 | exact Mine.mm3 | exact Mine.mm4 | exact Mine.mm5 | exact Mine.mm6 | exact Mine.mm7 | exact Mine.mm8 | exact Mine.mm9 | exact Mine.mm10 | exact Mine.mm11 | exact Mine.mm12 | exact Mine.mm13 | exact Mine.sub_rfl | exact Mine.apL | exact Mine.apR | exact Mine.apRL | exact Mine.apRR | exact Mine.apRRL | exact Mine.apRRR | ((first | refine Mine.up14 ?_ | refine Mine.up13 ?_ | refine Mine.up12 ?_ | refine Mine.up11 ?_ | refine Mine.up10 ?_ | refine Mine.up9 ?_ | refine Mine.up8 ?_ | refine Mine.up7 ?_ | refine Mine.up6 ?_ | refine Mine.up5 ?_ | refine Mine.up4 ?_ | refine Mine.up3 ?_ | refine Mine.up2 ?_ | refine Mine.up1 ?_); first | exact Mine.sub_rfl | exact Mine.apL | exact Mine.apR | exact Mine.apRL | exact Mine.apRR | exact Mine.apRRL | exact Mine.apRRR))))) hne8 hR hA (bears_sub N3p ((by with_reducible ((repeat' first | refine Mine.sub_cons ?_ ?_ | refine Mine.sub_app ?_ ?_ | exact Mine.sub_nil); all_goals first | exact Mine.mm0 | exact Mine.mm1 | exact Mine.mm2 | exact Mine.mm3 | exact Mine.mm4 | exact Mine.mm5 | exact Mine.mm6 | exact Mine.mm7 | exact Mine.mm8 | exact Mine.mm9 | exact Mine.mm10 | exact Mine.mm11 | exact Mine.mm12 | exact Mine.mm13 | exact Mine.sub_rfl | exact Mine.apL | exact Mine.apR | exact Mine.apRL | exact Mine.apRR | exact Mine.apRRL | exact Mine.apRRR | ((first | refine Mine.up14 ?_ | refine Mine.up13 ?_ | refine Mine.up12 ?_ | refine Mine.up11 ?_ | refine Mine.up10 ?_ | refine Mine.up9 ?_ | refine Mine.up8 ?_ | refine Mine.up7 ?_ | refine Mine.up6 ?_ | refine Mine.up5 ?_ | refine Mine.up4 ?_ | refine Mine.up3 ?_ | refine Mine.up2 ?_ | refine Mine.up1 ?_); first | exact Mine.sub_rfl | exact Mine.apL | exact Mine.apR | exact Mine.apRL | exact Mine.apRR | exact Mine.apRRL | exact Mine.apRRR))))) (fun p hp => ⟨off_of offTn mm1 p hp, off_of offTn mm2 p hp, off_of offTx mm0 p hp, off_of offTx mm1 p hp⟩)
              (fun h12 tk12 irs' inr' intt' T3 f' hadd k12 e12 e12' hR' fr12 => ?aok) (fun h12 tk12 e y G irs' inr' intt' T3 f' hadd hfl kG eG eG' hR' frG => ?aerr)
            case aok =>
              have F4 := fr_two F3 N3p k12
              have N4 := fr12.news F3 (news_two N3p k12 e12 e12' hrest)
              have off3 := fresh_off fr12 hold3
              clear F3 N3 N3p k12
              dsimp only
              k_steps
              exact ⟨_, h12, tk12, .none, irs', inr', intt', f', T3, none, rfl, rfl, hadd, .inl ⟨rfl, rfl⟩, F4, hmi, hmo, rfl, rfl, news_sub N4 ((by with_reducible ((repeat' first | refine Mine.sub_cons ?_ ?_ | refine Mine.sub_app ?_ ?_ | exact Mine.sub_nil); all_goals first | exact Mine.mm0 | exact Mine.mm1 | exact Mine.mm2 | exact Mine.mm3 | exact Mine.mm4 | exact Mine.mm5 | exact Mine.mm6 | exact Mine.mm7 | exact Mine.mm8 | exact Mine.mm9 | exact Mine.mm10 | exact Mine.mm11 | exact Mine.mm12 | exact Mine.mm13 | (refine Mine.mL ?_; first | exact Mine.mm0 | exact Mine.mm1 | exact Mine.mm2 | exact Mine.mm3 | exact Mine.mm4 | exact Mine.mm5 | exact Mine.mm6 | exact Mine.mm7 | exact Mine.mm8 | exact Mine.mm9 | exact Mine.mm10 | exact Mine.mm11 | exact Mine.mm12 | exact Mine.mm13) | (refine Mine.mR ?_; first | exact Mine.mm0 | exact Mine.mm1 | exact Mine.mm2 | exact Mine.mm3 | exact Mine.mm4 | exact Mine.mm5 | exact Mine.mm6 | exact Mine.mm7 | exact Mine.mm8 | exact Mine.mm9 | exact Mine.mm10 | exact Mine.mm11 | exact Mine.mm12 | exact Mine.mm13) | exact Mine.sub_rfl | exact Mine.apL | exact Mine.apR | exact Mine.apRL | exact Mine.apRR | exact Mine.apRRL | exact Mine.apRRR | ((first | refine Mine.up14 ?_ | refine Mine.up13 ?_ | refine Mine.up12 ?_ | refine Mine.up11 ?_ | refine Mine.up10 ?_ | refine Mine.up9 ?_ | refine Mine.up8 ?_ | refine Mine.up7 ?_ | refine Mine.up6 ?_ | refine Mine.up5 ?_ | refine Mine.up4 ?_ | refine Mine.up3 ?_ | refine Mine.up2 ?_ | refine Mine.up1 ?_); first | exact Mine.sub_rfl | exact Mine.apL | exact Mine.apR | exact Mine.apRL | exact Mine.apRR | exact Mine.apRRL | exact Mine.apRRR) | (refine Mine.inL ?_; first | exact Mine.sub_rfl | exact Mine.apL | exact Mine.apR | exact Mine.apRL | exact Mine.apRR | exact Mine.apRRL | exact Mine.apRRR | ((first | refine Mine.up14 ?_ | refine Mine.up13 ?_ | refine Mine.up12 ?_ | refine Mine.up11 ?_ | refine Mine.up10 ?_ | refine Mine.up9 ?_ | refine Mine.up8 ?_ | refine Mine.up7 ?_ | refine Mine.up6 ?_ | refine Mine.up5 ?_ | refine Mine.up4 ?_ | refine Mine.up3 ?_ | refine Mine.up2 ?_ | refine Mine.up1 ?_); first | exact Mine.sub_rfl | exact Mine.apL | exact Mine.apR | exact Mine.apRL | exact Mine.apRR | exact Mine.apRRL | exact Mine.apRRR)) | (refine Mine.inR ?_; first | exact Mine.sub_rfl | exact Mine.apL | exact Mine.apR | exact Mine.apRL | exact Mine.apRR | exact Mine.apRRL | exact Mine.apRRR | ((first | refine Mine.up14 ?_ | refine Mine.up13 ?_ | refine Mine.up12 ?_ | refine Mine.up11 ?_ | refine Mine.up10 ?_ | refine Mine.up9 ?_ | refine Mine.up8 ?_ | refine Mine.up7 ?_ | refine Mine.up6 ?_ | refine Mine.up5 ?_ | refine Mine.up4 ?_ | refine Mine.up3 ?_ | refine Mine.up2 ?_ | refine Mine.up1 ?_); first | exact Mine.sub_rfl | exact Mine.apL | exact Mine.apR | exact Mine.apRL | exact Mine.apRR | exact Mine.apRRL | exact Mine.apRRR))))), hR', off3⟩
            case aerr =>
              have FG := fr_two F3 N3p kG
              have NG := frG.news F3 (news_two N3p kG eG eG' hrest)
              have off3 := fresh_off frG hold3
              refine catchD (fault56 wld) hfl FG B0 X T0 (by k_is) fun h13 g13 tk13 dd td ud oe T13 F13 B13 hkeep he hc hdc hnc hd => ?_
              have F13' : Fr g L h13 _ := ⟨F13.ns, fun b o e' => F13.keep b o (T13.other b o e' (fun q => nomatch q)), by rw [← T13.size]; exact F13.above⟩
              have N13 : News g L h13 _ := fun p hp => ⟨hkeep _ _ (NG p hp).1 (fun q => (frs_cons rfl q).elim (NG p hp).2.1 (fun z => nomatch z)), (NG p hp).2⟩
              clear F13 T13 B13 hkeep NG FG F3 N3 N3p
              k_steps
              refine text_attr (fault56 wld) (X.keeps F13'.keep) he hc hdc hnc hd ?_
              k_steps
              rename Fr _ _ _ _ => F7
              rename News _ _ _ _ => N7
              refine wpAny_nameGoes_keeps rfl F7.ns rfl fun h17 v17 hn17 hs17 => ?_
              exact ⟨_, h17, _, _, irs', inr', intt', f', T3, some y, rfl, rfl, hadd, .inr ⟨y, td, rfl, rfl⟩, F7.set hn17 hs17, hmi, hmo, rfl, rfl, news_sub (fun p hp => ⟨(hs17.2 p.1 (N7 p hp).2.1).trans (N7 p hp).1, (N7 p hp).2⟩) ((by with_reducible ((repeat' first | refine Mine.sub_cons ?_ ?_ | refine Mine.sub_app ?_ ?_ | exact Mine.sub_nil); all_goals first | exact Mine.mm0 | exact Mine.mm1 | exact Mine.mm2 | exact Mine.mm3 | exact Mine.mm4 | exact Mine.mm5 | exact Mine.mm6 | exact Mine.mm7 | exact Mine.mm8 | exact Mine.mm9 | exact Mine.mm10 | exact Mine.mm11 | exact Mine.mm12 | exact Mine.mm13 | (refine Mine.mL ?_; first | exact Mine.mm0 | exact Mine.mm1 | exact Mine.mm2 | exact Mine.mm3 | exact Mine.mm4 | exact Mine.mm5 | exact Mine.mm6 | exact Mine.mm7 | exact Mine.mm8 | exact Mine.mm9 | exact Mine.mm10 | exact Mine.mm11 | exact Mine.mm12 | exact Mine.mm13) | (refine Mine.mR ?_; first | exact Mine.mm0 | exact Mine.mm1 | exact Mine.mm2 | exact Mine.mm3 | exact Mine.mm4 | exact Mine.mm5 | exact Mine.mm6 | exact Mine.mm7 | exact Mine.mm8 | exact Mine.mm9 | exact Mine.mm10 | exact Mine.mm11 | exact Mine.mm12 | exact Mine.mm13) | exact Mine.sub_rfl | exact Mine.apL | exact Mine.apR | exact Mine.apRL | exact Mine.apRR | exact Mine.apRRL | exact Mine.apRRR | ((first | refine Mine.up14 ?_ | refine Mine.up13 ?_ | refine Mine.up12 ?_ | refine Mine.up11 ?_ | refine Mine.up10 ?_ | refine Mine.up9 ?_ | refine Mine.up8 ?_ | refine Mine.up7 ?_ | refine Mine.up6 ?_ | refine Mine.up5 ?_ | refine Mine.up4 ?_ | refine Mine.up3 ?_ | refine Mine.up2 ?_ | refine Mine.up1 ?_); first | exact Mine.sub_rfl | exact Mine.apL | exact Mine.apR | exact Mine.apRL | exact Mine.apRR | exact Mine.apRRL | exact Mine.apRRR) | (refine Mine.inL ?_; first | exact Mine.sub_rfl | exact Mine.apL | exact Mine.apR | exact Mine.apRL | exact Mine.apRR | exact Mine.apRRL | exact Mine.apRRR | ((first | refine Mine.up14 ?_ | refine Mine.up13 ?_ | refine Mine.up12 ?_ | refine Mine.up11 ?_ | refine Mine.up10 ?_ | refine Mine.up9 ?_ | refine Mine.up8 ?_ | refine Mine.up7 ?_ | refine Mine.up6 ?_ | refine Mine.up5 ?_ | refine Mine.up4 ?_ | refine Mine.up3 ?_ | refine Mine.up2 ?_ | refine Mine.up1 ?_); first | exact Mine.sub_rfl | exact Mine.apL | exact Mine.apR | exact Mine.apRL | exact Mine.apRR | exact Mine.apRRL | exact Mine.apRRR)) | (refine Mine.inR ?_; first | exact Mine.sub_rfl | exact Mine.apL | exact Mine.apR | exact Mine.apRL | exact Mine.apRR | exact Mine.apRRL | exact Mine.apRRR | ((first | refine Mine.up14 ?_ | refine Mine.up13 ?_ | refine Mine.up12 ?_ | refine Mine.up11 ?_ | refine Mine.up10 ?_ | refine Mine.up9 ?_ | refine Mine.up8 ?_ | refine Mine.up7 ?_ | refine Mine.up6 ?_ | refine Mine.up5 ?_ | refine Mine.up4 ?_ | refine Mine.up3 ?_ | refine Mine.up2 ?_ | refine Mine.up1 ?_); first | exact Mine.sub_rfl | exact Mine.apL | exact Mine.apR | exact Mine.apRL | exact Mine.apRR | exact Mine.apRRL | exact Mine.apRRR))))), hR', off3⟩
          case tryR =>
            obtain ⟨m4, h13, tk13, hv, irs', inr', intt', f', T3, eo, rfl, rfl, hadd, hhv, F4, hmi4, hmo4, hmr4, hmh4, N4, hR', off3⟩ := hh
            clear F3 N3
            dsimp only
            k_steps
            have hold4 : ∀ a ∈ [pl, ilr, ilt, d, h10.objs.size], ∃ o, h13.get? a = some o := (all_cons (got N4 mm0) (all_cons (got N4 mm4) (all_cons (got N4 mm5) (all_cons (got N4 mm8) (all_cons (hIe ▸ got N4 mm9) all_nil)))))
            have hoffU3 : ∀ p ∈ T3 ++ (Tn ++ iT), p.1 ∉ [pl, ilr, ilt, d, h10.objs.size] := all_app off3 hoffU
            have N4p : News g L h13 ((d, od) :: (pl, W.listOf #[.ref D, .int (kk') tt'] nn') :: (D, W.listOf ws.toArray 0) :: (L + 1, oP) :: (193, tabObj ps) :: (ilr, W.listOf (irs' : List Value).toArray inr') :: (ilt, W.listOf (boolsOf f').toArray intt') :: (ix, instObj 89 idx) :: (idx, impDict wld ilr ilt it1 it2 iN) :: (I, oI) :: (T3 ++ (Tn ++ iT))) := news_sub N4 ((by with_reducible ((repeat' first | refine Mine.sub_cons ?_ ?_ | refine Mine.sub_app ?_ ?_ | exact Mine.sub_nil); all_goals first | exact Mine.mm0 | exact Mine.mm1 | exact Mine.mm2 | exact Mine.mm3 | exact Mine.mm4 | exact Mine.mm5 | exact Mine.mm6 | exact Mine.mm7 | exact Mine.mm8 | exact Mine.mm9 | exact Mine.mm10 | exact Mine.mm11 | exact Mine.mm12 | exact Mine.mm13 | (refine Mine.mL ?_; first | exact Mine.mm0 | exact Mine.mm1 | exact Mine.mm2 | exact Mine.mm3 | exact Mine.mm4 | exact Mine.mm5 | exact Mine.mm6 | exact Mine.mm7 | exact Mine.mm8 | exact Mine.mm9 | exact Mine.mm10 | exact Mine.mm11 | exact Mine.mm12 | exact Mine.mm13) | (refine Mine.mR ?_; first | exact Mine.mm0 | exact Mine.mm1 | exact Mine.mm2 | exact Mine.mm3 | exact Mine.mm4 | exact Mine.mm5 | exact Mine.mm6 | exact Mine.mm7 | exact Mine.mm8 | exact Mine.mm9 | exact Mine.mm10 | exact Mine.mm11 | exact Mine.mm12 | exact Mine.mm13) | exact Mine.sub_rfl | exact Mine.apL | exact Mine.apR | exact Mine.apRL | exact Mine.apRR | exact Mine.apRRL | exact Mine.apRRR | ((first | refine Mine.up14 ?_ | refine Mine.up13 ?_ | refine Mine.up12 ?_ | refine Mine.up11 ?_ | refine Mine.up10 ?_ | refine Mine.up9 ?_ | refine Mine.up8 ?_ | refine Mine.up7 ?_ | refine Mine.up6 ?_ | refine Mine.up5 ?_ | refine Mine.up4 ?_ | refine Mine.up3 ?_ | refine Mine.up2 ?_ | refine Mine.up1 ?_); first | exact Mine.sub_rfl | exact Mine.apL | exact Mine.apR | exact Mine.apRL | exact Mine.apRR | exact Mine.apRRL | exact Mine.apRRR) | (refine Mine.inL ?_; first | exact Mine.sub_rfl | exact Mine.apL | exact Mine.apR | exact Mine.apRL | exact Mine.apRR | exact Mine.apRRL | exact Mine.apRRR | ((first | refine Mine.up14 ?_ | refine Mine.up13 ?_ | refine Mine.up12 ?_ | refine Mine.up11 ?_ | refine Mine.up10 ?_ | refine Mine.up9 ?_ | refine Mine.up8 ?_ | refine Mine.up7 ?_ | refine Mine.up6 ?_ | refine Mine.up5 ?_ | refine Mine.up4 ?_ | refine Mine.up3 ?_ | refine Mine.up2 ?_ | refine Mine.up1 ?_); first | exact Mine.sub_rfl | exact Mine.apL | exact Mine.apR | exact Mine.apRL | exact Mine.apRR | exact Mine.apRRL | exact Mine.apRRR)) | (refine Mine.inR ?_; first | exact Mine.sub_rfl | exact Mine.apL | exact Mine.apR | exact Mine.apRL | exact Mine.apRR | exact Mine.apRRL | exact Mine.apRRR | ((first | refine Mine.up14 ?_ | refine Mine.up13 ?_ | refine Mine.up12 ?_ | refine Mine.up11 ?_ | refine Mine.up10 ?_ | refine Mine.up9 ?_ | refine Mine.up8 ?_ | refine Mine.up7 ?_ | refine Mine.up6 ?_ | refine Mine.up5 ?_ | refine Mine.up4 ?_ | refine Mine.up3 ?_ | refine Mine.up2 ?_ | refine Mine.up1 ?_); first | exact Mine.sub_rfl | exact Mine.apL | exact Mine.apR | exact Mine.apRL | exact Mine.apRR | exact Mine.apRRL | exact Mine.apRRR)))))
            have hrestd : ∀ x ∈ ((pl, W.listOf #[.ref D, .int (kk') tt'] nn') :: (D, W.listOf ws.toArray 0) :: (L + 1, oP) :: (193, tabObj ps) :: (ilr, W.listOf (irs' : List Value).toArray inr') :: (ilt, W.listOf (boolsOf f').toArray intt') :: (ix, instObj 89 idx) :: (idx, impDict wld ilr ilt it1 it2 iN) :: (I, oI) :: (T3 ++ (Tn ++ iT))), @Ne Nat x.1 d := (all_cons hdo.2.2.2 (all_cons hdo.1 (all_cons hdo.2.1 (all_cons hdo.2.2.1 (all_cons hdd.1.symm (all_cons hdd.2.1.symm (all_cons hdd.2.2.1.symm (all_cons hdd.2.2.2.symm (all_cons hIs.2.2.1 (off_ne hoffU3 mm3))))))))))
            refine ltold_spec (f := f) (T := iT) (Tr := Tn) (kvs := kvs) (rs := rs) ⟨B0, F4, X, T0, rfl⟩ (by show dp + 1 + 10 < 900; omega) (by show un + _ + 70 < 9000; omega) (news_sub N4p ((by with_reducible ((repeat' first | refine Mine.sub_cons ?_ ?_ | refine Mine.sub_app ?_ ?_ | exact Mine.sub_nil); all_goals first | exact Mine.mm0 | exact Mine.mm1 | exact Mine.mm2 | exact Mine.mm3 | exact Mine.mm4 | exact Mine.mm5 | exact Mine.mm6 | exact Mine.mm7 | exact Mine.mm8 | exact Mine.mm9 | exact Mine.mm10 | exact Mine.mm11 | exact Mine.mm12 | exact Mine.mm13 | exact Mine.sub_rfl | exact Mine.apL | exact Mine.apR | exact Mine.apRL | exact Mine.apRR | exact Mine.apRRL | exact Mine.apRRR | ((first | refine Mine.up14 ?_ | refine Mine.up13 ?_ | refine Mine.up12 ?_ | refine Mine.up11 ?_ | refine Mine.up10 ?_ | refine Mine.up9 ?_ | refine Mine.up8 ?_ | refine Mine.up7 ?_ | refine Mine.up6 ?_ | refine Mine.up5 ?_ | refine Mine.up4 ?_ | refine Mine.up3 ?_ | refine Mine.up2 ?_ | refine Mine.up1 ?_); first | exact Mine.sub_rfl | exact Mine.apL | exact Mine.apR | exact Mine.apRL | exact Mine.apRR | exact Mine.apRRL | exact Mine.apRRR))))) hO lo0 hW hA (bears_sub N4p ((by with_reducible ((repeat' first | refine Mine.sub_cons ?_ ?_ | refine Mine.sub_app ?_ ?_ | exact Mine.sub_nil); all_goals first | exact Mine.mm0 | exact Mine.mm1 | exact Mine.mm2 | exact Mine.mm3 | exact Mine.mm4 | exact Mine.mm5 | exact Mine.mm6 | exact Mine.mm7 | exact Mine.mm8 | exact Mine.mm9 | exact Mine.mm10 | exact Mine.mm11 | exact Mine.mm12 | exact Mine.mm13 | exact Mine.sub_rfl | exact Mine.apL | exact Mine.apR | exact Mine.apRL | exact Mine.apRR | exact Mine.apRRL | exact Mine.apRRR | ((first | refine Mine.up14 ?_ | refine Mine.up13 ?_ | refine Mine.up12 ?_ | refine Mine.up11 ?_ | refine Mine.up10 ?_ | refine Mine.up9 ?_ | refine Mine.up8 ?_ | refine Mine.up7 ?_ | refine Mine.up6 ?_ | refine Mine.up5 ?_ | refine Mine.up4 ?_ | refine Mine.up3 ?_ | refine Mine.up2 ?_ | refine Mine.up1 ?_); first | exact Mine.sub_rfl | exact Mine.apL | exact Mine.apR | exact Mine.apRL | exact Mine.apRR | exact Mine.apRRL | exact Mine.apRRR))))) (off_ne offTn mm3) fun h14 tk14 v2 od' kvs' T4 f2 hor k14 e14 hO' hW' fr14 => ?_
            have hsame := same_told hadd hhv hor
            obtain ⟨rfl, hsame⟩ := hsame
            have F5 := fr_pick F4 N4p k14
            have N5 : News g L h14 ((pl, W.listOf #[.ref D, .int (kk') tt'] nn') :: (D, W.listOf ws.toArray 0) :: (L + 1, oP) :: (193, tabObj ps) :: (ilr, W.listOf (irs' : List Value).toArray inr') :: (ilt, W.listOf (boolsOf f2).toArray intt') :: (ix, instObj 89 idx) :: (idx, impDict wld ilr ilt it1 it2 iN) :: (d, od') :: (I, oI) :: (T4 ++ (T3 ++ (Tn ++ iT)))) := news_sub (fr14.news F4 (news_pick N4p k14 e14 hrestd)) ((by with_reducible ((repeat' first | refine Mine.sub_cons ?_ ?_ | refine Mine.sub_app ?_ ?_ | exact Mine.sub_nil); all_goals first | exact Mine.mm0 | exact Mine.mm1 | exact Mine.mm2 | exact Mine.mm3 | exact Mine.mm4 | exact Mine.mm5 | exact Mine.mm6 | exact Mine.mm7 | exact Mine.mm8 | exact Mine.mm9 | exact Mine.mm10 | exact Mine.mm11 | exact Mine.mm12 | exact Mine.mm13 | (refine Mine.mL ?_; first | exact Mine.mm0 | exact Mine.mm1 | exact Mine.mm2 | exact Mine.mm3 | exact Mine.mm4 | exact Mine.mm5 | exact Mine.mm6 | exact Mine.mm7 | exact Mine.mm8 | exact Mine.mm9 | exact Mine.mm10 | exact Mine.mm11 | exact Mine.mm12 | exact Mine.mm13) | (refine Mine.mR ?_; first | exact Mine.mm0 | exact Mine.mm1 | exact Mine.mm2 | exact Mine.mm3 | exact Mine.mm4 | exact Mine.mm5 | exact Mine.mm6 | exact Mine.mm7 | exact Mine.mm8 | exact Mine.mm9 | exact Mine.mm10 | exact Mine.mm11 | exact Mine.mm12 | exact Mine.mm13) | exact Mine.sub_rfl | exact Mine.apL | exact Mine.apR | exact Mine.apRL | exact Mine.apRR | exact Mine.apRRL | exact Mine.apRRR | ((first | refine Mine.up14 ?_ | refine Mine.up13 ?_ | refine Mine.up12 ?_ | refine Mine.up11 ?_ | refine Mine.up10 ?_ | refine Mine.up9 ?_ | refine Mine.up8 ?_ | refine Mine.up7 ?_ | refine Mine.up6 ?_ | refine Mine.up5 ?_ | refine Mine.up4 ?_ | refine Mine.up3 ?_ | refine Mine.up2 ?_ | refine Mine.up1 ?_); first | exact Mine.sub_rfl | exact Mine.apL | exact Mine.apR | exact Mine.apRL | exact Mine.apRR | exact Mine.apRRL | exact Mine.apRRR) | (refine Mine.inL ?_; first | exact Mine.sub_rfl | exact Mine.apL | exact Mine.apR | exact Mine.apRL | exact Mine.apRR | exact Mine.apRRL | exact Mine.apRRR | ((first | refine Mine.up14 ?_ | refine Mine.up13 ?_ | refine Mine.up12 ?_ | refine Mine.up11 ?_ | refine Mine.up10 ?_ | refine Mine.up9 ?_ | refine Mine.up8 ?_ | refine Mine.up7 ?_ | refine Mine.up6 ?_ | refine Mine.up5 ?_ | refine Mine.up4 ?_ | refine Mine.up3 ?_ | refine Mine.up2 ?_ | refine Mine.up1 ?_); first | exact Mine.sub_rfl | exact Mine.apL | exact Mine.apR | exact Mine.apRL | exact Mine.apRR | exact Mine.apRRL | exact Mine.apRRR)) | (refine Mine.inR ?_; first | exact Mine.sub_rfl | exact Mine.apL | exact Mine.apR | exact Mine.apRL | exact Mine.apRR | exact Mine.apRRL | exact Mine.apRRR | ((first | refine Mine.up14 ?_ | refine Mine.up13 ?_ | refine Mine.up12 ?_ | refine Mine.up11 ?_ | refine Mine.up10 ?_ | refine Mine.up9 ?_ | refine Mine.up8 ?_ | refine Mine.up7 ?_ | refine Mine.up6 ?_ | refine Mine.up5 ?_ | refine Mine.up4 ?_ | refine Mine.up3 ?_ | refine Mine.up2 ?_ | refine Mine.up1 ?_); first | exact Mine.sub_rfl | exact Mine.apL | exact Mine.apR | exact Mine.apRL | exact Mine.apRR | exact Mine.apRRL | exact Mine.apRRR)))))
            have off4 := fresh_off fr14 hold4
            clear F4 N4 N4p k14 e14 fr14
            dsimp only
            have hend : ∀ p ∈ T4 ++ (T3 ++ (Tn ++ iT)), p.1 ∉ [pl, ilr, ilt, d, h10.objs.size] := all_app off4 hoffU3
            have hkd := wb2 hkk1 hkk1'
            replace hkd : Hold _ := hkd
            replace hkk1' : Hold _ := hkk1'
            rcases hsame with ⟨rfl, rfl⟩ | ⟨y, ty1, ty2, rfl, rfl⟩
            · k_steps
              have hbA' : Bears h14 (T3 ++ (Tn ++ iT)) := bears_sub N5 ((by with_reducible ((repeat' first | refine Mine.sub_cons ?_ ?_ | refine Mine.sub_app ?_ ?_ | exact Mine.sub_nil); all_goals first | exact Mine.mm0 | exact Mine.mm1 | exact Mine.mm2 | exact Mine.mm3 | exact Mine.mm4 | exact Mine.mm5 | exact Mine.mm6 | exact Mine.mm7 | exact Mine.mm8 | exact Mine.mm9 | exact Mine.mm10 | exact Mine.mm11 | exact Mine.mm12 | exact Mine.mm13 | exact Mine.sub_rfl | exact Mine.apL | exact Mine.apR | exact Mine.apRL | exact Mine.apRR | exact Mine.apRRL | exact Mine.apRRR | ((first | refine Mine.up14 ?_ | refine Mine.up13 ?_ | refine Mine.up12 ?_ | refine Mine.up11 ?_ | refine Mine.up10 ?_ | refine Mine.up9 ?_ | refine Mine.up8 ?_ | refine Mine.up7 ?_ | refine Mine.up6 ?_ | refine Mine.up5 ?_ | refine Mine.up4 ?_ | refine Mine.up3 ?_ | refine Mine.up2 ?_ | refine Mine.up1 ?_); first | exact Mine.sub_rfl | exact Mine.apL | exact Mine.apR | exact Mine.apRL | exact Mine.apRR | exact Mine.apRRL | exact Mine.apRRR))))
              have hbB' : Bears h14 (T4 ++ (Tn ++ iT)) := bears_sub N5 ((by with_reducible ((repeat' first | refine Mine.sub_cons ?_ ?_ | refine Mine.sub_app ?_ ?_ | exact Mine.sub_nil); all_goals first | exact Mine.mm0 | exact Mine.mm1 | exact Mine.mm2 | exact Mine.mm3 | exact Mine.mm4 | exact Mine.mm5 | exact Mine.mm6 | exact Mine.mm7 | exact Mine.mm8 | exact Mine.mm9 | exact Mine.mm10 | exact Mine.mm11 | exact Mine.mm12 | exact Mine.mm13 | exact Mine.sub_rfl | exact Mine.apL | exact Mine.apR | exact Mine.apRL | exact Mine.apRR | exact Mine.apRRL | exact Mine.apRRR | ((first | refine Mine.up14 ?_ | refine Mine.up13 ?_ | refine Mine.up12 ?_ | refine Mine.up11 ?_ | refine Mine.up10 ?_ | refine Mine.up9 ?_ | refine Mine.up8 ?_ | refine Mine.up7 ?_ | refine Mine.up6 ?_ | refine Mine.up5 ?_ | refine Mine.up4 ?_ | refine Mine.up3 ?_ | refine Mine.up2 ?_ | refine Mine.up1 ?_); first | exact Mine.sub_rfl | exact Mine.apL | exact Mine.apR | exact Mine.apRL | exact Mine.apRR | exact Mine.apRRL | exact Mine.apRRR))))
              have N5q : News g L h14 [(ilr, W.listOf irs'.toArray inr'), (ilt, W.listOf (boolsOf f2).toArray intt'), (ix, instObj 89 idx), (idx, impDict wld ilr ilt it1 it2 iN), (d, od')] := news_sub N5 ((by with_reducible ((repeat' first | refine Mine.sub_cons ?_ ?_ | refine Mine.sub_app ?_ ?_ | exact Mine.sub_nil); all_goals first | exact Mine.mm0 | exact Mine.mm1 | exact Mine.mm2 | exact Mine.mm3 | exact Mine.mm4 | exact Mine.mm5 | exact Mine.mm6 | exact Mine.mm7 | exact Mine.mm8 | exact Mine.mm9 | exact Mine.mm10 | exact Mine.mm11 | exact Mine.mm12 | exact Mine.mm13 | exact Mine.sub_rfl | exact Mine.apL | exact Mine.apR | exact Mine.apRL | exact Mine.apRR | exact Mine.apRRL | exact Mine.apRRR | ((first | refine Mine.up14 ?_ | refine Mine.up13 ?_ | refine Mine.up12 ?_ | refine Mine.up11 ?_ | refine Mine.up10 ?_ | refine Mine.up9 ?_ | refine Mine.up8 ?_ | refine Mine.up7 ?_ | refine Mine.up6 ?_ | refine Mine.up5 ?_ | refine Mine.up4 ?_ | refine Mine.up3 ?_ | refine Mine.up2 ?_ | refine Mine.up1 ?_); first | exact Mine.sub_rfl | exact Mine.apL | exact Mine.apR | exact Mine.apRL | exact Mine.apRR | exact Mine.apRRL | exact Mine.apRRR))))
              (try dsimp only)
              refine' alike_spec (f := f2) (T := T3 ++ (Tn ++ iT)) (T2 := T4 ++ (Tn ++ iT)) (kvs := kvs') ?H1 ?H2 ?H3 ?H4 hR' ?H6 hO' lo0 hW' ?H10 ?H11
              case H1 => exact ⟨B0, F5, X, T0, rfl⟩
              case H2 => (show dp + 1 + 20 < 900; omega)
              case H3 => (show un + 3 + 100 < 9000; omega)
              case H4 => exact N5q
              case H6 => exact hbA'
              case H10 => exact hbB'
              intro h15 tk15 k15
              have F6 := fr_kept F5 k15 (fun a ha => nomatch ha)
              have N6 := news_kept N5 k15 (fun p hp h => nomatch h)
              clear F5 N5 k15
              dsimp only
              k_steps
              subst hRa
              exact ⟨_, _, rfl, ⟨m4, kk', tt', nn', f2, irs', inr', intt', od', kvs', T4 ++ (T3 ++ (Tn ++ iT)), hkk0', hkd, F6, hmi4, hmo4, news_sub N6 ((by with_reducible ((repeat' first | refine Mine.sub_cons ?_ ?_ | refine Mine.sub_app ?_ ?_ | exact Mine.sub_nil); all_goals first | exact Mine.mm0 | exact Mine.mm1 | exact Mine.mm2 | exact Mine.mm3 | exact Mine.mm4 | exact Mine.mm5 | exact Mine.mm6 | exact Mine.mm7 | exact Mine.mm8 | exact Mine.mm9 | exact Mine.mm10 | exact Mine.mm11 | exact Mine.mm12 | exact Mine.mm13 | (refine Mine.mL ?_; first | exact Mine.mm0 | exact Mine.mm1 | exact Mine.mm2 | exact Mine.mm3 | exact Mine.mm4 | exact Mine.mm5 | exact Mine.mm6 | exact Mine.mm7 | exact Mine.mm8 | exact Mine.mm9 | exact Mine.mm10 | exact Mine.mm11 | exact Mine.mm12 | exact Mine.mm13) | (refine Mine.mR ?_; first | exact Mine.mm0 | exact Mine.mm1 | exact Mine.mm2 | exact Mine.mm3 | exact Mine.mm4 | exact Mine.mm5 | exact Mine.mm6 | exact Mine.mm7 | exact Mine.mm8 | exact Mine.mm9 | exact Mine.mm10 | exact Mine.mm11 | exact Mine.mm12 | exact Mine.mm13) | exact Mine.sub_rfl | exact Mine.apL | exact Mine.apR | exact Mine.apRL | exact Mine.apRR | exact Mine.apRRL | exact Mine.apRRR | ((first | refine Mine.up14 ?_ | refine Mine.up13 ?_ | refine Mine.up12 ?_ | refine Mine.up11 ?_ | refine Mine.up10 ?_ | refine Mine.up9 ?_ | refine Mine.up8 ?_ | refine Mine.up7 ?_ | refine Mine.up6 ?_ | refine Mine.up5 ?_ | refine Mine.up4 ?_ | refine Mine.up3 ?_ | refine Mine.up2 ?_ | refine Mine.up1 ?_); first | exact Mine.sub_rfl | exact Mine.apL | exact Mine.apR | exact Mine.apRL | exact Mine.apRR | exact Mine.apRRL | exact Mine.apRRR) | (refine Mine.inL ?_; first | exact Mine.sub_rfl | exact Mine.apL | exact Mine.apR | exact Mine.apRL | exact Mine.apRR | exact Mine.apRRL | exact Mine.apRRR | ((first | refine Mine.up14 ?_ | refine Mine.up13 ?_ | refine Mine.up12 ?_ | refine Mine.up11 ?_ | refine Mine.up10 ?_ | refine Mine.up9 ?_ | refine Mine.up8 ?_ | refine Mine.up7 ?_ | refine Mine.up6 ?_ | refine Mine.up5 ?_ | refine Mine.up4 ?_ | refine Mine.up3 ?_ | refine Mine.up2 ?_ | refine Mine.up1 ?_); first | exact Mine.sub_rfl | exact Mine.apL | exact Mine.apR | exact Mine.apRL | exact Mine.apRR | exact Mine.apRRL | exact Mine.apRRR)) | (refine Mine.inR ?_; first | exact Mine.sub_rfl | exact Mine.apL | exact Mine.apR | exact Mine.apRL | exact Mine.apRR | exact Mine.apRRL | exact Mine.apRRR | ((first | refine Mine.up14 ?_ | refine Mine.up13 ?_ | refine Mine.up12 ?_ | refine Mine.up11 ?_ | refine Mine.up10 ?_ | refine Mine.up9 ?_ | refine Mine.up8 ?_ | refine Mine.up7 ?_ | refine Mine.up6 ?_ | refine Mine.up5 ?_ | refine Mine.up4 ?_ | refine Mine.up3 ?_ | refine Mine.up2 ?_ | refine Mine.up1 ?_); first | exact Mine.sub_rfl | exact Mine.apL | exact Mine.apR | exact Mine.apRL | exact Mine.apRR | exact Mine.apRRL | exact Mine.apRRR))))), hR'.mono apR, hO', hW'.mono (sub_app apL (inR apR)), hend⟩, fp_one hIo N6 mm9⟩
            · k_steps
              refine unheld (ne_str ?_)
              rw [show (y != y) = false by simp]
              k_steps
              have hbA' : Bears h14 (T3 ++ (Tn ++ iT)) := bears_sub N5 ((by with_reducible ((repeat' first | refine Mine.sub_cons ?_ ?_ | refine Mine.sub_app ?_ ?_ | exact Mine.sub_nil); all_goals first | exact Mine.mm0 | exact Mine.mm1 | exact Mine.mm2 | exact Mine.mm3 | exact Mine.mm4 | exact Mine.mm5 | exact Mine.mm6 | exact Mine.mm7 | exact Mine.mm8 | exact Mine.mm9 | exact Mine.mm10 | exact Mine.mm11 | exact Mine.mm12 | exact Mine.mm13 | exact Mine.sub_rfl | exact Mine.apL | exact Mine.apR | exact Mine.apRL | exact Mine.apRR | exact Mine.apRRL | exact Mine.apRRR | ((first | refine Mine.up14 ?_ | refine Mine.up13 ?_ | refine Mine.up12 ?_ | refine Mine.up11 ?_ | refine Mine.up10 ?_ | refine Mine.up9 ?_ | refine Mine.up8 ?_ | refine Mine.up7 ?_ | refine Mine.up6 ?_ | refine Mine.up5 ?_ | refine Mine.up4 ?_ | refine Mine.up3 ?_ | refine Mine.up2 ?_ | refine Mine.up1 ?_); first | exact Mine.sub_rfl | exact Mine.apL | exact Mine.apR | exact Mine.apRL | exact Mine.apRR | exact Mine.apRRL | exact Mine.apRRR))))
              have hbB' : Bears h14 (T4 ++ (Tn ++ iT)) := bears_sub N5 ((by with_reducible ((repeat' first | refine Mine.sub_cons ?_ ?_ | refine Mine.sub_app ?_ ?_ | exact Mine.sub_nil); all_goals first | exact Mine.mm0 | exact Mine.mm1 | exact Mine.mm2 | exact Mine.mm3 | exact Mine.mm4 | exact Mine.mm5 | exact Mine.mm6 | exact Mine.mm7 | exact Mine.mm8 | exact Mine.mm9 | exact Mine.mm10 | exact Mine.mm11 | exact Mine.mm12 | exact Mine.mm13 | exact Mine.sub_rfl | exact Mine.apL | exact Mine.apR | exact Mine.apRL | exact Mine.apRR | exact Mine.apRRL | exact Mine.apRRR | ((first | refine Mine.up14 ?_ | refine Mine.up13 ?_ | refine Mine.up12 ?_ | refine Mine.up11 ?_ | refine Mine.up10 ?_ | refine Mine.up9 ?_ | refine Mine.up8 ?_ | refine Mine.up7 ?_ | refine Mine.up6 ?_ | refine Mine.up5 ?_ | refine Mine.up4 ?_ | refine Mine.up3 ?_ | refine Mine.up2 ?_ | refine Mine.up1 ?_); first | exact Mine.sub_rfl | exact Mine.apL | exact Mine.apR | exact Mine.apRL | exact Mine.apRR | exact Mine.apRRL | exact Mine.apRRR))))
              have N5q : News g L h14 [(ilr, W.listOf irs'.toArray inr'), (ilt, W.listOf (boolsOf f2).toArray intt'), (ix, instObj 89 idx), (idx, impDict wld ilr ilt it1 it2 iN), (d, od')] := news_sub N5 ((by with_reducible ((repeat' first | refine Mine.sub_cons ?_ ?_ | refine Mine.sub_app ?_ ?_ | exact Mine.sub_nil); all_goals first | exact Mine.mm0 | exact Mine.mm1 | exact Mine.mm2 | exact Mine.mm3 | exact Mine.mm4 | exact Mine.mm5 | exact Mine.mm6 | exact Mine.mm7 | exact Mine.mm8 | exact Mine.mm9 | exact Mine.mm10 | exact Mine.mm11 | exact Mine.mm12 | exact Mine.mm13 | exact Mine.sub_rfl | exact Mine.apL | exact Mine.apR | exact Mine.apRL | exact Mine.apRR | exact Mine.apRRL | exact Mine.apRRR | ((first | refine Mine.up14 ?_ | refine Mine.up13 ?_ | refine Mine.up12 ?_ | refine Mine.up11 ?_ | refine Mine.up10 ?_ | refine Mine.up9 ?_ | refine Mine.up8 ?_ | refine Mine.up7 ?_ | refine Mine.up6 ?_ | refine Mine.up5 ?_ | refine Mine.up4 ?_ | refine Mine.up3 ?_ | refine Mine.up2 ?_ | refine Mine.up1 ?_); first | exact Mine.sub_rfl | exact Mine.apL | exact Mine.apR | exact Mine.apRL | exact Mine.apRR | exact Mine.apRRL | exact Mine.apRRR))))
              (try dsimp only)
              refine' alike_spec (f := f2) (T := T3 ++ (Tn ++ iT)) (T2 := T4 ++ (Tn ++ iT)) (kvs := kvs') ?K1 ?K2 ?K3 ?K4 hR' ?K6 hO' lo0 hW' ?K10 ?K11
              case K1 => exact ⟨B0, F5, X, T0, rfl⟩
              case K2 => (show dp + 1 + 20 < 900; omega)
              case K3 => (show un + 3 + 100 < 9000; omega)
              case K4 => exact N5q
              case K6 => exact hbA'
              case K10 => exact hbB'
              intro h15 tk15 k15
              have F6 := fr_kept F5 k15 (fun a ha => nomatch ha)
              have N6 := news_kept N5 k15 (fun p hp h => nomatch h)
              clear F5 N5 k15
              dsimp only
              k_steps
              subst hRa
              exact ⟨_, _, rfl, ⟨m4, kk', tt', nn', f2, irs', inr', intt', od', kvs', T4 ++ (T3 ++ (Tn ++ iT)), hkk0', hkd, F6, hmi4, hmo4, news_sub N6 ((by with_reducible ((repeat' first | refine Mine.sub_cons ?_ ?_ | refine Mine.sub_app ?_ ?_ | exact Mine.sub_nil); all_goals first | exact Mine.mm0 | exact Mine.mm1 | exact Mine.mm2 | exact Mine.mm3 | exact Mine.mm4 | exact Mine.mm5 | exact Mine.mm6 | exact Mine.mm7 | exact Mine.mm8 | exact Mine.mm9 | exact Mine.mm10 | exact Mine.mm11 | exact Mine.mm12 | exact Mine.mm13 | (refine Mine.mL ?_; first | exact Mine.mm0 | exact Mine.mm1 | exact Mine.mm2 | exact Mine.mm3 | exact Mine.mm4 | exact Mine.mm5 | exact Mine.mm6 | exact Mine.mm7 | exact Mine.mm8 | exact Mine.mm9 | exact Mine.mm10 | exact Mine.mm11 | exact Mine.mm12 | exact Mine.mm13) | (refine Mine.mR ?_; first | exact Mine.mm0 | exact Mine.mm1 | exact Mine.mm2 | exact Mine.mm3 | exact Mine.mm4 | exact Mine.mm5 | exact Mine.mm6 | exact Mine.mm7 | exact Mine.mm8 | exact Mine.mm9 | exact Mine.mm10 | exact Mine.mm11 | exact Mine.mm12 | exact Mine.mm13) | exact Mine.sub_rfl | exact Mine.apL | exact Mine.apR | exact Mine.apRL | exact Mine.apRR | exact Mine.apRRL | exact Mine.apRRR | ((first | refine Mine.up14 ?_ | refine Mine.up13 ?_ | refine Mine.up12 ?_ | refine Mine.up11 ?_ | refine Mine.up10 ?_ | refine Mine.up9 ?_ | refine Mine.up8 ?_ | refine Mine.up7 ?_ | refine Mine.up6 ?_ | refine Mine.up5 ?_ | refine Mine.up4 ?_ | refine Mine.up3 ?_ | refine Mine.up2 ?_ | refine Mine.up1 ?_); first | exact Mine.sub_rfl | exact Mine.apL | exact Mine.apR | exact Mine.apRL | exact Mine.apRR | exact Mine.apRRL | exact Mine.apRRR) | (refine Mine.inL ?_; first | exact Mine.sub_rfl | exact Mine.apL | exact Mine.apR | exact Mine.apRL | exact Mine.apRR | exact Mine.apRRL | exact Mine.apRRR | ((first | refine Mine.up14 ?_ | refine Mine.up13 ?_ | refine Mine.up12 ?_ | refine Mine.up11 ?_ | refine Mine.up10 ?_ | refine Mine.up9 ?_ | refine Mine.up8 ?_ | refine Mine.up7 ?_ | refine Mine.up6 ?_ | refine Mine.up5 ?_ | refine Mine.up4 ?_ | refine Mine.up3 ?_ | refine Mine.up2 ?_ | refine Mine.up1 ?_); first | exact Mine.sub_rfl | exact Mine.apL | exact Mine.apR | exact Mine.apRL | exact Mine.apRR | exact Mine.apRRL | exact Mine.apRRR)) | (refine Mine.inR ?_; first | exact Mine.sub_rfl | exact Mine.apL | exact Mine.apR | exact Mine.apRL | exact Mine.apRR | exact Mine.apRRL | exact Mine.apRRR | ((first | refine Mine.up14 ?_ | refine Mine.up13 ?_ | refine Mine.up12 ?_ | refine Mine.up11 ?_ | refine Mine.up10 ?_ | refine Mine.up9 ?_ | refine Mine.up8 ?_ | refine Mine.up7 ?_ | refine Mine.up6 ?_ | refine Mine.up5 ?_ | refine Mine.up4 ?_ | refine Mine.up3 ?_ | refine Mine.up2 ?_ | refine Mine.up1 ?_); first | exact Mine.sub_rfl | exact Mine.apL | exact Mine.apR | exact Mine.apRL | exact Mine.apRR | exact Mine.apRRL | exact Mine.apRRR))))), hR'.mono apR, hO', hW'.mono (sub_app apL (inR apR)), hend⟩, fp_one hIo N6 mm9⟩
        case done2 =>
          rintro h tk ⟨m, kk, tt, nn, f, irs, inr, intt, od, kvs, iT, hkk0, hkk1, F, hmi, hmo, N, hR, hO, hW, hoff⟩
          clear F5 N5 hRg
          dsimp only
          k_steps
          rename Fr _ _ _ _ => F
          rename News _ _ _ _ => N
          refine implicit_spec ⟨B0, F, X, T0, rfl⟩ (by show dp + 1 + 5 < 900; omega) fun h16 tk16 jx jdx jlr jlt jt1 jt2 jN jrs jnr jntt jT k16 fr16 hR16 hne16 hT16 => ?_
          have F16 := fr_kept F k16 (fun a ha => nomatch ha)
          have offJ := fresh_off (X := [L + 1, ilr, ilt, ix, idx, d, 193]) fr16 (all_cons (got N mm2) (all_cons (got N mm4) (all_cons (got N mm5) (all_cons (got N mm6) (all_cons (got N mm7) (all_cons (got N mm8) (all_cons (got N mm3) all_nil)))))))
          have N16 : News g L h16 ((jlr, W.listOf jrs.toArray jnr) :: (jlt, W.listOf (boolsOf fun _ => none).toArray jntt) :: (jx, instObj 89 jdx) :: (jdx, impDict wld jlr jlt jt1 jt2 jN) :: (ilr, W.listOf (irs : List Value).toArray inr) :: (ilt, W.listOf (boolsOf f).toArray intt) :: (ix, instObj 89 idx) :: (idx, impDict wld ilr ilt it1 it2 iN) :: (d, od) :: (193, tabObj ps) :: (L + 1, oP) :: (jT ++ iT)) := news_sub (fr16.news F (news_kept N k16 (fun p hp h => nomatch h))) ((by with_reducible ((repeat' first | refine Mine.sub_cons ?_ ?_ | refine Mine.sub_app ?_ ?_ | exact Mine.sub_nil); all_goals first | exact Mine.mm0 | exact Mine.mm1 | exact Mine.mm2 | exact Mine.mm3 | exact Mine.mm4 | exact Mine.mm5 | exact Mine.mm6 | exact Mine.mm7 | exact Mine.mm8 | exact Mine.mm9 | exact Mine.mm10 | exact Mine.mm11 | exact Mine.mm12 | exact Mine.mm13 | (refine Mine.mL ?_; first | exact Mine.mm0 | exact Mine.mm1 | exact Mine.mm2 | exact Mine.mm3 | exact Mine.mm4 | exact Mine.mm5 | exact Mine.mm6 | exact Mine.mm7 | exact Mine.mm8 | exact Mine.mm9 | exact Mine.mm10 | exact Mine.mm11 | exact Mine.mm12 | exact Mine.mm13 | (refine Mine.mL ?_; first | exact Mine.mm0 | exact Mine.mm1 | exact Mine.mm2 | exact Mine.mm3 | exact Mine.mm4 | exact Mine.mm5 | exact Mine.mm6 | exact Mine.mm7 | exact Mine.mm8 | exact Mine.mm9 | exact Mine.mm10 | exact Mine.mm11 | exact Mine.mm12 | exact Mine.mm13) | (refine Mine.mR ?_; first | exact Mine.mm0 | exact Mine.mm1 | exact Mine.mm2 | exact Mine.mm3 | exact Mine.mm4 | exact Mine.mm5 | exact Mine.mm6 | exact Mine.mm7 | exact Mine.mm8 | exact Mine.mm9 | exact Mine.mm10 | exact Mine.mm11 | exact Mine.mm12 | exact Mine.mm13)) | (refine Mine.mR ?_; first | exact Mine.mm0 | exact Mine.mm1 | exact Mine.mm2 | exact Mine.mm3 | exact Mine.mm4 | exact Mine.mm5 | exact Mine.mm6 | exact Mine.mm7 | exact Mine.mm8 | exact Mine.mm9 | exact Mine.mm10 | exact Mine.mm11 | exact Mine.mm12 | exact Mine.mm13 | (refine Mine.mL ?_; first | exact Mine.mm0 | exact Mine.mm1 | exact Mine.mm2 | exact Mine.mm3 | exact Mine.mm4 | exact Mine.mm5 | exact Mine.mm6 | exact Mine.mm7 | exact Mine.mm8 | exact Mine.mm9 | exact Mine.mm10 | exact Mine.mm11 | exact Mine.mm12 | exact Mine.mm13) | (refine Mine.mR ?_; first | exact Mine.mm0 | exact Mine.mm1 | exact Mine.mm2 | exact Mine.mm3 | exact Mine.mm4 | exact Mine.mm5 | exact Mine.mm6 | exact Mine.mm7 | exact Mine.mm8 | exact Mine.mm9 | exact Mine.mm10 | exact Mine.mm11 | exact Mine.mm12 | exact Mine.mm13)) | exact Mine.sub_rfl | exact Mine.apL | exact Mine.apR | exact Mine.apRL | exact Mine.apRR | exact Mine.apRRL | exact Mine.apRRR | ((first | refine Mine.up14 ?_ | refine Mine.up13 ?_ | refine Mine.up12 ?_ | refine Mine.up11 ?_ | refine Mine.up10 ?_ | refine Mine.up9 ?_ | refine Mine.up8 ?_ | refine Mine.up7 ?_ | refine Mine.up6 ?_ | refine Mine.up5 ?_ | refine Mine.up4 ?_ | refine Mine.up3 ?_ | refine Mine.up2 ?_ | refine Mine.up1 ?_); first | exact Mine.sub_rfl | exact Mine.apL | exact Mine.apR | exact Mine.apRL | exact Mine.apRR | exact Mine.apRRL | exact Mine.apRRR) | (refine Mine.inL ?_; first | exact Mine.sub_rfl | exact Mine.apL | exact Mine.apR | exact Mine.apRL | exact Mine.apRR | exact Mine.apRRL | exact Mine.apRRR | ((first | refine Mine.up14 ?_ | refine Mine.up13 ?_ | refine Mine.up12 ?_ | refine Mine.up11 ?_ | refine Mine.up10 ?_ | refine Mine.up9 ?_ | refine Mine.up8 ?_ | refine Mine.up7 ?_ | refine Mine.up6 ?_ | refine Mine.up5 ?_ | refine Mine.up4 ?_ | refine Mine.up3 ?_ | refine Mine.up2 ?_ | refine Mine.up1 ?_); first | exact Mine.sub_rfl | exact Mine.apL | exact Mine.apR | exact Mine.apRL | exact Mine.apRR | exact Mine.apRRL | exact Mine.apRRR) | (refine Mine.inL ?_; first | exact Mine.sub_rfl | exact Mine.apL | exact Mine.apR | exact Mine.apRL | exact Mine.apRR | exact Mine.apRRL | exact Mine.apRRR | ((first | refine Mine.up14 ?_ | refine Mine.up13 ?_ | refine Mine.up12 ?_ | refine Mine.up11 ?_ | refine Mine.up10 ?_ | refine Mine.up9 ?_ | refine Mine.up8 ?_ | refine Mine.up7 ?_ | refine Mine.up6 ?_ | refine Mine.up5 ?_ | refine Mine.up4 ?_ | refine Mine.up3 ?_ | refine Mine.up2 ?_ | refine Mine.up1 ?_); first | exact Mine.sub_rfl | exact Mine.apL | exact Mine.apR | exact Mine.apRL | exact Mine.apRR | exact Mine.apRRL | exact Mine.apRRR)) | (refine Mine.inR ?_; first | exact Mine.sub_rfl | exact Mine.apL | exact Mine.apR | exact Mine.apRL | exact Mine.apRR | exact Mine.apRRL | exact Mine.apRRR | ((first | refine Mine.up14 ?_ | refine Mine.up13 ?_ | refine Mine.up12 ?_ | refine Mine.up11 ?_ | refine Mine.up10 ?_ | refine Mine.up9 ?_ | refine Mine.up8 ?_ | refine Mine.up7 ?_ | refine Mine.up6 ?_ | refine Mine.up5 ?_ | refine Mine.up4 ?_ | refine Mine.up3 ?_ | refine Mine.up2 ?_ | refine Mine.up1 ?_); first | exact Mine.sub_rfl | exact Mine.apL | exact Mine.apR | exact Mine.apRL | exact Mine.apRR | exact Mine.apRRL | exact Mine.apRRR))) | (refine Mine.inR ?_; first | exact Mine.sub_rfl | exact Mine.apL | exact Mine.apR | exact Mine.apRL | exact Mine.apRR | exact Mine.apRRL | exact Mine.apRRR | ((first | refine Mine.up14 ?_ | refine Mine.up13 ?_ | refine Mine.up12 ?_ | refine Mine.up11 ?_ | refine Mine.up10 ?_ | refine Mine.up9 ?_ | refine Mine.up8 ?_ | refine Mine.up7 ?_ | refine Mine.up6 ?_ | refine Mine.up5 ?_ | refine Mine.up4 ?_ | refine Mine.up3 ?_ | refine Mine.up2 ?_ | refine Mine.up1 ?_); first | exact Mine.sub_rfl | exact Mine.apL | exact Mine.apR | exact Mine.apRL | exact Mine.apRR | exact Mine.apRRL | exact Mine.apRRR) | (refine Mine.inL ?_; first | exact Mine.sub_rfl | exact Mine.apL | exact Mine.apR | exact Mine.apRL | exact Mine.apRR | exact Mine.apRRL | exact Mine.apRRR | ((first | refine Mine.up14 ?_ | refine Mine.up13 ?_ | refine Mine.up12 ?_ | refine Mine.up11 ?_ | refine Mine.up10 ?_ | refine Mine.up9 ?_ | refine Mine.up8 ?_ | refine Mine.up7 ?_ | refine Mine.up6 ?_ | refine Mine.up5 ?_ | refine Mine.up4 ?_ | refine Mine.up3 ?_ | refine Mine.up2 ?_ | refine Mine.up1 ?_); first | exact Mine.sub_rfl | exact Mine.apL | exact Mine.apR | exact Mine.apRL | exact Mine.apRR | exact Mine.apRRL | exact Mine.apRRR)) | (refine Mine.inR ?_; first | exact Mine.sub_rfl | exact Mine.apL | exact Mine.apR | exact Mine.apRL | exact Mine.apRR | exact Mine.apRRL | exact Mine.apRRR | ((first | refine Mine.up14 ?_ | refine Mine.up13 ?_ | refine Mine.up12 ?_ | refine Mine.up11 ?_ | refine Mine.up10 ?_ | refine Mine.up9 ?_ | refine Mine.up8 ?_ | refine Mine.up7 ?_ | refine Mine.up6 ?_ | refine Mine.up5 ?_ | refine Mine.up4 ?_ | refine Mine.up3 ?_ | refine Mine.up2 ?_ | refine Mine.up1 ?_); first | exact Mine.sub_rfl | exact Mine.apL | exact Mine.apR | exact Mine.apRL | exact Mine.apRR | exact Mine.apRRL | exact Mine.apRRR))))))
          have hiJ : ∀ p ∈ iT, @Ne Nat p.1 jlr ∧ @Ne Nat p.1 jlt := fun p hp => ⟨ne_new (fr16 (jlr, _) mm0).2 (N.get (tl9 p hp)), ne_new (fr16 (jlt, _) mm1).2 (N.get (tl9 p hp))⟩
          clear F N k16 fr16
          dsimp only
          k_steps
          rename Fr _ _ _ _ => F17
          rename News _ _ _ _ => N17
          have j1 := not_in7 (offJ (jlr, _) mm0)
          have j2 := not_in7 (offJ (jlt, _) mm1)
          have N17q : News g L _ [(ilr, W.listOf irs.toArray inr), (ilt, W.listOf (boolsOf f).toArray intt), (ix, instObj 89 idx), (idx, impDict wld ilr ilt it1 it2 iN)] := news_sub N17 ((by with_reducible ((repeat' first | refine Mine.sub_cons ?_ ?_ | refine Mine.sub_app ?_ ?_ | exact Mine.sub_nil); all_goals first | exact Mine.mm0 | exact Mine.mm1 | exact Mine.mm2 | exact Mine.mm3 | exact Mine.mm4 | exact Mine.mm5 | exact Mine.mm6 | exact Mine.mm7 | exact Mine.mm8 | exact Mine.mm9 | exact Mine.mm10 | exact Mine.mm11 | exact Mine.mm12 | exact Mine.mm13 | exact Mine.sub_rfl | exact Mine.apL | exact Mine.apR | exact Mine.apRL | exact Mine.apRR | exact Mine.apRRL | exact Mine.apRRR | ((first | refine Mine.up14 ?_ | refine Mine.up13 ?_ | refine Mine.up12 ?_ | refine Mine.up11 ?_ | refine Mine.up10 ?_ | refine Mine.up9 ?_ | refine Mine.up8 ?_ | refine Mine.up7 ?_ | refine Mine.up6 ?_ | refine Mine.up5 ?_ | refine Mine.up4 ?_ | refine Mine.up3 ?_ | refine Mine.up2 ?_ | refine Mine.up1 ?_); first | exact Mine.sub_rfl | exact Mine.apL | exact Mine.apR | exact Mine.apRL | exact Mine.apRR | exact Mine.apRRL | exact Mine.apRRR))))
          refine' told_spec (f := f) (T := iT) ?M1 ?M2 ?M3 N17q hR ?M5 ?M6
          case M1 => exact ⟨B0, F17, X, T0, rfl⟩
          case M2 => (show dp + 1 + 5 < 900; omega)
          case M3 => (show un + 3 + 70 < 9000; omega)
          case M5 => exact bears_sub N17 ((by with_reducible ((repeat' first | refine Mine.sub_cons ?_ ?_ | refine Mine.sub_app ?_ ?_ | exact Mine.sub_nil); all_goals first | exact Mine.mm0 | exact Mine.mm1 | exact Mine.mm2 | exact Mine.mm3 | exact Mine.mm4 | exact Mine.mm5 | exact Mine.mm6 | exact Mine.mm7 | exact Mine.mm8 | exact Mine.mm9 | exact Mine.mm10 | exact Mine.mm11 | exact Mine.mm12 | exact Mine.mm13 | exact Mine.sub_rfl | exact Mine.apL | exact Mine.apR | exact Mine.apRL | exact Mine.apRR | exact Mine.apRRL | exact Mine.apRRR | ((first | refine Mine.up14 ?_ | refine Mine.up13 ?_ | refine Mine.up12 ?_ | refine Mine.up11 ?_ | refine Mine.up10 ?_ | refine Mine.up9 ?_ | refine Mine.up8 ?_ | refine Mine.up7 ?_ | refine Mine.up6 ?_ | refine Mine.up5 ?_ | refine Mine.up4 ?_ | refine Mine.up3 ?_ | refine Mine.up2 ?_ | refine Mine.up1 ?_); first | exact Mine.sub_rfl | exact Mine.apL | exact Mine.apR | exact Mine.apRL | exact Mine.apRR | exact Mine.apRRL | exact Mine.apRRR))))
          intro h18 tk18 v3 Tn3 Tl3 k18 fr18 hb18 hc18 ha18
          have F18 := fr_kept F17 k18 (fun a ha => nomatch ha)
          have N18 := fr18.news F17 (news_kept N17 k18 (fun p hp h => nomatch h))
          have offT3 := fresh_off (X := [jlr, jlt, jx, jdx]) fr18 (all_cons (got N17 mm0) (all_cons (got N17 mm1) (all_cons (got N17 mm2) (all_cons (got N17 mm3) all_nil))))
          have offL3 : ∀ p ∈ Tl3, p.1 ∉ [jlr, jlt, jx, jdx] := fun p hp hm => by
            have e0 := hb18 p hp
            have e1 := hc18 p hp
            simp only [List.mem_cons, List.not_mem_nil, or_false] at hm
            rcases hm with q | q | q | q
            · rw [q, show _ = some _ from N17.get (.head _)] at e0; rw [← Option.some.inj e0] at e1; simp at e1
            · rw [q, show _ = some _ from N17.get (.tail _ (.head _))] at e0; rw [← Option.some.inj e0] at e1; simp at e1
            · rw [q, show _ = some _ from N17.get (.tail _ (.tail _ (.head _)))] at e0; rw [← Option.some.inj e0] at e1; simp at e1
            · rw [q, show _ = some _ from N17.get (.tail _ (.tail _ (.tail _ (.head _))))] at e0; rw [← Option.some.inj e0] at e1; simp at e1
          have hoffJ : ∀ p ∈ Tn3 ++ Tl3, p.1 ∉ [jlr, jlt, jx, jdx] := all_app offT3 offL3
          have hbJ : Bears h18 (Tn3 ++ Tl3) := all_app (fun p hp => (fr18 p hp).1) (fun p hp => k18.all _ _ (hb18 p hp))
          obtain ⟨rl3, _, _, _, rfl, _⟩ := id ha18
          have N18p : News g L h18 ((jlr, W.listOf jrs.toArray jnr) :: (jlt, W.listOf (boolsOf fun _ => none).toArray jntt) :: (jx, instObj 89 jdx) :: (jdx, impDict wld jlr jlt jt1 jt2 jN) :: (ilr, W.listOf (irs : List Value).toArray inr) :: (ilt, W.listOf (boolsOf f).toArray intt) :: (ix, instObj 89 idx) :: (idx, impDict wld ilr ilt it1 it2 iN) :: (d, od) :: (193, tabObj ps) :: (L + 1, oP) :: (Tn3 ++ (jT ++ iT))) := news_sub N18 ((by with_reducible ((repeat' first | refine Mine.sub_cons ?_ ?_ | refine Mine.sub_app ?_ ?_ | exact Mine.sub_nil); all_goals first | exact Mine.mm0 | exact Mine.mm1 | exact Mine.mm2 | exact Mine.mm3 | exact Mine.mm4 | exact Mine.mm5 | exact Mine.mm6 | exact Mine.mm7 | exact Mine.mm8 | exact Mine.mm9 | exact Mine.mm10 | exact Mine.mm11 | exact Mine.mm12 | exact Mine.mm13 | (refine Mine.mL ?_; first | exact Mine.mm0 | exact Mine.mm1 | exact Mine.mm2 | exact Mine.mm3 | exact Mine.mm4 | exact Mine.mm5 | exact Mine.mm6 | exact Mine.mm7 | exact Mine.mm8 | exact Mine.mm9 | exact Mine.mm10 | exact Mine.mm11 | exact Mine.mm12 | exact Mine.mm13) | (refine Mine.mR ?_; first | exact Mine.mm0 | exact Mine.mm1 | exact Mine.mm2 | exact Mine.mm3 | exact Mine.mm4 | exact Mine.mm5 | exact Mine.mm6 | exact Mine.mm7 | exact Mine.mm8 | exact Mine.mm9 | exact Mine.mm10 | exact Mine.mm11 | exact Mine.mm12 | exact Mine.mm13) | exact Mine.sub_rfl | exact Mine.apL | exact Mine.apR | exact Mine.apRL | exact Mine.apRR | exact Mine.apRRL | exact Mine.apRRR | ((first | refine Mine.up14 ?_ | refine Mine.up13 ?_ | refine Mine.up12 ?_ | refine Mine.up11 ?_ | refine Mine.up10 ?_ | refine Mine.up9 ?_ | refine Mine.up8 ?_ | refine Mine.up7 ?_ | refine Mine.up6 ?_ | refine Mine.up5 ?_ | refine Mine.up4 ?_ | refine Mine.up3 ?_ | refine Mine.up2 ?_ | refine Mine.up1 ?_); first | exact Mine.sub_rfl | exact Mine.apL | exact Mine.apR | exact Mine.apRL | exact Mine.apRR | exact Mine.apRRL | exact Mine.apRRR) | (refine Mine.inL ?_; first | exact Mine.sub_rfl | exact Mine.apL | exact Mine.apR | exact Mine.apRL | exact Mine.apRR | exact Mine.apRRL | exact Mine.apRRR | ((first | refine Mine.up14 ?_ | refine Mine.up13 ?_ | refine Mine.up12 ?_ | refine Mine.up11 ?_ | refine Mine.up10 ?_ | refine Mine.up9 ?_ | refine Mine.up8 ?_ | refine Mine.up7 ?_ | refine Mine.up6 ?_ | refine Mine.up5 ?_ | refine Mine.up4 ?_ | refine Mine.up3 ?_ | refine Mine.up2 ?_ | refine Mine.up1 ?_); first | exact Mine.sub_rfl | exact Mine.apL | exact Mine.apR | exact Mine.apRL | exact Mine.apRR | exact Mine.apRRL | exact Mine.apRRR)) | (refine Mine.inR ?_; first | exact Mine.sub_rfl | exact Mine.apL | exact Mine.apR | exact Mine.apRL | exact Mine.apRR | exact Mine.apRRL | exact Mine.apRRR | ((first | refine Mine.up14 ?_ | refine Mine.up13 ?_ | refine Mine.up12 ?_ | refine Mine.up11 ?_ | refine Mine.up10 ?_ | refine Mine.up9 ?_ | refine Mine.up8 ?_ | refine Mine.up7 ?_ | refine Mine.up6 ?_ | refine Mine.up5 ?_ | refine Mine.up4 ?_ | refine Mine.up3 ?_ | refine Mine.up2 ?_ | refine Mine.up1 ?_); first | exact Mine.sub_rfl | exact Mine.apL | exact Mine.apR | exact Mine.apRL | exact Mine.apRR | exact Mine.apRRL | exact Mine.apRRR)))))
          clear F17 N17 N17q N18
          dsimp only
          k_steps
          have hrestJ : ∀ x ∈ ((jx, instObj 89 jdx) :: (jdx, impDict wld jlr jlt jt1 jt2 jN) :: (ilr, W.listOf (irs : List Value).toArray inr) :: (ilt, W.listOf (boolsOf f).toArray intt) :: (ix, instObj 89 idx) :: (idx, impDict wld ilr ilt it1 it2 iN) :: (d, od) :: (193, tabObj ps) :: (L + 1, oP) :: (Tn3 ++ (jT ++ iT))), x.1 ≠ jlr ∧ x.1 ≠ jlt := (all_cons ⟨hne16.2.1.symm, hne16.2.2.2.1.symm⟩ (all_cons ⟨hne16.2.2.1.symm, hne16.2.2.2.2.1.symm⟩ (all_cons ⟨(j1.2.1).symm, (j2.2.1).symm⟩ (all_cons ⟨(j1.2.2.1).symm, (j2.2.2.1).symm⟩ (all_cons ⟨(j1.2.2.2.1).symm, (j2.2.2.2.1).symm⟩ (all_cons ⟨(j1.2.2.2.2.1).symm, (j2.2.2.2.2.1).symm⟩ (all_cons ⟨(j1.2.2.2.2.2.1).symm, (j2.2.2.2.2.2.1).symm⟩ (all_cons ⟨(j1.2.2.2.2.2.2).symm, (j2.2.2.2.2.2.2).symm⟩ (all_cons ⟨(j1.1).symm, (j2.1).symm⟩ (all_app (off_two offT3 mm0 mm1) (all_app hT16 hiJ)))))))))))
          refine' add_spec (T := jT) (Tr := Tn3 ++ Tl3) (f := fun _ => none) (rs := (foldF f 26).map segArg) ?A1 ?A2 ?A3 hne16 hR16 ha18 hbJ ?A4 ?A5 ?A6
          case A1 => exact ⟨B0, F18, X, T0, rfl⟩
          case A2 => (show dp + 1 + 10 < 900; omega)
          case A3 => exact news_sub N18p ((by with_reducible ((repeat' first | refine Mine.sub_cons ?_ ?_ | refine Mine.sub_app ?_ ?_ | exact Mine.sub_nil); all_goals first | exact Mine.mm0 | exact Mine.mm1 | exact Mine.mm2 | exact Mine.mm3 | exact Mine.mm4 | exact Mine.mm5 | exact Mine.mm6 | exact Mine.mm7 | exact Mine.mm8 | exact Mine.mm9 | exact Mine.mm10 | exact Mine.mm11 | exact Mine.mm12 | exact Mine.mm13 | exact Mine.sub_rfl | exact Mine.apL | exact Mine.apR | exact Mine.apRL | exact Mine.apRR | exact Mine.apRRL | exact Mine.apRRR | ((first | refine Mine.up14 ?_ | refine Mine.up13 ?_ | refine Mine.up12 ?_ | refine Mine.up11 ?_ | refine Mine.up10 ?_ | refine Mine.up9 ?_ | refine Mine.up8 ?_ | refine Mine.up7 ?_ | refine Mine.up6 ?_ | refine Mine.up5 ?_ | refine Mine.up4 ?_ | refine Mine.up3 ?_ | refine Mine.up2 ?_ | refine Mine.up1 ?_); first | exact Mine.sub_rfl | exact Mine.apL | exact Mine.apR | exact Mine.apRL | exact Mine.apRR | exact Mine.apRRL | exact Mine.apRRR))))
          case A4 => exact fun p hp => not_in4 (hoffJ p hp)
          case A6 =>
            intro h19 tk19 e y G jrs' jnr' jnt' T5 f5 hadd
            rw [addF_fold (Nat.le_refl _)] at hadd
            exact absurd (Prod.mk.inj hadd).2 (by simp)
          case A5 =>
            intro h19 tk19 jrs' jnr' jnt' T5 f5 hadd k19 e19 e19' hR19 fr19
            rw [addF_fold (Nat.le_refl _)] at hadd
            obtain ⟨ecut, _⟩ := Prod.mk.inj hadd
            have hcut : ∀ i, i < 26 → f5 i = f i := fun i hi => by rw [← ecut]; unfold cut; rw [if_pos hi]
            have F19 := fr_two F18 N18p k19
            have N19 := fr19.news F18 (news_two N18p k19 e19 e19' hrestJ)
            rw [bools_cut hcut] at N19
            have hRc := rules_cut hcut hR19
            have N20 : News g L h19 ((jlr, W.listOf jrs'.toArray jnr') :: (jlt, W.listOf (boolsOf f).toArray jnt') :: (jx, instObj 89 jdx) :: (jdx, impDict wld jlr jlt jt1 jt2 jN) :: (d, od) :: (193, tabObj ps) :: (T5 ++ (Tn3 ++ (jT ++ iT)))) := news_sub N19 ((by with_reducible ((repeat' first | refine Mine.sub_cons ?_ ?_ | refine Mine.sub_app ?_ ?_ | exact Mine.sub_nil); all_goals first | exact Mine.mm0 | exact Mine.mm1 | exact Mine.mm2 | exact Mine.mm3 | exact Mine.mm4 | exact Mine.mm5 | exact Mine.mm6 | exact Mine.mm7 | exact Mine.mm8 | exact Mine.mm9 | exact Mine.mm10 | exact Mine.mm11 | exact Mine.mm12 | exact Mine.mm13 | (refine Mine.mL ?_; first | exact Mine.mm0 | exact Mine.mm1 | exact Mine.mm2 | exact Mine.mm3 | exact Mine.mm4 | exact Mine.mm5 | exact Mine.mm6 | exact Mine.mm7 | exact Mine.mm8 | exact Mine.mm9 | exact Mine.mm10 | exact Mine.mm11 | exact Mine.mm12 | exact Mine.mm13) | (refine Mine.mR ?_; first | exact Mine.mm0 | exact Mine.mm1 | exact Mine.mm2 | exact Mine.mm3 | exact Mine.mm4 | exact Mine.mm5 | exact Mine.mm6 | exact Mine.mm7 | exact Mine.mm8 | exact Mine.mm9 | exact Mine.mm10 | exact Mine.mm11 | exact Mine.mm12 | exact Mine.mm13) | exact Mine.sub_rfl | exact Mine.apL | exact Mine.apR | exact Mine.apRL | exact Mine.apRR | exact Mine.apRRL | exact Mine.apRRR | ((first | refine Mine.up14 ?_ | refine Mine.up13 ?_ | refine Mine.up12 ?_ | refine Mine.up11 ?_ | refine Mine.up10 ?_ | refine Mine.up9 ?_ | refine Mine.up8 ?_ | refine Mine.up7 ?_ | refine Mine.up6 ?_ | refine Mine.up5 ?_ | refine Mine.up4 ?_ | refine Mine.up3 ?_ | refine Mine.up2 ?_ | refine Mine.up1 ?_); first | exact Mine.sub_rfl | exact Mine.apL | exact Mine.apR | exact Mine.apRL | exact Mine.apRR | exact Mine.apRRL | exact Mine.apRRR) | (refine Mine.inL ?_; first | exact Mine.sub_rfl | exact Mine.apL | exact Mine.apR | exact Mine.apRL | exact Mine.apRR | exact Mine.apRRL | exact Mine.apRRR | ((first | refine Mine.up14 ?_ | refine Mine.up13 ?_ | refine Mine.up12 ?_ | refine Mine.up11 ?_ | refine Mine.up10 ?_ | refine Mine.up9 ?_ | refine Mine.up8 ?_ | refine Mine.up7 ?_ | refine Mine.up6 ?_ | refine Mine.up5 ?_ | refine Mine.up4 ?_ | refine Mine.up3 ?_ | refine Mine.up2 ?_ | refine Mine.up1 ?_); first | exact Mine.sub_rfl | exact Mine.apL | exact Mine.apR | exact Mine.apRL | exact Mine.apRR | exact Mine.apRRL | exact Mine.apRRR)) | (refine Mine.inR ?_; first | exact Mine.sub_rfl | exact Mine.apL | exact Mine.apR | exact Mine.apRL | exact Mine.apRR | exact Mine.apRRL | exact Mine.apRRR | ((first | refine Mine.up14 ?_ | refine Mine.up13 ?_ | refine Mine.up12 ?_ | refine Mine.up11 ?_ | refine Mine.up10 ?_ | refine Mine.up9 ?_ | refine Mine.up8 ?_ | refine Mine.up7 ?_ | refine Mine.up6 ?_ | refine Mine.up5 ?_ | refine Mine.up4 ?_ | refine Mine.up3 ?_ | refine Mine.up2 ?_ | refine Mine.up1 ?_); first | exact Mine.sub_rfl | exact Mine.apL | exact Mine.apR | exact Mine.apRL | exact Mine.apRR | exact Mine.apRRL | exact Mine.apRRR)))))
            have hbC : Bears h19 (T5 ++ ((Tn3 ++ Tl3) ++ jT)) := all_app (fun p hp => (fr19 p hp).1) (all_app (fun p hp => k19 _ _ (hbJ p hp) (fun q => hoffJ p hp (take2 _ q))) (bears_sub N20 ((by with_reducible ((repeat' first | refine Mine.sub_cons ?_ ?_ | refine Mine.sub_app ?_ ?_ | exact Mine.sub_nil); all_goals first | exact Mine.mm0 | exact Mine.mm1 | exact Mine.mm2 | exact Mine.mm3 | exact Mine.mm4 | exact Mine.mm5 | exact Mine.mm6 | exact Mine.mm7 | exact Mine.mm8 | exact Mine.mm9 | exact Mine.mm10 | exact Mine.mm11 | exact Mine.mm12 | exact Mine.mm13 | exact Mine.sub_rfl | exact Mine.apL | exact Mine.apR | exact Mine.apRL | exact Mine.apRR | exact Mine.apRRL | exact Mine.apRRR | ((first | refine Mine.up14 ?_ | refine Mine.up13 ?_ | refine Mine.up12 ?_ | refine Mine.up11 ?_ | refine Mine.up10 ?_ | refine Mine.up9 ?_ | refine Mine.up8 ?_ | refine Mine.up7 ?_ | refine Mine.up6 ?_ | refine Mine.up5 ?_ | refine Mine.up4 ?_ | refine Mine.up3 ?_ | refine Mine.up2 ?_ | refine Mine.up1 ?_); first | exact Mine.sub_rfl | exact Mine.apL | exact Mine.apR | exact Mine.apRL | exact Mine.apRR | exact Mine.apRRL | exact Mine.apRRR))))))
            have hbD : Bears h19 iT := bears_sub N20 ((by with_reducible ((repeat' first | refine Mine.sub_cons ?_ ?_ | refine Mine.sub_app ?_ ?_ | exact Mine.sub_nil); all_goals first | exact Mine.mm0 | exact Mine.mm1 | exact Mine.mm2 | exact Mine.mm3 | exact Mine.mm4 | exact Mine.mm5 | exact Mine.mm6 | exact Mine.mm7 | exact Mine.mm8 | exact Mine.mm9 | exact Mine.mm10 | exact Mine.mm11 | exact Mine.mm12 | exact Mine.mm13 | exact Mine.sub_rfl | exact Mine.apL | exact Mine.apR | exact Mine.apRL | exact Mine.apRR | exact Mine.apRRL | exact Mine.apRRR | ((first | refine Mine.up14 ?_ | refine Mine.up13 ?_ | refine Mine.up12 ?_ | refine Mine.up11 ?_ | refine Mine.up10 ?_ | refine Mine.up9 ?_ | refine Mine.up8 ?_ | refine Mine.up7 ?_ | refine Mine.up6 ?_ | refine Mine.up5 ?_ | refine Mine.up4 ?_ | refine Mine.up3 ?_ | refine Mine.up2 ?_ | refine Mine.up1 ?_); first | exact Mine.sub_rfl | exact Mine.apL | exact Mine.apR | exact Mine.apRL | exact Mine.apRR | exact Mine.apRRL | exact Mine.apRRR))))
            have N20q : News g L h19 [(jlr, W.listOf jrs'.toArray jnr'), (jlt, W.listOf (boolsOf f).toArray jnt'), (jx, instObj 89 jdx), (jdx, impDict wld jlr jlt jt1 jt2 jN), (d, od)] := news_sub N20 ((by with_reducible ((repeat' first | refine Mine.sub_cons ?_ ?_ | refine Mine.sub_app ?_ ?_ | exact Mine.sub_nil); all_goals first | exact Mine.mm0 | exact Mine.mm1 | exact Mine.mm2 | exact Mine.mm3 | exact Mine.mm4 | exact Mine.mm5 | exact Mine.mm6 | exact Mine.mm7 | exact Mine.mm8 | exact Mine.mm9 | exact Mine.mm10 | exact Mine.mm11 | exact Mine.mm12 | exact Mine.mm13 | exact Mine.sub_rfl | exact Mine.apL | exact Mine.apR | exact Mine.apRL | exact Mine.apRR | exact Mine.apRRL | exact Mine.apRRR | ((first | refine Mine.up14 ?_ | refine Mine.up13 ?_ | refine Mine.up12 ?_ | refine Mine.up11 ?_ | refine Mine.up10 ?_ | refine Mine.up9 ?_ | refine Mine.up8 ?_ | refine Mine.up7 ?_ | refine Mine.up6 ?_ | refine Mine.up5 ?_ | refine Mine.up4 ?_ | refine Mine.up3 ?_ | refine Mine.up2 ?_ | refine Mine.up1 ?_); first | exact Mine.sub_rfl | exact Mine.apL | exact Mine.apR | exact Mine.apRL | exact Mine.apRR | exact Mine.apRRL | exact Mine.apRRR))))
            clear F18 N18p k19 N19
            dsimp only
            k_steps
            refine' alike_spec (f := f) (T := T5 ++ ((Tn3 ++ Tl3) ++ jT)) (T2 := iT) (kvs := kvs) ?C1 ?C2 ?C3 ?C4 hRc ?C6 hO lo0 hW ?C10 ?C11
            case C1 => exact ⟨B0, F19, X, T0, rfl⟩
            case C2 => (show dp + 1 + 20 < 900; omega)
            case C3 => (show un + 3 + 100 < 9000; omega)
            case C4 => exact N20q
            case C6 => exact hbC
            case C10 => exact hbD
            intro h21 tk21 k21
            have F21 := fr_kept F19 k21 (fun a ha => nomatch ha)
            have N21 := news_kept N20 k21 (fun p hp h => nomatch h)
            clear F19 N20 N20q
            dsimp only
            exact ⟨h21, tk21, _, ps, rfl, rfl, F21, news_sub N21 ((by with_reducible ((repeat' first | refine Mine.sub_cons ?_ ?_ | refine Mine.sub_app ?_ ?_ | exact Mine.sub_nil); all_goals first | exact Mine.mm0 | exact Mine.mm1 | exact Mine.mm2 | exact Mine.mm3 | exact Mine.mm4 | exact Mine.mm5 | exact Mine.mm6 | exact Mine.mm7 | exact Mine.mm8 | exact Mine.mm9 | exact Mine.mm10 | exact Mine.mm11 | exact Mine.mm12 | exact Mine.mm13 | exact Mine.sub_rfl | exact Mine.apL | exact Mine.apR | exact Mine.apRL | exact Mine.apRR | exact Mine.apRRL | exact Mine.apRRR | ((first | refine Mine.up14 ?_ | refine Mine.up13 ?_ | refine Mine.up12 ?_ | refine Mine.up11 ?_ | refine Mine.up10 ?_ | refine Mine.up9 ?_ | refine Mine.up8 ?_ | refine Mine.up7 ?_ | refine Mine.up6 ?_ | refine Mine.up5 ?_ | refine Mine.up4 ?_ | refine Mine.up3 ?_ | refine Mine.up2 ?_ | refine Mine.up1 ?_); first | exact Mine.sub_rfl | exact Mine.apL | exact Mine.apR | exact Mine.apRL | exact Mine.apRR | exact Mine.apRRL | exact Mine.apRRR))))⟩)
end Mine
end
open PySem PySem.W PyProof.Rows
theorem PySem.Challenge.cw_pq0349_01_holds : PySem.Challenge.rw_pq0349_01.Holds := by
  exact Mine.top
