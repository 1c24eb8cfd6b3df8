import PyProof.Rows.All
import Wide.All
import OpenK.AllK
import Wide.FinOn
import PySem.Challenge.RW_nn0114_01
open PySem PySem.W PyProof.Rows
set_option Elab.async false
set_option maxRecDepth 100000
set_option rowWalk.seconds 0
namespace Mine
def vw : Program := view PySem.Challenge.pw_nn0114_01 [1, 2, 3, 4, 5, 6, 7, 8, 9, 10, 11, 13, 14, 15, 16, 17, 18, 19, 20, 21, 22]
theorem left_boot {p q : Program} {loose : List Str} {Xt : Shared → Bool} {α : Type} {Yf : Shared → α} {Ya : World → α} {N : Nat} {g0 : Bool}
    (o : ∀ w : World, (fencedOpening treeTable p w N).map (fun s => (s.heap, s.gens, s.drawn, s.toks)) = some (boot_heap w.params, Array.mk [], boot_drawn, boot_toks))
    (h : ∀ (w : World) (os : OsState), (topFrom treeTable p w N ⟨boot_heap w.params, Array.mk [], boot_drawn, boot_toks, os⟩).map (fun s => (openSeen q loose (importedModules p.main.body) Xt g0 s, Yf s)) = some (openGood q loose, Ya w)) :
    LeftO p q loose Xt Yf Ya N g0 := by
  intro w
  obtain ⟨⟨hp, gs, dr, tk, os⟩, hs, e⟩ := Option.map_eq_some_iff.mp (o w)
  obtain ⟨rfl, rfl, rfl, rfl⟩ : hp = boot_heap w.params ∧ gs = Array.mk [] ∧ dr = boot_drawn ∧ tk = boot_toks := by simpa using e
  unfold openEnds
  rw [hs]
  exact h w os
set_option hygiene false in
local macro_rules | `(tactic| o_head $H) => `(tactic| (
  refine holds_open (q := vw) (loose := []) (Xt := fun s => xlAt vw [] s && recOk (RowW.records (OpenRow.toRowW PySem.Challenge.rw_nn0114_01.row)) s) (XP := XL vw []) (Yf := Hook.obs $H) (Ya := Hook.val $H) (YP := Hook.says $H) (N := 2378) ?hl (Hook.of $H) (Hook.keeps $H) (fun s e => xl_of s (Bool.and_eq_true_iff.mp e).1) XL.keeps (by rfl) (by rfl) (by rfl) (fun s e => recFacts_of (Bool.and_eq_true_iff.mp e).2) (by rfl) (by first | assumption | decide +kernel) (by decide +kernel) ⟨rfl, rfl, rfl, rfl, rfl, by decide +kernel⟩ ?hw ?hc
  case hl => exact left_boot (boot_open (by kernel_rfl) (by decide +kernel) (fun s => by kernel_rfl)) (fun w os => by unfold topFrom vw; rw [PySem.W.Fast.te14082659384304107361, PySem.W.Fast.te15294344451144219848, PySem.W.Fast.te2368527892694137696, PySem.W.Fast.te14364793385576792824, PySem.W.Fast.te4187177175401517315, PySem.W.Fast.te5923862056798008813, PySem.W.Fast.te3167038609673764386]; kernel_rfl)
  all_goals (rename (OpenRow.wellSaid _ = true) => zs; clear zs)))
set_option maxHeartbeats 8000000 in
open_top hd for PySem.Challenge.rw_nn0114_01
open PySem.Spec PySem.Calls
theorem fill : hd.heap_39 = hd.heap_39 ∧ PySem.Challenge.rw_nn0114_01 = PySem.Challenge.rw_nn0114_01 := by
  w_top off
  k_fill
  exact ⟨rfl, rfl⟩
local macro_rules | `(tactic| walk_at $s:str) => `(tactic| k_extra $s)

abbrev Led := List (Addr × Obj)
/-- the heap without the written objects -/
abbrev gh (h : Heap) (l : Led) : Heap := hideAll h (l.map (·.1))
/-- what is around a body -/
abbrev tp (dp un : Nat) (gd : Option (List Code)) (fr : List Env) : Around := { handled := none, depth := dp, frames := some fr, guards := gd, units := un }
/-- the objects of a ledger stand, and the base has none of them -/
def Has (g h : Heap) (l : Led) : Prop := ∀ q ∈ l, h.get? q.1 = some q.2 ∧ g.get? q.1 = none

/-- the contract of a def: small is what it may change, post what it gives back and leaves -/
def ConP (pre : Heap → Prop) (f : Addr) (vs : List Value) (D : Nat) (small : Led) (post : Value → Led → Prop) : Prop :=
  ∀ (w : World) (p : Program) (loose : List Str) (mean : ExcName → Option Value) (mg mb : Str → Option Value)
    (A : Around) (fr : List Env) (base : Heap) (s : Shared) (Q E : Value → Shared → Prop),
    A.handled = none → A.depth + D < recursionLimit → A.units + 16 * D < cLine →
    Below A base fr (gh s.heap small) → (hd.heap_39 w.params).In (gh s.heap small) → Top p loose mean mg mb (gh s.heap small) → CodeHd base 191 187 → CodeHd base 203 201 →
    pre (gh s.heap small) → (∀ q ∈ small, s.heap.get? q.1 = some q.2) →
    (∀ r small' h' tk', (gh s.heap small).StaysIn h' → Has (gh s.heap small) h' small' → post r small' → Q r { s with heap := h', toks := tk' }) →
    wpAny (model PySem.Challenge.rw_nn0114_01.row.prog w) A (call (.ref f) vs) Q E s

abbrev Con : Addr → List Value → Nat → Led → (Value → Led → Prop) → Prop := ConP fun _ => True

/-- what a body's walk ends in -/
def Done (g : Heap) (post : Value → Led → Prop) (s : Shared) (v : Value) (s' : Shared) : Prop :=
  ∃ L' m' h' tk' small', s' = { s with heap := h', toks := tk' } ∧ Fr g L' h' m' ∧ News g L' h' small' ∧ post v small'

theorem done_intro {g : Heap} {post : Value → Led → Prop} {s : Shared} {v : Value} {L' : Addr} {m' : Str → Option Value} {h' : Heap} {tk' : Nat} (small' : Led)
    (F : Fr g L' h' m') (N : News g L' h' small') (hp : post v small') : Done g post s v { s with heap := h', toks := tk' } :=
  ⟨L', m', h', tk', small', rfl, F, N, hp⟩

theorem done_sub {g : Heap} {post : Value → Led → Prop} {s : Shared} {v : Value} {L' : Addr} {m' : Str → Option Value} {h' : Heap} {tk' : Nat} {news : Led} (small' : Led)
    (F : Fr g L' h' m') (N : News g L' h' news) (hs : ∀ q ∈ small', q ∈ news) (hp : post v small') : Done g post s v { s with heap := h', toks := tk' } :=
  ⟨L', m', h', tk', small', rfl, F, (fun q hq => N q (hs q hq)), hp⟩

/-- the body's premises, as the walk wants them -/
def Body (pre : Heap → Prop) (f : Addr) (D : Nat) (small : Led) (post : Value → Led → Prop) (qual : Str) (scope : Scope) (cdv : Value) (body : List Stmt) (mm : Str → Option Value) : Prop :=
  ∀ (w : World) (p : Program) (loose : List Str) (mean : ExcName → Option Value) (mg mb : Str → Option Value)
    (dp un : Nat) (gd : Option (List Code)) (fr : List Env) (base g : Heap) (L : Addr) (s : Shared) (h : Heap) (tk : Nat),
    dp + D < recursionLimit → un + 16 * D < cLine →
    Below (tp dp un gd fr) base fr g → (hd.heap_39 w.params).In g → Top p loose mean mg mb g → CodeHd base 191 187 → CodeHd base 203 201 →
    pre g → Fr g L h mm → News g L h small → (∀ q ∈ small, q.1 < L) →
    wpAny (model PySem.Challenge.rw_nn0114_01.row.prog w) ((tp dp un gd fr).deeper (envOf qual scope L f cdv)) (execs body (envOf qual scope L f cdv))
      (fun fl s' => Done g post s (match fl with | .ret v => v | _ => .none) s') (fun _ _ => False) { s with heap := h, toks := tk }

theorem around_eta {A : Around} {fr : List Env} (h1 : A.handled = none) (h2 : A.frames = some fr) : A = tp A.depth A.units A.guards fr := by
  obtain ⟨hd, dp, f, gd, un⟩ := A
  simp only at h1 h2
  subst h1; subst h2
  rfl

theorem con_of {pre : Heap → Prop} {f : Addr} {vs : List Value} {D : Nat} {small : Led} {post : Value → Led → Prop} {name qual : Str} {params : Arguments} {body : List Stmt} {scope : Scope}
    {dV kV doc pm cdv ct oc : World → Value} {an od : World → Option Addr} {osl : World → Array (Option Value)} {binds : List (Str × Value)}
    (ho : ∀ w : World, (hd.heap_39 w.params).lookup f = some ⟨oc w, od w, .func (fnOf name qual params body scope (dV w) (kV w) (doc w) (pm w) (an w) (cdv w) (ct w)), osl w⟩)
    (hcd : ∀ w : World, codeIn (hd.heap_39 w.params) (cdv w) qual = true)
    (hbind : ∀ (w : World) (s : Shared), (hd.heap_39 w.params).In s.heap → BindsTo s (fnOf name qual params body scope (dV w) (kV w) (doc w) (pm w) (an w) (cdv w) (ct w)) ⟨vs, []⟩ binds)
    (hloc : ∀ y ∈ binds, scope.names.lookup y.1 = some .local)
    (hcell : ∀ x ∈ scope.names, x.2 ≠ .cell) (hco : scope.isCoroutine = false) (hgen : scope.isGenerator = false) (hk : scope.kind = .function)
    (hb : ∀ w : World, Body pre f D small post qual scope (cdv w) body (fun y => binds.reverse.lookup y)) : ConP pre f vs D small post := by
  intro w p loose mean mg mb A fr base s Q E hh hdp hu B X T c1 c2 hpre hs ret
  refine wpAny_call ?_
  have st : (gh s.heap small).StaysIn s.heap := fun b o e => of_hideAll _ e
  have X' : (hd.heap_39 w.params).In s.heap := X.keeps st
  refine codeAny_call_def (fd := fnOf name qual params body scope (dV w) (kV w) (doc w) (pm w) (an w) (cdv w) (ct w)) (body := body) (binds := binds) (by omega) (X' _ _ (ho w)) rfl (T.nolimit.keeps st) (codeRec_of X' (hcd w)) rfl (hbind w s X') hcell hloc (fun h₁ hns hk₁ => ?_) hco hgen hk
  have eA := around_eta hh B.stack
  have W := hb w w p loose mean mg mb A.depth A.units A.guards fr base (gh s.heap small) s.heap.objs.size s h₁ (s.toks + binds.length) (by omega) (by omega) (eA ▸ B) X T c1 c2 hpre
    ⟨hns, fun b o e => hk₁ b o (of_hideAll _ e), Nat.le_of_eq (hideAll_size _ _)⟩
    (fun q hq => ⟨hk₁ _ _ (hs q hq), Nat.ne_of_lt (Heap.lt_size (hs q hq)), hideAll_none _ (List.mem_map_of_mem hq)⟩)
    (fun q hq => Heap.lt_size (hs q hq))
  rw [← eA] at W
  refine wpAny_mono W (fun fl s' hdn => ?_) fun _ _ x => x.elim
  obtain ⟨L', m', h', tk', small', rfl, F', N', hp⟩ := hdn
  exact ret _ small' h' tk' F'.keep (fun q hq => ⟨(N' q hq).1, (N' q hq).2.2⟩) hp

/-- one object picked out of a ledger -/
inductive Pick (a : Addr) (o : Obj) : Led → Led → Prop
  | head {r : Led} : (∀ p ∈ r, p.1 ≠ a) → Pick a o ((a, o) :: r) r
  | tail {p : Addr × Obj} {r r' : Led} : p.1 ≠ a → Pick a o r r' → Pick a o (p :: r) (p :: r')
inductive Picks : Led → Led → Led → Prop
  | nil {news : Led} : Picks [] news news
  | cons {a : Addr} {o : Obj} {news r small rest : Led} : Pick a o news r → Picks small r rest → Picks ((a, o) :: small) news rest

theorem Pick.mem {a : Addr} {o : Obj} {l r : Led} (h : Pick a o l r) : (a, o) ∈ l ∧ (∀ p ∈ r, p ∈ l) ∧ ∀ p ∈ r, p.1 ≠ a := by
  induction h with
  | head h => exact ⟨.head _, fun p hp => .tail _ hp, h⟩
  | tail h _ ih =>
    refine ⟨.tail _ ih.1, fun p hp => ?_, fun p hp => ?_⟩
    · rcases List.mem_cons.mp hp with rfl | hp
      · exact .head _
      · exact .tail _ (ih.2.1 p hp)
    · rcases List.mem_cons.mp hp with rfl | hp
      · exact h
      · exact ih.2.2 p hp
theorem Picks.mem {small news rest : Led} (h : Picks small news rest) : (∀ p ∈ small, p ∈ news) ∧ (∀ p ∈ rest, p ∈ news) ∧ ∀ p ∈ rest, ∀ q ∈ small, p.1 ≠ q.1 := by
  induction h with
  | nil => exact ⟨(fun _ h => nomatch h), (fun _ h => h), (fun _ _ _ h => nomatch h)⟩
  | cons h _ ih =>
    have hm := Pick.mem h
    refine ⟨fun p hp => ?_, fun p hp => hm.2.1 p (ih.2.1 p hp), fun p hp q hq => ?_⟩
    · rcases List.mem_cons.mp hp with rfl | hp
      · exact hm.1
      · exact hm.2.1 p (ih.1 p hp)
    · rcases List.mem_cons.mp hq with rfl | hq
      · exact hm.2.2 p (ih.2.1 p hp)
      · exact ih.2.2 p hp q hq

theorem ground2 {A₀ A : Around} {base h₀ : Heap} {outer : List Env} {env : Env} {L : Addr} {m : Str → Option Value} {s : Shared} {small : Led}
    (B : Below A₀ base outer h₀) (F : Fr h₀ L s.heap m) (N : News h₀ L s.heap small) (hA : A.frames = some (env :: outer)) (hf : env.frame = some L) (hke : env.scope.kind = .function) :
    Below A base (env :: outer) (gh s.heap small) ∧ h₀.StaysIn (gh s.heap small) :=
  have g := groundX (R := fun _ _ => True) B F N hA hf hke
  ⟨g.2.1, g.2.2.1⟩

theorem use {pre : Heap → Prop} {f : Addr} {vs : List Value} {D : Nat} {small news rest : Led} {post : Value → Led → Prop} {w : World} {p : Program} {loose : List Str} {mean : ExcName → Option Value} {mg mb : Str → Option Value}
    {A₀ A : Around} {base h₀ : Heap} {outer : List Env} {env : Env} {L : Addr} {m : Str → Option Value} {s : Shared} {Q E : Value → Shared → Prop}
    (C : ConP pre f vs D small post) (B : Below A₀ base outer h₀) (F : Fr h₀ L s.heap m) (X : (hd.heap_39 w.params).In h₀) (N : News h₀ L s.heap news) (T : Top p loose mean mg mb h₀) (c1 : CodeHd base 191 187) (c2 : CodeHd base 203 201)
    (hA : A.frames = some (env :: outer)) (hh : A.handled = none) (hf : env.frame = some L) (hke : env.scope.kind = .function) (hdp : A.depth + D < recursionLimit) (hu : A.units + 16 * D < cLine) (pk : Picks small news rest) (hpre : ∀ g, h₀.StaysIn g → pre g)
    (ret : ∀ r small' h' tk', Fr h₀ L h' m → News h₀ L h' (small' ++ rest) → (∀ q ∈ small', ∀ p ∈ rest, q.1 ≠ p.1) → post r small' → Q r { s with heap := h', toks := tk' }) :
    wpAny (model PySem.Challenge.rw_nn0114_01.row.prog w) A (call (.ref f) vs) Q E s := by
  obtain ⟨p1, p2, p3⟩ := pk.mem
  have NS : News h₀ L s.heap small := fun q hq => N q (p1 q hq)
  obtain ⟨BG, st⟩ := ground2 (s := s) B F NS hA hf hke
  refine C w p loose mean mg mb A (env :: outer) base s Q E hh hdp hu BG (X.keeps st) (T.keeps st) c1 c2 (hpre _ st) (fun q hq => (NS q hq).1) fun r small' h' tk' k hs hp => ?_
  obtain ⟨oL, es, ep, hL, r3⟩ := F.ns
  have notIn : ∀ b, (∀ q ∈ small, b ≠ q.1) → b ∉ small.map (·.1) := fun b h q => by
    obtain ⟨x, hx, rfl⟩ := List.mem_map.mp q
    exact h x hx rfl
  have kL : (gh s.heap small).get? L = some oL := hideAll_get _ hL (notIn _ fun q hq e => (NS q hq).2.1 e.symm)
  have kR : ∀ q ∈ rest, (gh s.heap small).get? q.1 = some q.2 := fun q hq => hideAll_get _ (N q (p2 q hq)).1 (notIn _ fun x hx => p3 q hq x hx)
  refine ret r small' h' tk' ⟨⟨oL, es, ep, k _ _ kL, r3⟩, fun b o e => k b o (st b o e), F.above⟩ (fun q hq => ?_) (fun q hq x hx e => ?_) hp
  · rcases List.mem_append.mp hq with hq | hq
    · refine ⟨(hs q hq).1, fun e => ?_, ?_⟩
      · have := (hs q hq).2; rw [e, kL] at this; cases this
      · cases e : h₀.get? q.1 with
        | none => rfl
        | some o => have := (hs q hq).2; rw [st _ _ e] at this; cases this
    · exact ⟨k _ _ (kR q hq), (N q (p2 q hq)).2⟩
  · have := (hs q hq).2; rw [e, kR x hx] at this; cases this

/-- a contract spent in a def's body -/
theorem use1 {pre : Heap → Prop} {f : Addr} {vs : List Value} {D : Nat} {small news rest : Led} {post : Value → Led → Prop} {w : World} {p : Program} {loose : List Str} {mean : ExcName → Option Value} {mg mb : Str → Option Value}
    {dp un : Nat} {gd : Option (List Code)} {fr : List Env} {base h₀ : Heap} {env : Env} {L : Addr} {m : Str → Option Value} {s : Shared} {Q E : Value → Shared → Prop}
    (C : ConP pre f vs D small post) (B : Below (tp dp un gd fr) base fr h₀) (F : Fr h₀ L s.heap m) (X : (hd.heap_39 w.params).In h₀) (N : News h₀ L s.heap news) (T : Top p loose mean mg mb h₀) (c1 : CodeHd base 191 187) (c2 : CodeHd base 203 201)
    (hf : env.frame = some L) (hke : env.scope.kind = .function) (hdp : dp + 1 + D < recursionLimit) (hu : un + 3 + 16 * D < cLine) (pk : Picks small news rest) (hpre : ∀ g, h₀.StaysIn g → pre g)
    (ret : ∀ r small' h' tk', Fr h₀ L h' m → News h₀ L h' (small' ++ rest) → (∀ q ∈ small', ∀ p ∈ rest, q.1 ≠ p.1) → post r small' → Q r { s with heap := h', toks := tk' }) :
    wpAny (model PySem.Challenge.rw_nn0114_01.row.prog w) ((tp dp un gd fr).deeper env) (call (.ref f) vs) Q E s :=
  use C B F X N T c1 c2 rfl rfl hf hke hdp hu pk hpre ret

/-- `use` with the contract last but one: what is said of the result comes first, ready for a post-rule -/
theorem usek {pre : Heap → Prop} {f : Addr} {vs : List Value} {D : Nat} {small news rest : Led} {post : Value → Led → Prop} {w : World} {p : Program} {loose : List Str} {mean : ExcName → Option Value} {mg mb : Str → Option Value}
    {A₀ A : Around} {base h₀ : Heap} {outer : List Env} {env : Env} {L : Addr} {m : Str → Option Value} {s : Shared} {Q E : Value → Shared → Prop}
    (B : Below A₀ base outer h₀) (F : Fr h₀ L s.heap m) (X : (hd.heap_39 w.params).In h₀) (N : News h₀ L s.heap news) (T : Top p loose mean mg mb h₀) (c1 : CodeHd base 191 187) (c2 : CodeHd base 203 201)
    (hA : A.frames = some (env :: outer)) (hh : A.handled = none) (hf : env.frame = some L) (hke : env.scope.kind = .function) (pk : Picks small news rest) (hpre : ∀ g, h₀.StaysIn g → pre g) (C : ConP pre f vs D small post) (hdp : A.depth + D < recursionLimit) (hu : A.units + 16 * D < cLine)
    (ret : ∀ r small', post r small' → ∀ h' tk', Fr h₀ L h' m → News h₀ L h' (small' ++ rest) → (∀ q ∈ small', ∀ p ∈ rest, q.1 ≠ p.1) → Q r { s with heap := h', toks := tk' }) :
    wpAny (model PySem.Challenge.rw_nn0114_01.row.prog w) A (call (.ref f) vs) Q E s :=
  use C B F X N T c1 c2 hA hh hf hke hdp hu pk hpre fun r small' h' tk' F' N' A' q => ret r small' q h' tk' F' N' A'
theorem usen {pre : Heap → Prop} {f : Addr} {vs : List Value} {D : Nat} {small news rest : Led} {post : Value → Led → Prop} {w : World} {p : Program} {loose : List Str} {mean : ExcName → Option Value} {mg mb : Str → Option Value}
    {A₀ A : Around} {base h₀ : Heap} {outer : List Env} {env : Env} {L : Addr} {m : Str → Option Value} {s : Shared} {Q E : Value → Shared → Prop}
    (B : Below A₀ base outer h₀) (F : Fr h₀ L s.heap m) (X : (hd.heap_39 w.params).In h₀) (N : News h₀ L s.heap news) (T : Top p loose mean mg mb h₀) (c1 : CodeHd base 191 187) (c2 : CodeHd base 203 201)
    (hA : A.frames = some (env :: outer)) (hh : A.handled = none) (hf : env.frame = some L) (hke : env.scope.kind = .function) (pk : Picks small news rest) (hpre : ∀ g, h₀.StaysIn g → pre g) (C : ConP pre f vs D small post) (hdp : A.depth + D < recursionLimit) (hu : A.units + 16 * D < cLine)
    (ret : ∀ r small', post r small' → ∀ h' tk', Fr h₀ L h' m → News h₀ L h' (small' ++ rest) → Q r { s with heap := h', toks := tk' }) :
    wpAny (model PySem.Challenge.rw_nn0114_01.row.prog w) A (call (.ref f) vs) Q E s :=
  use C B F X N T c1 c2 hA hh hf hke hdp hu pk hpre fun r small' h' tk' F' N' _ q => ret r small' q h' tk' F' N'
/-- room for a call, told by the body's own room -/
theorem room1 {dp D M : Nat} (h : dp + M < recursionLimit) (hl : Nat.ble (1 + D) M = true) : dp + 1 + D < recursionLimit :=
  Nat.lt_of_le_of_lt (by rw [Nat.add_assoc]; exact Nat.add_le_add_left (Nat.le_of_ble_eq_true hl) dp) h
theorem units1 {un D M : Nat} (h : un + 16 * M < cLine) (hl : Nat.ble (3 + 16 * D) (16 * M) = true) : un + 3 + 16 * D < cLine :=
  Nat.lt_of_le_of_lt (by rw [Nat.add_assoc]; exact Nat.add_le_add_left (Nat.le_of_ble_eq_true hl) un) h
theorem post_eq {K : Value → Led → Prop} {v : Value} {l₀ : Led} (h : K v l₀) : ∀ r l, (r = v ∧ l = l₀) → K r l := by
  rintro _ _ ⟨rfl, rfl⟩
  exact h
section
variable {prog : Program} {w : World} {A : Around} {E : Value → Shared → Prop} {s : Shared} {env : Env} {h₀ : Heap} {x : PySem.Str} {body : List Stmt} {Q : Flow → Shared → Prop}

/-- a loop over a list of ints of the ledger, which the turns leave as it stands -/
theorem iter_listC {l : Addr} {vs : List Value} {ns : List Int} {nn : Nat} {m₀ : PySem.Str → Option Value} {news : Led} (J : Nat → (PySem.Str → Option Value) → Prop)
    (hh : A.handled = none) (hl : (l, listOf vs.toArray nn) ∈ news) (hi : IntsAre vs ns) (F : Fr h₀ env.locals s.heap m₀) (N : News h₀ env.locals s.heap news) (hj : J 0 m₀)
    (turn : ∀ i n t m₁ h tk own, ns[i]? = some n → OwnOff own (news.map (·.1)) → J i m₁ → Fr h₀ env.locals h (fun y => if y = x then some (.int n t) else m₁ y) → News h₀ env.locals h (news ++ own) →
      wpAny (model prog w) A (execs body env) (InvPostN h₀ env.locals (fun m' nx => nx = news ∧ J (i + 1) m') own (news.map (·.1)) { s with heap := h, toks := tk } Q) E { s with heap := h, toks := tk })
    (done : ∀ m₁ h tk, J ns.length m₁ → Fr h₀ env.locals h m₁ → News h₀ env.locals h news → Q .next { s with heap := h, toks := tk }) :
    wpAny (model prog w) A (pyIter (.ref l)) (fun it s₂ => LoopAtV prog w A h₀ env x body Q E it s₂) E s := by
  refine iter_invNL (fun i m nx => nx = news ∧ J i m) hh hl hi F N ⟨rfl, hj⟩ ?_ ?_
  · rintro i n t m₁ nx h tk own hn ha hoff hl₁ ⟨rfl, hj'⟩ F₁ N₁
    refine wpAny_mono (turn i n t m₁ h tk own hn hoff hj' F₁ N₁) (fun f s₂ p => ?_) fun _ _ e => e
    have up : InvEndN h₀ env.locals (fun m' nx' => nx' = nx ∧ J (i + 1) m') own (nx.map (·.1)) { s with heap := h, toks := tk } s₂ →
        InvEndN h₀ env.locals (fun m' nx' => (l, listOf vs.toArray nn) ∈ nx' ∧ nx' = nx ∧ J (i + 1) m') own (nx.map (·.1)) { s with heap := h, toks := tk } s₂ := by
      rintro ⟨h', tk', m', news', nx', e', F', N', hn', ho', ha, rfl, hS⟩
      exact ⟨h', tk', m', news', nx', e', F', N', hn', ho', ha, hl₁, rfl, hS⟩
    cases f with
    | ret v => exact p
    | brk => exact p
    | next => exact up p
    | cont => exact up p
  · rintro m₁ nx h tk _ ⟨rfl, hj'⟩ F₁ N₁
    exact done m₁ h tk hj' F₁ N₁
theorem endC {L : Addr} {J : (PySem.Str → Option Value) → Prop} {m' : PySem.Str → Option Value} {own news : Led} {s₁ : Shared} {h' : Heap} {tk : Nat} (F : Fr h₀ L h' m') (N : News h₀ L h' (news ++ own))
    (hj : J m') : InvEndN h₀ L (fun m' nx => nx = news ∧ J m') own (news.map (·.1)) s₁ { s₁ with heap := h', toks := tk } :=
  InvEndN.intro F N ⟨rfl, hj⟩ rfl (fun _ hp => List.mem_append_left _ hp) (fun _ hp => List.mem_append_right _ hp)

/-- a loop over a range by an invariant -/
theorem iter_rangeN {r : Addr} {a₀ b₀ : Int} {t₀ u₀ v₀ : Tok} {n : Nat} {m₀ : PySem.Str → Option Value} {news : Led} (J : Nat → (PySem.Str → Option Value) → Led → Prop)
    (hh : A.handled = none) (hr : IsRange s.heap r a₀ b₀ 1 t₀ u₀ v₀) (hsmall : Builtin.Range.small a₀ b₀ 1 = true) (hn : Builtin.Range.rangeSize a₀ b₀ 1 = (n : Int)) (F : Fr h₀ env.locals s.heap m₀) (N : News h₀ env.locals s.heap news) (hj : J 0 m₀ news)
    (turn : ∀ i t m₁ news₁ h tk own, i < n → news₁.map (·.1) = news.map (·.1) → OwnOff own (news.map (·.1)) → J i m₁ news₁ →
      Fr h₀ env.locals h (fun y => if y = x then some (.int (a₀ + (i : Int)) t) else m₁ y) → News h₀ env.locals h (news₁ ++ own) →
      wpAny (model prog w) A (execs body env) (InvPostN h₀ env.locals (J (i + 1)) own (news.map (·.1)) { s with heap := h, toks := tk } Q) E { s with heap := h, toks := tk })
    (done : ∀ m₁ news₁ h tk, J n m₁ news₁ → Fr h₀ env.locals h m₁ → News h₀ env.locals h news₁ → Q .next { s with heap := h, toks := tk }) :
    wpAny (model prog w) A (pyIter (.ref r)) (fun it s₂ => LoopAtV prog w A h₀ env x body Q E it s₂) E s := by
  refine wpAny_pyIter_range hr hsmall ?_
  have W : Walks prog w A s.heap.objs.size [s.heap.objs.size] [s.heap.objs.size] n (fun i v => i < n ∧ ∃ t, v = .int (a₀ + i * 1) t)
      (fun i h => IsRangeIter h s.heap.objs.size (a₀ + (i : Nat) * 1) ((n : Int) - (i : Nat)) 1) := (Walks.range hh _ a₀ 1 n).bound
  refine loop_invN J W ?_ ?_ ?_ ?_ (by show IsRangeIter _ _ _ _ _; rw [hn]; simpa using Heap.get?_push_size _ rfl) (F.push _) (fun p hp => ⟨Heap.get?_push_of_some _ (N p hp).1, (N p hp).2⟩) hj ?_ ?_
  · intro hm
    exact absurd F.ns.lt ((List.mem_singleton.mp hm) ▸ Nat.lt_irrefl _)
  · intro b hb
    rw [List.mem_singleton.mp hb]
    exact next_is_new F
  · intro p hp hI
    exact absurd (Heap.lt_size (N p hp).1) ((List.mem_singleton.mp hI) ▸ Nat.lt_irrefl _)
  · intro p hp hI
    exact absurd (Heap.lt_size (N p hp).1) ((List.mem_singleton.mp hI) ▸ Nat.lt_irrefl _)
  · rintro i v m₁ nx h tk own hi ⟨_, t, rfl⟩ ha hoff hj' F₁ N₁
    have e1 : a₀ + (i : Int) * 1 = a₀ + (i : Int) := by omega
    rw [e1] at F₁
    exact turn i t m₁ nx h tk own hi ha hoff hj' F₁ N₁
  · intro m₁ nx h tk hj' F₁ N₁
    exact done m₁ nx h tk hj' F₁ N₁

/-- a loop over bytes by an invariant -/
theorem iter_bytesN {b : Array UInt8} {tb : Tok} {m₀ : PySem.Str → Option Value} {news : Led} (J : Nat → (PySem.Str → Option Value) → Led → Prop)
    (hh : A.handled = none) (F : Fr h₀ env.locals s.heap m₀) (N : News h₀ env.locals s.heap news) (hj : J 0 m₀ news)
    (turn : ∀ i (n : UInt8) t m₁ news₁ h tk own, b[i]? = some n → news₁.map (·.1) = news.map (·.1) → OwnOff own (news.map (·.1)) → J i m₁ news₁ →
      Fr h₀ env.locals h (fun y => if y = x then some (.int (n.toNat : Int) t) else m₁ y) → News h₀ env.locals h (news₁ ++ own) →
      wpAny (model prog w) A (execs body env) (InvPostN h₀ env.locals (J (i + 1)) own (news.map (·.1)) { s with heap := h, toks := tk } Q) E { s with heap := h, toks := tk })
    (done : ∀ m₁ news₁ h tk, J b.size m₁ news₁ → Fr h₀ env.locals h m₁ → News h₀ env.locals h news₁ → Q .next { s with heap := h, toks := tk }) :
    wpAny (model prog w) A (pyIter (.bytes b tb)) (fun it s₂ => LoopAtV prog w A h₀ env x body Q E it s₂) E s := by
  refine KBw.pyIter_bytes ?_
  have W := KBw.walks (prog := prog) (w := w) hh s.heap.objs.size b tb
  refine loop_invN J W ?_ ?_ ?_ ?_ ⟨_, Heap.get?_push_size _ rfl, rfl, rfl⟩ (F.push _) (fun p hp => ⟨Heap.get?_push_of_some _ (N p hp).1, (N p hp).2⟩) hj ?_ ?_
  · intro hm
    exact absurd F.ns.lt ((List.mem_singleton.mp hm) ▸ Nat.lt_irrefl _)
  · intro b' hb
    rw [List.mem_singleton.mp hb]
    exact next_is_new F
  · intro p hp hI
    exact absurd (Heap.lt_size (N p hp).1) ((List.mem_singleton.mp hI) ▸ Nat.lt_irrefl _)
  · intro p hp hI
    exact absurd (Heap.lt_size (N p hp).1) ((List.mem_singleton.mp hI) ▸ Nat.lt_irrefl _)
  · rintro i v m₁ nx h tk own hi ⟨n, u, hn, rfl⟩ ha hoff hj' F₁ N₁
    exact turn i n u m₁ nx h tk own hn ha hoff hj' F₁ N₁
  · intro m₁ nx h tk hj' F₁ N₁
    exact done m₁ nx h tk hj' F₁ N₁
end

/-- a frame told by the names that matter -/
noncomputable def AllN (m : PySem.Str → Option Value) : List (PySem.Str × Value) → Prop
  | [] => True
  | p :: r => m p.1 = some p.2 ∧ AllN m r
theorem AllN.all {m : PySem.Str → Option Value} : ∀ {ps : List (PySem.Str × Value)}, AllN m ps → ∀ p ∈ ps, m p.1 = some p.2
  | _ :: _, h, _, .head _ => h.1
  | _ :: _, h, _, .tail _ hp => AllN.all h.2 _ hp
theorem fr_names {h₀ h : Heap} {L : Addr} {x : PySem.Str} {v : Option Value} {m : PySem.Str → Option Value} (ps : List (PySem.Str × Value)) (hp : AllN m ps)
    (F : Fr h₀ L h (fun y => if y = x then v else m y)) : Fr h₀ L h (fun y => if y = x then v else kstB m ps y) := by
  have e : (fun y => if y = x then v else kstB m ps y) = fun y => if y = x then v else m y := funext fun y => by rw [kstB_eq hp.all fun _ => rfl]
  rw [e]
  exact F
theorem fr_names0 {h₀ h : Heap} {L : Addr} {m : PySem.Str → Option Value} (ps : List (PySem.Str × Value)) (hp : AllN m ps)
    (F : Fr h₀ L h m) : Fr h₀ L h (kstB m ps) := by
  have e : kstB m ps = m := funext fun y => kstB_eq hp.all fun _ => rfl
  rw [e]
  exact F

theorem item_news {prog : Program} {w : World} {A : Around} {E : Value → Shared → Prop} {s : Shared} {h₀ : Heap} {L : Addr} {news : Led} {value slice : Expr} {a : Addr} {its : Array Value} {n : Nat} {k : Int} {u : Tok} {v : Value} {Q : Value → Shared → Prop}
    (N : News h₀ L s.heap news) (hm : (a, listOf its n) ∈ news) (h0 : 0 ≤ k) (hhi : k < 2 ^ 63) (hx : its.toList[k.toNat]? = some v) (h : Q v s)
    (hs : subscripted slice false (.ref a) (.int k u) = operate [.ref a, .int k u] (getItem (.ref a) (.int k u)) := by with_unfolding_all rfl) :
    wpAny (model prog w) A (subscriptTail value slice (.ref a) (.int k u)) Q E s :=
  have hL : s.heap.IsList a its := ⟨_, (N _ hm).1, rfl, n, rfl⟩
  tail_any hL.typeIs slot_list_getitem.lookup (wpAny_getItem_list hL h0 hhi (by simpa using hx) h) hs


theorem call_nil {m : Model} {A : Around} {Q E : Value → Shared → Prop} {s : Shared} {f : Value} {vs : List Value} (h : wpAny m A (call f vs) Q E s) : wpAny m A (call f (vs ++ [])) Q E s := by rw [List.append_nil]; exact h
local macro_rules | `(tactic| omega) => `(tactic| first | lia | omega (splitNatSub := true))
local macro_rules | `(tactic| k_steps) => `(tactic| repeat' (first | (k_unfold; (try dsimp only)) | ((fail_if_success k_extra "stop"); first | ((with_reducible show wpAny _ _ (call _ (_ ++ [])) _ _ _); refine call_nil ?_; dsimp only; walk1) | ((with_reducible show wpAny _ _ (storeName _ _ _) _ _ _); dsimp only; walk1) | ((first | (with_reducible show wpAny _ _ (call (Value.ref _) _) _ _ _) | (with_reducible show wpAny _ _ (binaryOp _ (Value.ref _) (Value.ref _)) _ _ _)); dsimp only; walk1) | walk1 | (dsimp only; walk1)) | fail "no step"))

local macro_rules | `(tactic| k_upd) => `(tactic| (apply Picks.cons; k_upd; k_upd))
local macro_rules | `(tactic| k_upd) => `(tactic| exact Picks.nil)
local macro_rules | `(tactic| k_upd) => `(tactic| first | (apply Pick.head; k_all) | (apply Pick.tail; k_ne; k_upd))


local macro_rules | `(tactic| ktr_rel) => `(tactic| (refine' con_of ?ho ?hcd ?hbind ?hloc ?hcell ?hco ?hgen ?hk ?hb; (case ho => (intro w; k_dflt k_is)); (case hcd => (intro w; k_dflt k_is)); (case hbind => (intro w s X; (first | exact BindsTo.of_eq rfl | exact binds_K X rfl (by k_is) rfl rfl rfl))); (case hloc => exact locs rfl); (case hcell => decide); (case hco => exact rfl); (case hgen => exact rfl); (case hk => exact rfl); unfold Body))

local macro_rules | `(tactic| k_ne) => `(tactic| (refine neN ?_; (try dsimp only); first | with_reducible assumption | (with_reducible exact Ne.symm (by assumption)) | omega))
theorem kw00_base : True := by
  k_with "subscriptTail Name Constant ref int" => (k_here; (with_reducible show wpAny _ _ (subscriptTail _ _ (Value.ref _) (Value.int _ _)) _ _ _); k_dflt (refine item_news (by k_asm) (by k_mem) (by decide) (by decide) (by first | exact rfl | fail "no") ?_ (by with_unfolding_all rfl); k_whole))
  k_with "binaryOp Mult int int" => ((with_reducible show wpAny _ _ (binaryOp Operator.Mult (Value.int _ _) (Value.int _ _)) _ _ _); refine mul_int ?_ (IntMulOk.of_left (intBits_le_64 (by omega) (by omega))))
  k_with "compareOp In int ref" => (k_here; (with_reducible show wpAny _ _ (compareOp CmpOp.In (Value.int _ _) (Value.ref _)) _ _ _); k_dflt (first | (refine in_tuple_ints (by first | exact tupK (Frag.In.keeps (by k_asm) (Fr.keep (by k_asm))) (by k_is) | fail "no") (by repeat' (first | exact IntsAre.nil | apply IntsAre.cons)) ?_; k_whole) | (refine in_tuple_ints (by first | exact News.isTup (by k_asm) (by k_mem) | fail "no") (by repeat' (first | exact IntsAre.nil | apply IntsAre.cons)) ?_; k_whole)))
  k_with "compareOp NotIn int ref" => (k_here; (with_reducible show wpAny _ _ (compareOp CmpOp.NotIn (Value.int _ _) (Value.ref _)) _ _ _); k_dflt (first | (refine notin_tuple_ints (by first | exact tupK (Frag.In.keeps (by k_asm) (Fr.keep (by k_asm))) (by k_is) | fail "no") (by repeat' (first | exact IntsAre.nil | apply IntsAre.cons)) ?_; k_whole) | (refine notin_tuple_ints (by first | exact News.isTup (by k_asm) (by k_mem) | fail "no") (by repeat' (first | exact IntsAre.nil | apply IntsAre.cons)) ?_; k_whole)))
  k_with "callWith ref" => (k_here; k_dflt (refine callWith_K (by with_reducible assumption) (by k_is) ?_; k_whole))
  k_with "eval Name" => (k_here; (fail_if_success (with_reducible show wpAny _ _ (eval _ (compEnvC _ _ _ _)) _ _ _)); k_dflt (first | (refine nameX_L (by k_asm) (by rfl) ?_ (by rfl) (by rfl); k_whole) | (refine nameX_K (by k_asm) (by k_asm) (by k_asm) (by k_is) ?_ (by rfl) (by rfl); k_whole)))
  k_with "stop" => (first | (with_reducible show wpAny _ _ (exec (Stmt.For _ _ _ _ _) _) _ _ _) | (with_reducible show wpAny _ _ (exec (Stmt.While _ _ _ _) _) _ _ _) | (with_reducible show wpAny _ _ (pyIter _) _ _ _) | (with_reducible show InvPostN _ _ _ _ _ _ _ _ _) | (with_reducible show WhileStep2 _ _ _ _ _ _ _ _))
  trivial
/-- the pen: a list of two ints, none below nought; the second at most c -/
def isPen (c : Int) (o : Obj) : Prop := ∃ (n k : Int) (t u : Tok) (e : Nat), o = listOf #[.int n t, .int k u] e ∧ 0 ≤ n ∧ 0 ≤ k ∧ k ≤ c

set_option maxHeartbeats 8000000 in
theorem draw {P : Addr} {o : Obj} {c many : Int} {v : Tok} (hp : isPen c o) (hc : c < 1000000) (hm0 : 1 ≤ many) (hm1 : many < 1000000) :
    Con 166 [.ref P, .int many v] 1 [(P, o)] (fun r l => ∃ (d : Int) (t : Tok) (o' : Obj), r = .int d t ∧ l = [(P, o')] ∧ isPen (c + 1) o' ∧ 0 ≤ d ∧ d < many) := by
  obtain ⟨n, k, t, u, e, rfl, hn, hk0, hk1⟩ := hp
  refine' con_of ?ho ?hcd ?hbind ?hloc ?hcell ?hco ?hgen ?hk ?hb
  case ho => intro w; k_dflt k_is
  case hcd => intro w; k_dflt k_is
  case hbind => intro w s X; exact BindsTo.of_eq rfl
  case hloc => exact locs rfl
  case hcell => decide
  case hco => exact rfl
  case hgen => exact rfl
  case hk => exact rfl
  case hb =>
    unfold Body
    intro w w p loose mean mg mb dp un gd fr base g L s h tk hdp hun B X T c1 c2 _ F N hlt
    k_fold
    k_steps
    · refine done_intro _ (by k_asm) (by k_asm) ⟨_, _, _, rfl, rfl, ⟨_, _, _, _, _, rfl, Int.fdiv_nonneg hn (by omega), by omega, by omega⟩, Int.fmod_nonneg_of_pos _ (by omega), Int.fmod_lt_of_pos _ (by omega)⟩
    · refine done_intro _ (by k_asm) (by k_asm) ⟨_, _, _, rfl, rfl, ⟨_, _, _, _, _, rfl, by omega, by omega, by omega⟩, Int.fmod_nonneg_of_pos _ (by omega), Int.fmod_lt_of_pos _ (by omega)⟩
theorem post_draw {K : Value → Led → Prop} {P : Addr} {c many : Int} (h : ∀ d t o', isPen (c + 1) o' → 0 ≤ d → d < many → K (.int d t) [(P, o')]) :
    ∀ r l, (∃ (d : Int) (t : Tok) (o' : Obj), r = .int d t ∧ l = [(P, o')] ∧ isPen (c + 1) o' ∧ 0 ≤ d ∧ d < many) → K r l := by
  rintro _ _ ⟨d, t, o', rfl, rfl, h1, h2, h3⟩
  exact h d t o' h1 h2 h3
theorem kw10_draw : True := by
  k_with "call ref" => (k_here; (with_reducible show wpAny _ _ (call (Value.ref 166) [Value.ref _, Value.int _ _]) _ _ _); k_dflt (refine usen (by k_asm) (by k_asm) (by k_asm) (by k_asm) (by k_asm) (by k_asm) (by k_asm) (by first | exact rfl | fail "no") (by first | exact rfl | fail "no") (by first | exact rfl | fail "no") (by first | exact rfl | fail "no") (by k_upd) (fun _ _ => trivial) (draw (by k_asm) (by omega) (by omega) (by omega)) (by first | exact room1 (by with_reducible assumption) (by rfl) | k_room | omega) (by first | exact units1 (by with_reducible assumption) (by rfl) | k_units | (with_unfolding_all exact Nat.le_of_ble_eq_true rfl) | omega) (post_draw ?_); intro zv zt zo zp zlo zhi zh zk zF zN; (try dsimp only [List.cons_append, List.nil_append] at zN); (try k_sweep)))
  trivial
set_option maxHeartbeats 800000 in
theorem law_pen {S : Addr} {vs : List Value} {ns : List Int} (hi : IntsAre vs ns) (hn : ns.length ≤ 63) :
    ConP (fun g => g.IsList S vs.toArray) 159 [.ref S] 2 [] (fun r l => ∃ (P : Addr) (o : Obj), r = .ref P ∧ l = [(P, o)] ∧ isPen 0 o) := by
  refine' con_of ?ho ?hcd ?hbind ?hloc ?hcell ?hco ?hgen ?hk ?hb
  case ho => intro w; k_dflt k_is
  case hcd => intro w; k_dflt k_is
  case hbind => intro w s X; exact BindsTo.of_eq rfl
  case hloc => exact locs rfl
  case hcell => decide
  case hco => exact rfl
  case hgen => exact rfl
  case hk => exact rfl
  case hb =>
    unfold Body
    intro w w p loose mean mg mb dp un gd fr base g L s h tk hdp hun B X T c1 c2 hl F N hlt
    k_fold
    k_steps
    (rename Fr _ _ _ _ => F1)
    (with_unfolding_all refine' For_invVF F1 ?k1 ?k2 ?_; (case k1 => exact rfl); (case k2 => exact rfl))
    k_steps
    (rename Fr _ _ _ _ => F2)
    (rename News _ _ _ _ => N2)
    (rename IntsAre _ _ => hI2)
    refine' iter_listC (fun i m => ∃ n t, m "number" = some (.int n t) ∧ 0 ≤ n) rfl ?hm hI2 F2 N2 ?hj ?turn ?done
    case hj => exact ⟨0, _, rfl, by omega⟩
    case hm => k_dflt k_mem
    case turn =>
      rintro i n t m₁ h tk own hn hoff ⟨n0, t0, e0, h0⟩ F3 N3
      replace F3 := fr_names [(Str.ofString "number", .int n0 t0)] ⟨e0, trivial⟩ F3
      clear N2
      (with_reducible show wpAny _ _ _ _ _ _)
      k_fold
      k_steps
      all_goals exact endC (by k_asm) (by k_asm) ⟨_, _, rfl, by split <;> omega⟩
    case done =>
      rintro m₁ h tk ⟨n0, t0, e0, h0⟩ F3 N3
      replace F3 := fr_names0 [(Str.ofString "number", .int n0 t0)] ⟨e0, trivial⟩ F3
      clear N2
      dsimp only
      k_steps
      refine' done_sub [_] (by k_asm) (by k_asm) ?hs ⟨_, _, rfl, rfl, _, _, _, _, _, rfl, ?h1, ?h2, ?h3⟩
      case hs => exact List.forall_mem_cons.mpr ⟨by k_mem, List.forall_mem_nil _⟩
      all_goals omega
theorem post_pen {K : Value → Led → Prop} (h : ∀ (P : Addr) o, isPen 0 o → K (.ref P) [(P, o)]) :
    ∀ r l, (∃ (P : Addr) (o : Obj), r = .ref P ∧ l = [(P, o)] ∧ isPen 0 o) → K r l := by
  rintro _ _ ⟨P, o, rfl, rfl, h1⟩
  exact h P o h1
theorem kw12_pen : True := by
  k_with "call ref" => (k_here; (with_reducible show wpAny _ _ (call (Value.ref 159) [Value.ref _]) _ _ _); k_dflt (refine usek (by k_asm) (by k_asm) (by k_asm) (by k_asm) (by k_asm) (by k_asm) (by k_asm) (by first | exact rfl | fail "no") (by first | exact rfl | fail "no") (by first | exact rfl | fail "no") (by first | exact rfl | fail "no") (by k_upd) (fun zg zst => isList_stays (by k_asm) zst) (law_pen (by k_asm) (by omega)) (by first | exact room1 (by with_reducible assumption) (by rfl) | k_room | omega) (by first | exact units1 (by with_reducible assumption) (by rfl) | k_units | (with_unfolding_all exact Nat.le_of_ble_eq_true rfl) | omega) (post_pen ?_); intro zP zo zp zh zk zF zN zA0; have zA := allNe_of (zA0 _ (.head _)); simp only [AllNeN, and_true] at zA; clear zA0; (try dsimp only [List.cons_append, List.nil_append] at zN); (try k_sweep)))
  trivial
def whiteB (c : Int) : Bool := [(0:Int), 9, 10, 12, 13, 32].any fun x => x == c
def delimB (c : Int) : Bool := [(40:Int), 41, 60, 62, 91, 93, 123, 125, 47, 37].any fun x => x == c
def regB (c : Int) : Bool := decide (0 ≤ c) && (!whiteB c && !delimB c)
def figB (c : Int) : Bool := decide (48 ≤ c) && decide (c ≤ 57)
def reg2B (c : Int) : Bool := ![(0:Int), 9, 10, 12, 13, 32, 40, 41, 60, 62, 91, 93, 123, 125, 47, 37].any fun x => x == c

set_option maxHeartbeats 800000 in
theorem is_white {c : Int} {t : Tok} : Con 23 [.int c t] 1 [] (fun r l => r = .bool (whiteB c) ∧ l = []) := by
  ktr_rel
  intro w w p loose mean mg mb dp un gd fr base g L s h tk hdp hun B X T c1 c2 hpre F N hlt
  k_fold
  k_steps
  all_goals first | exact done_sub [] (by k_asm) (by k_asm) (List.forall_mem_nil _) ⟨rfl, rfl⟩ | exact done_sub [] (by k_asm) (by k_asm) (List.forall_mem_nil _) ⟨by simp only [whiteB, whiteB, delimB]; (first | (simp_all; done) | (simp_all; omega)), rfl⟩
set_option maxHeartbeats 800000 in
theorem is_delimiter {c : Int} {t : Tok} : Con 30 [.int c t] 1 [] (fun r l => r = .bool (delimB c) ∧ l = []) := by
  ktr_rel
  intro w w p loose mean mg mb dp un gd fr base g L s h tk hdp hun B X T c1 c2 hpre F N hlt
  k_fold
  k_steps
  all_goals first | exact done_sub [] (by k_asm) (by k_asm) (List.forall_mem_nil _) ⟨rfl, rfl⟩ | exact done_sub [] (by k_asm) (by k_asm) (List.forall_mem_nil _) ⟨by simp only [delimB, whiteB, delimB]; (first | (simp_all; done) | (simp_all; omega)), rfl⟩
set_option maxHeartbeats 800000 in
theorem is_regular {c : Int} {t : Tok} : Con 37 [.int c t] 1 [] (fun r l => r = .bool (regB c) ∧ l = []) := by
  ktr_rel
  intro w w p loose mean mg mb dp un gd fr base g L s h tk hdp hun B X T c1 c2 hpre F N hlt
  k_fold
  k_steps
  all_goals first | exact done_sub [] (by k_asm) (by k_asm) (List.forall_mem_nil _) ⟨rfl, rfl⟩ | exact done_sub [] (by k_asm) (by k_asm) (List.forall_mem_nil _) ⟨by simp only [regB, whiteB, delimB]; (first | (simp_all; done) | (simp_all; omega)), rfl⟩
set_option maxHeartbeats 800000 in
theorem is_figure {c : Int} {t : Tok} : Con 44 [.int c t] 1 [] (fun r l => r = .bool (figB c) ∧ l = []) := by
  ktr_rel
  intro w w p loose mean mg mb dp un gd fr base g L s h tk hdp hun B X T c1 c2 hpre F N hlt
  k_fold
  k_steps
  all_goals first | exact done_sub [] (by k_asm) (by k_asm) (List.forall_mem_nil _) ⟨rfl, rfl⟩ | exact done_sub [] (by k_asm) (by k_asm) (List.forall_mem_nil _) ⟨by simp only [figB, whiteB, delimB]; (first | (simp_all; done) | (simp_all; omega)), rfl⟩
set_option maxHeartbeats 800000 in
theorem law_is_regular {c : Int} {t : Tok} : Con 199 [.int c t] 1 [] (fun r l => r = .bool (reg2B c) ∧ l = []) := by
  ktr_rel
  intro w w p loose mean mg mb dp un gd fr base g L s h tk hdp hun B X T c1 c2 hpre F N hlt
  k_fold
  k_steps
  all_goals first | exact done_sub [] (by k_asm) (by k_asm) (List.forall_mem_nil _) ⟨rfl, rfl⟩ | exact done_sub [] (by k_asm) (by k_asm) (List.forall_mem_nil _) ⟨by simp only [reg2B, whiteB, delimB]; (first | (simp_all; done) | (simp_all; omega)), rfl⟩
theorem kw14_tests : True := by
  k_with "call ref" => (k_here; (with_reducible show wpAny _ _ (call (Value.ref 23) [Value.int _ _]) _ _ _); k_dflt (refine usen (by k_asm) (by k_asm) (by k_asm) (by k_asm) (by k_asm) (by k_asm) (by k_asm) (by first | exact rfl | fail "no") (by first | exact rfl | fail "no") (by first | exact rfl | fail "no") (by first | exact rfl | fail "no") (by k_upd) (fun _ _ => trivial) (is_white) (by first | exact room1 (by with_reducible assumption) (by rfl) | k_room | omega) (by first | exact units1 (by with_reducible assumption) (by rfl) | k_units | (with_unfolding_all exact Nat.le_of_ble_eq_true rfl) | omega) (post_eq ?_); intro  zh zk zF zN; (try dsimp only [List.cons_append, List.nil_append] at zN); (try k_sweep)))
  k_with "call ref" => (k_here; (with_reducible show wpAny _ _ (call (Value.ref 30) [Value.int _ _]) _ _ _); k_dflt (refine usen (by k_asm) (by k_asm) (by k_asm) (by k_asm) (by k_asm) (by k_asm) (by k_asm) (by first | exact rfl | fail "no") (by first | exact rfl | fail "no") (by first | exact rfl | fail "no") (by first | exact rfl | fail "no") (by k_upd) (fun _ _ => trivial) (is_delimiter) (by first | exact room1 (by with_reducible assumption) (by rfl) | k_room | omega) (by first | exact units1 (by with_reducible assumption) (by rfl) | k_units | (with_unfolding_all exact Nat.le_of_ble_eq_true rfl) | omega) (post_eq ?_); intro  zh zk zF zN; (try dsimp only [List.cons_append, List.nil_append] at zN); (try k_sweep)))
  k_with "call ref" => (k_here; (with_reducible show wpAny _ _ (call (Value.ref 37) [Value.int _ _]) _ _ _); k_dflt (refine usen (by k_asm) (by k_asm) (by k_asm) (by k_asm) (by k_asm) (by k_asm) (by k_asm) (by first | exact rfl | fail "no") (by first | exact rfl | fail "no") (by first | exact rfl | fail "no") (by first | exact rfl | fail "no") (by k_upd) (fun _ _ => trivial) (is_regular) (by first | exact room1 (by with_reducible assumption) (by rfl) | k_room | omega) (by first | exact units1 (by with_reducible assumption) (by rfl) | k_units | (with_unfolding_all exact Nat.le_of_ble_eq_true rfl) | omega) (post_eq ?_); intro  zh zk zF zN; (try dsimp only [List.cons_append, List.nil_append] at zN); (try k_sweep)))
  k_with "call ref" => (k_here; (with_reducible show wpAny _ _ (call (Value.ref 44) [Value.int _ _]) _ _ _); k_dflt (refine usen (by k_asm) (by k_asm) (by k_asm) (by k_asm) (by k_asm) (by k_asm) (by k_asm) (by first | exact rfl | fail "no") (by first | exact rfl | fail "no") (by first | exact rfl | fail "no") (by first | exact rfl | fail "no") (by k_upd) (fun _ _ => trivial) (is_figure) (by first | exact room1 (by with_reducible assumption) (by rfl) | k_room | omega) (by first | exact units1 (by with_reducible assumption) (by rfl) | k_units | (with_unfolding_all exact Nat.le_of_ble_eq_true rfl) | omega) (post_eq ?_); intro  zh zk zF zN; (try dsimp only [List.cons_append, List.nil_append] at zN); (try k_sweep)))
  k_with "call ref" => (k_here; (with_reducible show wpAny _ _ (call (Value.ref 199) [Value.int _ _]) _ _ _); k_dflt (refine usen (by k_asm) (by k_asm) (by k_asm) (by k_asm) (by k_asm) (by k_asm) (by k_asm) (by first | exact rfl | fail "no") (by first | exact rfl | fail "no") (by first | exact rfl | fail "no") (by first | exact rfl | fail "no") (by k_upd) (fun _ _ => trivial) (law_is_regular) (by first | exact room1 (by with_reducible assumption) (by rfl) | k_room | omega) (by first | exact units1 (by with_reducible assumption) (by rfl) | k_units | (with_unfolding_all exact Nat.le_of_ble_eq_true rfl) | omega) (post_eq ?_); intro  zh zk zF zN; (try dsimp only [List.cons_append, List.nil_append] at zN); (try k_sweep)))
  trivial
/-- a slice -/
def sl (ks : List Int) (i j : Int) : List Int := (ks.drop i.toNat).take (j.toNat - i.toNat)
theorem clip_min {n : Nat} {i : Int} (h : 0 ≤ i) : clipAt n i = min i.toNat n := by
  have e : i = ((i.toNat : Nat) : Int) := by omega
  have h2 : clipAt n i = clipAt n ((i.toNat : Nat) : Int) := congrArg _ e
  rw [h2, clipAt_nat]
theorem take_drop_min (ks : List Int) (i j : Nat) : (ks.drop (min i ks.length)).take (min j ks.length - min i ks.length) = (ks.drop i).take (j - i) := by
  rcases Nat.lt_or_ge ks.length i with h | h
  · rw [Nat.min_eq_right (Nat.le_of_lt h), List.drop_of_length_le (Nat.le_refl _), List.drop_of_length_le (Nat.le_of_lt h)]; simp
  · rw [Nat.min_eq_left h]
    rcases Nat.lt_or_ge ks.length j with h2 | h2
    · rw [Nat.min_eq_right (Nat.le_of_lt h2), List.take_of_length_le (by simp), List.take_of_length_le (by simp; omega)]
    · rw [Nat.min_eq_left h2]
theorem sl_clip {ks : List Int} {i j : Int} (hi : 0 ≤ i) (hj : 0 ≤ j) : (ks.drop (clipAt ks.length i)).take (clipAt ks.length j - clipAt ks.length i) = sl ks i j := by
  rw [clip_min hi, clip_min hj, take_drop_min]
  rfl
theorem sl_clip0 {ks : List Int} {j : Int} (hj : 0 ≤ j) : ks.take (clipAt ks.length j) = ks.take j.toNat := by
  rw [clip_min hj]
  rcases Nat.lt_or_ge ks.length j.toNat with h2 | h2
  · rw [Nat.min_eq_right (Nat.le_of_lt h2), List.take_of_length_le (Nat.le_refl _), List.take_of_length_le (Nat.le_of_lt h2)]
  · rw [Nat.min_eq_left h2]
theorem bInts_inj {b c : Array UInt8} (h : KBw.bInts b = KBw.bInts c) : b = c := by
  have h2 : (b.toList.map fun c => ((c.toNat : Nat) : Int)) = c.toList.map fun c => ((c.toNat : Nat) : Int) := h
  have h3 : b.toList = c.toList := by
    refine List.map_inj_right (fun x y e => ?_) |>.mp h2
    exact UInt8.toNat_inj.mp (by omega)
  exact Array.toList_inj.mp h3
theorem bInts_beq {b c : Array UInt8} : (b.toList == c.toList) = (KBw.bInts b == KBw.bInts c) := by
  rw [Bool.eq_iff_iff, beq_iff_eq, beq_iff_eq]
  exact ⟨fun h => by rw [Array.toList_inj.mp h], fun h => by rw [bInts_inj h]⟩
theorem bInts_bne {b c : Array UInt8} : (b.toList != c.toList) = (KBw.bInts b != KBw.bInts c) := congrArg not bInts_beq

section
variable {prog : Program} {w : World} {A : Around} {E : Value → Shared → Prop} {s : Shared} {value slice : PySem.Expr} {b : Array UInt8} {t : Tok} {h₀ : Heap} {L : Addr} {m : PySem.Str → Option Value} {news : List (Addr × Obj)} {u1 u2 : Tok} {Q : Value → Shared → Prop} {ks : List Int} {i j : Int}
theorem bslice2 (hF : Fr h₀ L s.heap m) (hN : News h₀ L s.heap news) (hk : KBw.bInts b = ks) (hi : 0 ≤ i) (hj : 0 ≤ j) (hz : ks.length ≤ 16777216)
    (h : ∀ b' h' t' k, Fr h₀ L h' m → News h₀ L h' news → KBw.bInts b' = sl ks i j → Q (.bytes b' t') { s with heap := h', toks := k })
    (hs : subscripted slice false (.bytes b t) (.ref s.heap.objs.size) = operate [.ref s.heap.objs.size, .bytes b t] (getItem (.bytes b t) (.ref s.heap.objs.size)) := by with_unfolding_all rfl)
    (ht : ∀ r, letTemporaryGo value (.bytes b t) r = pure () := by intro _; with_unfolding_all rfl) :
    wpAny (model prog w) A (subscriptTail value slice (.bytes b t) (.ref s.heap.objs.size)) Q E { s with heap := s.heap.push { cls := .type "slice", data := .fields #[.int i u1, .int j u2, .none] } } :=
  KBc.slice_K (lo := some i) (hi := some j) hF hN hk (by constructor) (by constructor) hz (fun h' t' k F' N' e => h _ h' t' k F' N' (e.trans (sl_clip hi hj))) hs ht
theorem bslice1 (hF : Fr h₀ L s.heap m) (hN : News h₀ L s.heap news) (hk : KBw.bInts b = ks) (hj : 0 ≤ j) (hz : ks.length ≤ 16777216)
    (h : ∀ b' h' t' k, Fr h₀ L h' m → News h₀ L h' news → KBw.bInts b' = ks.take j.toNat → Q (.bytes b' t') { s with heap := h', toks := k })
    (hs : subscripted slice false (.bytes b t) (.ref s.heap.objs.size) = operate [.ref s.heap.objs.size, .bytes b t] (getItem (.bytes b t) (.ref s.heap.objs.size)) := by with_unfolding_all rfl)
    (ht : ∀ r, letTemporaryGo value (.bytes b t) r = pure () := by intro _; with_unfolding_all rfl) :
    wpAny (model prog w) A (subscriptTail value slice (.bytes b t) (.ref s.heap.objs.size)) Q E { s with heap := s.heap.push { cls := .type "slice", data := .fields #[.none, .int j u2, .none] } } :=
  KBc.slice_K (lo := none) (hi := some j) hF hN hk (by constructor) (by constructor) hz (fun h' t' k F' N' e => h _ h' t' k F' N' (by rw [e]; simpa using sl_clip0 hj)) hs ht
theorem eq_bInts {c : Array UInt8} {u : Tok} {ls : List Int} (hb : KBw.bInts b = ks) (hc : KBw.bInts c = ls) (h : Q (.bool (ks == ls)) s) : wpAny (model prog w) A (compareOp .Eq (.bytes b t) (.bytes c u)) Q E s :=
  eq_bytes (by rw [bInts_beq, hb, hc]; exact h)
theorem ne_bInts {c : Array UInt8} {u : Tok} {ls : List Int} (hb : KBw.bInts b = ks) (hc : KBw.bInts c = ls) (h : Q (.bool (ks != ls)) s) : wpAny (model prog w) A (compareOp .NotEq (.bytes b t) (.bytes c u)) Q E s :=
  ne_bytes (by rw [bInts_bne, hb, hc]; exact h)
end

/-- the place behind a run -/
def runTo (p : Int → Bool) (rs : List Int) (i : Int) : Int := i + ((rs.drop i.toNat).takeWhile p).length
theorem drop_cons_at {rs : List Int} {i : Int} (h0 : 0 ≤ i) (h1 : i < rs.length) : rs.drop i.toNat = rs.getD i.toNat 0 :: rs.drop (i + 1).toNat := by
  have h : i.toNat < rs.length := by omega
  have e : (i + 1).toNat = i.toNat + 1 := by omega
  rw [List.drop_eq_getElem_cons h, e]
  simp [List.getD, h]
theorem runTo_go {p : Int → Bool} {rs : List Int} {i : Int} (h0 : 0 ≤ i) (h1 : i < rs.length) (hp : p (rs.getD i.toNat 0) = true) : runTo p rs (i + 1) = runTo p rs i := by
  unfold runTo
  rw [drop_cons_at h0 h1, List.takeWhile_cons, if_pos hp, List.length_cons]
  push_cast
  omega
theorem runTo_stop {p : Int → Bool} {rs : List Int} {i : Int} (h0 : 0 ≤ i) (h1 : i < rs.length) (hp : p (rs.getD i.toNat 0) = false) : runTo p rs i = i := by
  unfold runTo
  rw [drop_cons_at h0 h1, List.takeWhile_cons, if_neg (by rw [hp]; exact Bool.false_ne_true)]
  simp
theorem runTo_end {p : Int → Bool} {rs : List Int} {i : Int} (h1 : rs.length ≤ i) : runTo p rs i = i := by
  unfold runTo
  rw [List.drop_of_length_le (by omega)]
  simp
theorem runTo_ge (p : Int → Bool) (rs : List Int) (i : Int) : i ≤ runTo p rs i := by unfold runTo; omega
theorem runTo_le {p : Int → Bool} {rs : List Int} {i : Int} (h1 : i ≤ rs.length) (h0 : 0 ≤ i) : runTo p rs i ≤ rs.length := by
  unfold runTo
  have h := (List.takeWhile_sublist p (l := rs.drop i.toNat)).length_le
  rw [List.length_drop] at h
  omega
theorem runTo_congr {p q : Int → Bool} {rs : List Int} {i : Int} (h : ∀ c ∈ rs, p c = q c) : runTo p rs i = runTo q rs i := by
  unfold runTo
  congr 2
  have : ∀ l : List Int, (∀ c ∈ l, p c = q c) → l.takeWhile p = l.takeWhile q := by
    intro l
    induction l with
    | nil => intro _; rfl
    | cons x r ih =>
      intro hl
      rw [List.takeWhile_cons, List.takeWhile_cons, hl x (.head _), ih fun c hc => hl c (.tail _ hc)]
  exact congrArg List.length (this _ fun c hc => h c (List.mem_of_mem_drop hc))

def notEol (c : Int) : Bool := ![(10 : Int), 13].any fun x => x == c
/-- the place behind white and comments -/
inductive WTo (rs : List Int) : Int → Int → Prop
  | stop {i : Int} : (i < rs.length → rs.getD i.toNat 0 ≠ 37 ∧ whiteB (rs.getD i.toNat 0) = false) → WTo rs i i
  | white {i j : Int} : i < rs.length → whiteB (rs.getD i.toNat 0) = true → WTo rs (i + 1) j → WTo rs i j
  | note {i j : Int} : i < rs.length → rs.getD i.toNat 0 = 37 → WTo rs (runTo notEol rs i) j → WTo rs i j
theorem white37 {c : Int} (h : whiteB c = true) : c ≠ 37 := by
  rintro rfl
  exact absurd h (by decide)
theorem WTo.one {rs : List Int} {i j : Int} (h : WTo rs i j) : ∀ {k : Int}, WTo rs i k → j = k := by
  induction h with
  | stop h1 =>
    intro k h2
    cases h2 with
    | stop _ => rfl
    | white h3 h4 _ => exact absurd h4 (by rw [(h1 h3).2]; exact Bool.false_ne_true)
    | note h3 h4 _ => exact absurd h4 (h1 h3).1
  | white h3 h4 _ ih =>
    intro k h2
    cases h2 with
    | stop h1 => exact absurd h4 (by rw [(h1 h3).2]; exact Bool.false_ne_true)
    | white _ _ h5 => exact ih h5
    | note _ h6 _ => exact absurd h6 (white37 h4)
  | note h3 h4 _ ih =>
    intro k h2
    cases h2 with
    | stop h1 => exact absurd h4 (h1 h3).1
    | white _ h6 _ => exact absurd h4 (white37 h6)
    | note _ _ h5 => exact ih h5
/-- the number of a run of figures -/
def numV (l : List Int) : Int := l.foldl (fun n c => n * 10 + c - 48) 0

theorem view (ks : List Int) {e : Int} (h0 : 0 ≤ e) (h1 : e ≤ ks.length) : ∃ rs, rs = ks.take e.toNat ∧ (rs.length : Int) = e ∧ ∀ i : Int, 0 ≤ i → i < e → rs.getD i.toNat 0 = ks.getD i.toNat 0 := by
  refine ⟨_, rfl, ?_, fun i hi hj => ?_⟩
  · rw [List.length_take]; omega
  · have h2 : i.toNat < e.toNat := by omega
    simp [List.getD, List.getElem?_take, h2]
/-- a turn's end under a while -/
theorem stepW {h₀ h' : Heap} {L : Addr} {s : Shared} {J : Nat → (PySem.Str → Option Value) → Led → Prop} {Q : Flow → Shared → Prop} {n : Nat} {m' : PySem.Str → Option Value} {news : Led} {tk : Nat} (n' : Nat)
    (F : Fr h₀ L h' m') (N : News h₀ L h' news) (hn : n' < n) (hj : J n' m' news) : WhileStep2 h₀ L s J Q n .next { s with heap := h', toks := tk } :=
  ⟨h', tk, m', news, n', rfl, F, N, hn, hj⟩
theorem sl_nil {rs : List Int} {i : Int} : sl rs i i = [] := by unfold sl; rw [Nat.sub_self]; rfl
theorem sl_snoc {rs : List Int} {i j : Int} (h0 : 0 ≤ i) (h1 : i ≤ j) (h2 : j < rs.length) : sl rs i (j + 1) = sl rs i j ++ [rs.getD j.toNat 0] := by
  unfold sl
  have e : (j + 1).toNat - i.toNat = (j.toNat - i.toNat) + 1 := by omega
  have h : j.toNat - i.toNat < (rs.drop i.toNat).length := by rw [List.length_drop]; omega
  rw [e, List.take_succ_eq_append_getElem h, List.getElem_drop]
  have h3 : i.toNat + (j.toNat - i.toNat) = j.toNat := by omega
  have h4 : j.toNat < rs.length := by omega
  simp [List.getD, h3, h4]
theorem sl_take {ks : List Int} {i j e : Int} (h : j ≤ e) : sl (ks.take e.toNat) i j = sl ks i j := by
  unfold sl
  rw [List.drop_take, List.take_take, Nat.min_eq_left (by omega)]
theorem numV_snoc (l : List Int) (c : Int) : numV (l ++ [c]) = numV l * 10 + c - 48 := by
  unfold numV
  rw [List.foldl_append]
  rfl
theorem kw18_pure : True := by
  k_with "subscriptTail" => (k_here; (with_reducible show wpAny _ _ (subscriptTail _ (Expr.Slice _ _ none _) (Value.bytes _ _) (Value.ref _)) _ _ _); (with_reducible rename Fr _ _ _ _ => F'); (with_reducible rename News _ _ _ _ => N'); (first | refine bslice2 (s := ⟨_, _, _, _, _⟩) F' N' (by assumption) (by omega) (by omega) (by omega) ?_ | refine bslice1 (s := ⟨_, _, _, _, _⟩) F' N' (by assumption) (by omega) (by omega) ?_); intro b9 h9 t9 k9 F9 N9 hb9)
  k_with "compareOp Eq bytes bytes" => (k_here; (with_reducible show wpAny _ _ (compareOp CmpOp.Eq (Value.bytes _ _) (Value.bytes _ _)) _ _ _); refine eq_bInts (by assumption) (by assumption) ?_)
  k_with "compareOp NotEq bytes bytes" => (k_here; (with_reducible show wpAny _ _ (compareOp CmpOp.NotEq (Value.bytes _ _) (Value.bytes _ _)) _ _ _); refine ne_bInts (by assumption) (by assumption) ?_)
  trivial
/-- the head's dict: its data, its place, its end -/
def isCur (ks : List Int) (a e : Int) (o : Obj) : Prop :=
  ∃ (h1 h2 h3 : Int) (t1 t2 t3 u1 u2 u3 : Tok) (x y : Int) (d : Array UInt8), o = dictOf [⟨h1, .str "data" t1, .bytes d u1⟩, ⟨h2, .str "at" t2, .int x u2⟩, ⟨h3, .str "end" t3, .int y u3⟩] 3 ∧ KBw.bInts d = ks ∧ x = a ∧ y = e
theorem mkCur {ks : List Int} {a e : Int} {h1 h2 h3 : Int} {t1 t2 t3 u1 u2 u3 : Tok} {x y : Int} {d : Array UInt8} (hks : KBw.bInts d = ks) (ha : x = a) (he : y = e) :
    isCur ks a e (dictOf [⟨h1, .str "data" t1, .bytes d u1⟩, ⟨h2, .str "at" t2, .int x u2⟩, ⟨h3, .str "end" t3, .int y u3⟩] 3) := ⟨_, _, _, _, _, _, _, _, _, _, _, _, rfl, hks, ha, he⟩
theorem tlN {g h : Heap} {L : Addr} {p : Addr × Obj} {r : Led} (N : News g L h (p :: r)) : News g L h r := fun q hq => N q (.tail _ hq)
theorem hdN {g h : Heap} {L : Addr} {p q : Addr × Obj} {r : Led} (N : News g L h (p :: q :: r)) : News g L h [p, q] := fun x hx => N x (by rcases List.mem_cons.mp hx with rfl | hx; exact .head _; rw [List.mem_singleton.mp hx]; exact .tail _ (.head _))
/-- the octet at a place ahead of the end, -1 beyond -/
def peekV (ks : List Int) (i e : Int) : Int := if i < e then ks.getD i.toNat 0 else -1
theorem peekV_lt {ks : List Int} {i e : Int} (h : i < e) : peekV ks i e = ks.getD i.toNat 0 := if_pos h
theorem peekV_ge {ks : List Int} {i e : Int} (h : e ≤ i) : peekV ks i e = -1 := if_neg (by omega)
/-- the place behind a line's end -/
def eolTo (ks : List Int) (e a : Int) : Int :=
  if peekV ks a e = 13 then (if peekV ks (a + 1) e = 10 then a + 2 else a + 1) else if peekV ks a e = 10 then a + 1 else a
def isInt (r : Value) (v : Int) : Prop := ∃ t, r = .int v t
theorem isInt_of {v v' : Int} {t : Tok} (e : v' = v) : isInt (.int v' t) v := ⟨t, by rw [e]⟩
/-- the head and its dict -/
abbrev curL (H DX : Addr) (o : Obj) : Led := [(H, instObj 147 DX), (DX, o)]

set_option maxHeartbeats 800000 in
theorem is_done {H DX : Addr} {o : Obj} {ks : List Int} {a e : Int} (hc : isCur ks a e o) :
    Con 66 [.ref H] 1 (curL H DX o) (fun r l => r = .bool (decide (e ≤ a)) ∧ l = curL H DX o) := by
  obtain ⟨h1, h2, h3, t1, t2, t3, u1, u2, u3, x, y, d, rfl, hks, rfl, rfl⟩ := hc
  ktr_rel
  intro w w p loose mean mg mb dp un gd fr base g L s h tk hdp hun B X T c1 c2 hpre F N hlt
  k_fold
  k_steps
  exact done_intro _ (by k_asm) (by k_asm) ⟨rfl, rfl⟩
set_option maxHeartbeats 800000 in
theorem peek1 {H DX : Addr} {o : Obj} {ks : List Int} {a e k : Int} {v : Tok} (hc : isCur ks a e o) (ha : 0 ≤ a) (he : e ≤ ks.length) (hz : ks.length < 1000) (hk : 0 ≤ k) :
    Con 74 [.ref H, .int k v] 1 (curL H DX o) (fun r l => isInt r (peekV ks (a + k) e) ∧ l = curL H DX o) := by
  obtain ⟨h1, h2, h3, t1, t2, t3, u1, u2, u3, x, y, d, rfl, hks, rfl, rfl⟩ := hc
  ktr_rel
  intro w w p loose mean mg mb dp un gd fr base g L s h tk hdp hun B X T c1 c2 hpre F N hlt
  k_fold
  k_steps
  · exact done_intro _ (by k_asm) (by k_asm) ⟨isInt_of (peekV_lt (by omega)).symm, rfl⟩
  · exact done_intro _ (by k_asm) (by k_asm) ⟨isInt_of (peekV_ge (by omega)).symm, rfl⟩
set_option maxHeartbeats 800000 in
theorem peek0 {H DX : Addr} {o : Obj} {ks : List Int} {a e : Int} (hc : isCur ks a e o) (ha : 0 ≤ a) (he : e ≤ ks.length) (hz : ks.length < 1000) :
    Con 74 [.ref H] 1 (curL H DX o) (fun r l => isInt r (peekV ks a e) ∧ l = curL H DX o) := by
  obtain ⟨h1, h2, h3, t1, t2, t3, u1, u2, u3, x, y, d, rfl, hks, rfl, rfl⟩ := hc
  ktr_rel
  intro w w p loose mean mg mb dp un gd fr base g L s h tk hdp hun B X T c1 c2 hpre F N hlt
  k_fold
  k_steps
  · exact done_intro _ (by k_asm) (by k_asm) ⟨isInt_of (by rw [Int.add_zero]; exact (peekV_lt (by omega)).symm), rfl⟩
  · exact done_intro _ (by k_asm) (by k_asm) ⟨isInt_of (peekV_ge (by omega)).symm, rfl⟩
set_option maxHeartbeats 800000 in
theorem take {H DX : Addr} {o : Obj} {ks : List Int} {a e : Int} (hH : @Ne Nat H DX) (hc : isCur ks a e o) (ha : 0 ≤ a) (he : e ≤ ks.length) (hz : ks.length < 1000) :
    Con 81 [.ref H] 1 (curL H DX o) (fun r l => isInt r (peekV ks a e) ∧ ∃ o', l = curL H DX o' ∧ isCur ks (if a < e then a + 1 else a) e o') := by
  obtain ⟨h1, h2, h3, t1, t2, t3, u1, u2, u3, x, y, d, rfl, hks, rfl, rfl⟩ := hc
  ktr_rel
  intro w w p loose mean mg mb dp un gd fr base g L s h tk hdp hun B X T c1 c2 hpre F N hlt
  k_fold
  k_steps
  · exact done_intro _ (by k_asm) (by k_asm) ⟨isInt_of (peekV_ge (by omega)).symm, _, rfl, _, _, _, _, _, _, _, _, _, _, _, _, rfl, hks, (if_neg (by omega)).symm, rfl⟩
  · exact done_intro _ (by k_asm) (by k_asm) ⟨isInt_of (peekV_lt (by omega)).symm, _, rfl, _, _, _, _, _, _, _, _, _, _, _, _, rfl, hks, (if_pos (by omega)).symm, rfl⟩
theorem post_int {K : Value → Led → Prop} {z : Int} {l₀ : Led} (h : ∀ t, K (.int z t) l₀) : ∀ r l, (isInt r z ∧ l = l₀) → K r l := by
  rintro _ _ ⟨⟨t, rfl⟩, rfl⟩
  exact h t
theorem post_intC {K : Value → Led → Prop} {H DX : Addr} {ks : List Int} {g e z : Int} (h : ∀ t, ∀ (z1 z2 z3 : Int) (t1 t2 t3 u1 u2 u3 : Tok) (d : Array UInt8), KBw.bInts d = ks → isCur ks g e (dictOf [⟨z1, .str "data" t1, .bytes d u1⟩, ⟨z2, .str "at" t2, .int g u2⟩, ⟨z3, .str "end" t3, .int e u3⟩] 3) → K (.int z t) [(H, instObj 147 DX), (DX, (dictOf [⟨z1, .str "data" t1, .bytes d u1⟩, ⟨z2, .str "at" t2, .int g u2⟩, ⟨z3, .str "end" t3, .int e u3⟩] 3))]) :
    ∀ r l, (isInt r z ∧ ∃ o', l = curL H DX o' ∧ isCur ks g e o') → K r l := by
  rintro _ _ ⟨⟨t, rfl⟩, _, rfl, ⟨z1, z2, z3, t1, t2, t3, u1, u2, u3, x, y, d, rfl, hks, rfl, rfl⟩⟩
  exact h t z1 z2 z3 t1 t2 t3 u1 u2 u3 d hks ⟨z1, z2, z3, t1, t2, t3, u1, u2, u3, _, _, d, rfl, hks, rfl, rfl⟩
theorem post_eqC {K : Value → Led → Prop} {H DX : Addr} {v : Value} {ks : List Int} {g e : Int} (h : ∀ (z1 z2 z3 : Int) (t1 t2 t3 u1 u2 u3 : Tok) (d : Array UInt8), KBw.bInts d = ks → isCur ks g e (dictOf [⟨z1, .str "data" t1, .bytes d u1⟩, ⟨z2, .str "at" t2, .int g u2⟩, ⟨z3, .str "end" t3, .int e u3⟩] 3) → K v [(H, instObj 147 DX), (DX, (dictOf [⟨z1, .str "data" t1, .bytes d u1⟩, ⟨z2, .str "at" t2, .int g u2⟩, ⟨z3, .str "end" t3, .int e u3⟩] 3))]) :
    ∀ r l, (r = v ∧ ∃ o', l = curL H DX o' ∧ isCur ks g e o') → K r l := by
  rintro _ _ ⟨rfl, _, rfl, ⟨z1, z2, z3, t1, t2, t3, u1, u2, u3, x, y, d, rfl, hks, rfl, rfl⟩⟩
  exact h z1 z2 z3 t1 t2 t3 u1 u2 u3 d hks ⟨z1, z2, z3, t1, t2, t3, u1, u2, u3, _, _, d, rfl, hks, rfl, rfl⟩
theorem kw20_cur : True := by
  k_with "call ref" => (k_here; (with_reducible show wpAny _ _ (call (Value.ref 66) [Value.ref _]) _ _ _); k_dflt (refine usen (by k_asm) (by k_asm) (by k_asm) (by k_asm) (by k_asm) (by k_asm) (by k_asm) (by first | exact rfl | fail "no") (by first | exact rfl | fail "no") (by first | exact rfl | fail "no") (by first | exact rfl | fail "no") (by k_upd) (fun _ _ => trivial) (is_done (by first | k_asm | exact mkCur (by k_asm) rfl rfl | fail "no")) (by first | exact room1 (by with_reducible assumption) (by rfl) | k_room | omega) (by first | exact units1 (by with_reducible assumption) (by rfl) | k_units | (with_unfolding_all exact Nat.le_of_ble_eq_true rfl) | omega) (post_eq ?_); intro  zh zk zF zN; (try dsimp only [List.cons_append, List.nil_append] at zN); (try k_sweep)))
  k_with "call ref" => (k_here; (with_reducible show wpAny _ _ (call (Value.ref 74) [Value.ref _, Value.int _ _]) _ _ _); k_dflt (refine usen (by k_asm) (by k_asm) (by k_asm) (by k_asm) (by k_asm) (by k_asm) (by k_asm) (by first | exact rfl | fail "no") (by first | exact rfl | fail "no") (by first | exact rfl | fail "no") (by first | exact rfl | fail "no") (by k_upd) (fun _ _ => trivial) (peek1 (by first | k_asm | exact mkCur (by k_asm) rfl rfl | fail "no") (by omega) (by omega) (by omega) (by omega)) (by first | exact room1 (by with_reducible assumption) (by rfl) | k_room | omega) (by first | exact units1 (by with_reducible assumption) (by rfl) | k_units | (with_unfolding_all exact Nat.le_of_ble_eq_true rfl) | omega) (post_int ?_); intro zt zh zk zF zN; (try dsimp only [List.cons_append, List.nil_append] at zN); (try k_sweep)))
  k_with "call ref" => (k_here; (with_reducible show wpAny _ _ (call (Value.ref 74) [Value.ref _]) _ _ _); k_dflt (refine usen (by k_asm) (by k_asm) (by k_asm) (by k_asm) (by k_asm) (by k_asm) (by k_asm) (by first | exact rfl | fail "no") (by first | exact rfl | fail "no") (by first | exact rfl | fail "no") (by first | exact rfl | fail "no") (by k_upd) (fun _ _ => trivial) (peek0 (by first | k_asm | exact mkCur (by k_asm) rfl rfl | fail "no") (by omega) (by omega) (by omega)) (by first | exact room1 (by with_reducible assumption) (by rfl) | k_room | omega) (by first | exact units1 (by with_reducible assumption) (by rfl) | k_units | (with_unfolding_all exact Nat.le_of_ble_eq_true rfl) | omega) (post_int ?_); intro zt zh zk zF zN; (try dsimp only [List.cons_append, List.nil_append] at zN); (try k_sweep)))
  k_with "call ref" => (k_here; (with_reducible show wpAny _ _ (call (Value.ref 81) [Value.ref _]) _ _ _); k_dflt (refine usen (by k_asm) (by k_asm) (by k_asm) (by k_asm) (by k_asm) (by k_asm) (by k_asm) (by first | exact rfl | fail "no") (by first | exact rfl | fail "no") (by first | exact rfl | fail "no") (by first | exact rfl | fail "no") (by k_upd) (fun _ _ => trivial) (take (by k_ne) (by first | k_asm | exact mkCur (by k_asm) rfl rfl | fail "no") (by omega) (by omega) (by omega)) (by first | exact room1 (by with_reducible assumption) (by rfl) | k_room | omega) (by first | exact units1 (by with_reducible assumption) (by rfl) | k_units | (with_unfolding_all exact Nat.le_of_ble_eq_true rfl) | omega) (post_intC ?_); intro zt zh1 zh2 zh3 zt1 zt2 zt3 zu1 zu2 zu3 zd zks zc zh zk zF zN; (try dsimp only [List.cons_append, List.nil_append] at zN); (try k_sweep)))
  trivial
set_option maxHeartbeats 800000 in
theorem starts {H DX : Addr} {o : Obj} {ks ws : List Int} {a e : Int} {wd : Array UInt8} {wt : Tok} (hc : isCur ks a e o) (ha : 0 ≤ a) (he : e ≤ ks.length) (hz : ks.length < 1000) (hw : KBw.bInts wd = ws) (hwz : ws.length < 1000) :
    Con 88 [.ref H, .bytes wd wt] 1 (curL H DX o) (fun r l => r = .bool (decide (a + ws.length ≤ e) && (sl ks a (a + ws.length) == ws)) ∧ l = curL H DX o) := by
  obtain ⟨h1, h2, h3, t1, t2, t3, u1, u2, u3, x, y, d, rfl, hks, rfl, rfl⟩ := hc
  ktr_rel
  intro w w p loose mean mg mb dp un gd fr base g L s h tk hdp hun B X T c1 c2 hpre F N hlt
  k_fold
  k_steps
  · exact done_intro _ (by k_asm) (by k_asm) ⟨congrArg Value.bool (by rw [decide_eq_true (by assumption)]; rfl), rfl⟩
  · exact done_intro _ (by k_asm) (by k_asm) ⟨congrArg Value.bool (by rw [decide_eq_false (by assumption)]; rfl), rfl⟩
theorem kw22_starts : True := by
  k_with "call ref" => (k_here; (with_reducible show wpAny _ _ (call (Value.ref 88) [Value.ref _, Value.bytes _ _]) _ _ _); k_dflt (refine usen (by k_asm) (by k_asm) (by k_asm) (by k_asm) (by k_asm) (by k_asm) (by k_asm) (by first | exact rfl | fail "no") (by first | exact rfl | fail "no") (by first | exact rfl | fail "no") (by first | exact rfl | fail "no") (by k_upd) (fun _ _ => trivial) (starts (by first | k_asm | exact mkCur (by k_asm) rfl rfl | fail "no") (by omega) (by omega) (by omega) (by k_asm) (by omega)) (by first | exact room1 (by with_reducible assumption) (by rfl) | k_room | omega) (by first | exact units1 (by with_reducible assumption) (by rfl) | k_units | (with_unfolding_all exact Nat.le_of_ble_eq_true rfl) | omega) (post_eq ?_); intro  zh zk zF zN; (try dsimp only [List.cons_append, List.nil_append] at zN); (try k_sweep)))
  trivial
set_option maxHeartbeats 800000 in
theorem skip {H DX : Addr} {o : Obj} {ks ws : List Int} {a e : Int} {wd : Array UInt8} {wt : Tok} (hH : @Ne Nat H DX) (hc : isCur ks a e o) (ha : 0 ≤ a) (he : e ≤ ks.length) (hz : ks.length < 1000) (hw : KBw.bInts wd = ws) (hwz : ws.length < 1000) :
    Con 95 [.ref H, .bytes wd wt] 2 (curL H DX o) (fun r l => r = .bool (decide (a + ws.length ≤ e) && (sl ks a (a + ws.length) == ws)) ∧ ∃ o', l = curL H DX o' ∧ isCur ks (if (decide (a + ws.length ≤ e) && (sl ks a (a + ws.length) == ws)) then a + ws.length else a) e o') := by
  have hc' := hc
  obtain ⟨h1, h2, h3, t1, t2, t3, u1, u2, u3, x, y, d, rfl, hks, rfl, rfl⟩ := hc
  ktr_rel
  intro w w p loose mean mg mb dp un gd fr base g L s h tk hdp hun B X T c1 c2 hpre F N hlt
  k_fold
  k_steps
  · rename ((_ && _) = true) => hq
    exact done_intro _ (by k_asm) (by k_asm) ⟨congrArg Value.bool hq.symm, _, rfl, _, _, _, _, _, _, _, _, _, _, _, _, rfl, hks, (if_pos hq).symm, rfl⟩
  · rename ((_ && _) = false) => hq
    exact done_intro _ (by k_asm) (by k_asm) ⟨congrArg Value.bool hq.symm, _, rfl, _, _, _, _, _, _, _, _, _, _, _, _, rfl, hks, (if_neg (by rw [hq]; exact Bool.false_ne_true)).symm, rfl⟩
theorem kw23_skip : True := by
  k_with "call ref" => (k_here; (with_reducible show wpAny _ _ (call (Value.ref 95) [Value.ref _, Value.bytes _ _]) _ _ _); k_dflt (refine usen (by k_asm) (by k_asm) (by k_asm) (by k_asm) (by k_asm) (by k_asm) (by k_asm) (by first | exact rfl | fail "no") (by first | exact rfl | fail "no") (by first | exact rfl | fail "no") (by first | exact rfl | fail "no") (by k_upd) (fun _ _ => trivial) (skip (by k_ne) (by first | k_asm | exact mkCur (by k_asm) rfl rfl | fail "no") (by omega) (by omega) (by omega) (by k_asm) (by omega)) (by first | exact room1 (by with_reducible assumption) (by rfl) | k_room | omega) (by first | exact units1 (by with_reducible assumption) (by rfl) | k_units | (with_unfolding_all exact Nat.le_of_ble_eq_true rfl) | omega) (post_eqC ?_); intro zh1 zh2 zh3 zt1 zt2 zt3 zu1 zu2 zu3 zd zks zc zh zk zF zN; (try dsimp only [List.cons_append, List.nil_append] at zN); (try k_sweep)))
  trivial

set_option maxHeartbeats 1600000 in
theorem skip_white {H DX : Addr} {o : Obj} {ks : List Int} {a e : Int} (hH : @Ne Nat H DX) (hc : isCur ks a e o) (ha : 0 ≤ a) (hae : a ≤ e) (he : e ≤ ks.length) (hz : ks.length < 1000) :
    Con 102 [.ref H] 1 (curL H DX o) (fun r l => r = .none ∧ ∃ o' j, l = curL H DX o' ∧ isCur ks j e o' ∧ WTo (ks.take e.toNat) a j ∧ j ≤ e) := by
  have hc' := hc
  obtain ⟨h1, h2, h3, t1, t2, t3, u1, u2, u3, x, y, d, rfl, hks, rfl, rfl⟩ := hc
  obtain ⟨rs, hrs, hrl, hrg⟩ := view ks (by omega : 0 ≤ y) he
  rw [← hrs]
  ktr_rel
  intro w w p loose mean mg mb dp un gd fr base g L s h tk hdp hun B X T c1 c2 hpre F N hlt
  k_fold
  k_steps
  refine' While_inv2 (fun n m nx => ∃ o' a', nx = curL H DX o' ∧ isCur ks a' y o' ∧ x ≤ a' ∧ a' ≤ y ∧ n = (y - a').toNat ∧ (∀ j, WTo rs a' j → WTo rs x j) ∧ m "self" = some (.ref H)) F N ?hJ ?turn ?hE
  case hJ => exact ⟨_, _, rfl, hc', Int.le_refl _, hae, rfl, fun _ h => h, rfl⟩
  case hE => exact PassesOwn.never
  case turn =>
    rintro n m₁ nx h tk F1 N1 ⟨o', a', rfl, hc1, hx1, hx2, rfl, hW, hs⟩
    clear F N
    obtain ⟨h1', h2', h3', t1', t2', t3', u1', u2', u3', x', y', d', rfl, hks', rfl, rfl⟩ := hc1
    replace F1 := fr_names0 [(Str.ofString "self", .ref H)] ⟨hs, trivial⟩ F1
    (with_reducible show wpAny _ _ _ _ _ _)
    k_steps
    · rename Fr _ _ _ _ => F2
      rename News _ _ _ _ => N2
      rename (_ = (37 : Int)) => h37
      have h37' : rs.getD x'.toNat 0 = 37 := (hrg _ (by omega) (by omega)).trans h37
      have hgo : runTo notEol rs (x' + 1) = runTo notEol rs x' := runTo_go (by omega) (by omega) (by rw [h37']; rfl)
      have hge := runTo_ge notEol rs (x' + 1)
      refine' While_inv2 (fun n m nx => ∃ o' a', nx = curL H DX o' ∧ isCur ks a' y' o' ∧ x' ≤ a' ∧ a' ≤ y' ∧ n = (y' - a').toNat ∧ runTo notEol rs a' = runTo notEol rs x' ∧ m "self" = some (.ref H)) F2 N2 ?hJ ?turn ?hE
      case hJ => exact ⟨_, _, rfl, ⟨_, _, _, _, _, _, _, _, _, _, _, _, rfl, hks', rfl, rfl⟩, Int.le_refl _, by omega, rfl, rfl, rfl⟩
      case hE => exact PassesOwn.never
      case turn =>
        rintro n m₂ nx h tk F3 N3 ⟨o'', a'', rfl, hc2, hy1, hy2, rfl, hR, hs2⟩
        clear F2 N2
        obtain ⟨h1'', h2'', h3'', t1'', t2'', t3'', u1'', u2'', u3'', x'', y'', d'', rfl, hks'', rfl, rfl⟩ := hc2
        replace F3 := fr_names0 [(Str.ofString "self", .ref H)] ⟨hs2, trivial⟩ F3
        (with_reducible show wpAny _ _ _ _ _ _)
        k_steps
        · rename (List.any _ _ = true) => hst
          have hst' : notEol (rs.getD x''.toNat 0) = false := by rw [hrg _ (by omega) (by omega)]; exact congrArg not hst
          have hend : runTo notEol rs x'' = x'' := runTo_stop (by omega) (by omega) hst'
          exact stepW _ (by k_asm) (tlN (by k_asm)) (by omega) ⟨_, x'', rfl, mkCur hks'' rfl rfl, by omega, by omega, rfl, fun j hj => hW j (.note (by omega) h37' (by rw [← hR, hend]; exact hj)), rfl⟩
        · rename (List.any _ _ = false) => hst
          have hst' : notEol (rs.getD x''.toNat 0) = true := by rw [hrg _ (by omega) (by omega)]; exact congrArg not hst
          have hend : runTo notEol rs (x'' + 1) = runTo notEol rs x'' := runTo_go (by omega) (by omega) hst'
          exact stepW _ (by k_asm) (tlN (by k_asm)) (by omega) ⟨_, x'' + 1, rfl, mkCur hks'' rfl rfl, by omega, by omega, rfl, hend.trans hR, rfl⟩
        · have hend : runTo notEol rs x'' = x'' := runTo_end (by omega)
          exact stepW _ (by k_asm) (by k_asm) (by omega) ⟨_, x'', rfl, mkCur hks'' rfl rfl, by omega, by omega, rfl, fun j hj => hW j (.note (by omega) h37' (by rw [← hR, hend]; exact hj)), rfl⟩
    · rename (List.any _ _ = true) => hst
      have hst' : whiteB (rs.getD x'.toNat 0) = true := by rw [hrg _ (by omega) (by omega)]; exact hst
      exact stepW _ (by k_asm) (by k_asm) (by omega) ⟨_, x' + 1, rfl, mkCur hks' rfl rfl, by omega, by omega, rfl, fun j hj => hW j (.white (by omega) hst' hj), rfl⟩
    · rename (List.any _ _ = false) => hst
      have hst' : whiteB (rs.getD x'.toNat 0) = false := by rw [hrg _ (by omega) (by omega)]; exact hst
      unfold WhileStep2
      dsimp only
      show Done g _ s _ _
      exact done_intro _ (by k_asm) (by k_asm) ⟨rfl, _, x', rfl, mkCur hks' rfl rfl, hW _ (.stop fun _ => ⟨by rw [hrg _ (by omega) (by omega)]; assumption, hst'⟩), by omega⟩
    · exact done_intro _ (by k_asm) (by k_asm) ⟨rfl, _, x', rfl, mkCur hks' rfl rfl, hW _ (.stop fun _ => by omega), by omega⟩
theorem post_white {K : Value → Led → Prop} {H DX : Addr} {ks rs : List Int} {a e : Int} (h : ∀ j, WTo rs a j → j ≤ e → ∀ (z1 z2 z3 : Int) (t1 t2 t3 u1 u2 u3 : Tok) (d : Array UInt8), KBw.bInts d = ks → isCur ks j e (dictOf [⟨z1, .str "data" t1, .bytes d u1⟩, ⟨z2, .str "at" t2, .int j u2⟩, ⟨z3, .str "end" t3, .int e u3⟩] 3) → K .none [(H, instObj 147 DX), (DX, (dictOf [⟨z1, .str "data" t1, .bytes d u1⟩, ⟨z2, .str "at" t2, .int j u2⟩, ⟨z3, .str "end" t3, .int e u3⟩] 3))]) :
    ∀ r l, (r = .none ∧ ∃ o' j, l = curL H DX o' ∧ isCur ks j e o' ∧ WTo rs a j ∧ j ≤ e) → K r l := by
  rintro _ _ ⟨rfl, _, j, rfl, ⟨z1, z2, z3, t1, t2, t3, u1, u2, u3, x, y, d, rfl, hks, rfl, rfl⟩, h1, h2⟩
  exact h _ h1 h2 z1 z2 z3 t1 t2 t3 u1 u2 u3 d hks ⟨z1, z2, z3, t1, t2, t3, u1, u2, u3, _, _, d, rfl, hks, rfl, rfl⟩
theorem kw24_white : True := by
  k_with "call ref" => (k_here; (with_reducible show wpAny _ _ (call (Value.ref 102) [Value.ref _]) _ _ _); k_dflt (refine usen (by k_asm) (by k_asm) (by k_asm) (by k_asm) (by k_asm) (by k_asm) (by k_asm) (by first | exact rfl | fail "no") (by first | exact rfl | fail "no") (by first | exact rfl | fail "no") (by first | exact rfl | fail "no") (by k_upd) (fun _ _ => trivial) (skip_white (by k_ne) (by first | k_asm | exact mkCur (by k_asm) rfl rfl | fail "no") (by omega) (by omega) (by omega) (by omega)) (by first | exact room1 (by with_reducible assumption) (by rfl) | k_room | omega) (by first | exact units1 (by with_reducible assumption) (by rfl) | k_units | (with_unfolding_all exact Nat.le_of_ble_eq_true rfl) | omega) (post_white ?_); intro zj zW zjl zh1 zh2 zh3 zt1 zt2 zt3 zu1 zu2 zu3 zd zks zc zh zk zF zN; (try dsimp only [List.cons_append, List.nil_append] at zN); (try k_sweep)))
  trivial
set_option maxHeartbeats 1600000 in
theorem take_regular {H DX : Addr} {o : Obj} {ks : List Int} {a e : Int} (hH : @Ne Nat H DX) (hc : isCur ks a e o) (ha : 0 ≤ a) (hae : a ≤ e) (he : e ≤ ks.length) (hz : ks.length < 1000) :
    Con 109 [.ref H] 2 (curL H DX o) (fun r l => ∃ b t o' j, r = .bytes b t ∧ KBw.bInts b = sl ks a j ∧ l = curL H DX o' ∧ isCur ks j e o' ∧ j = runTo regB (ks.take e.toNat) a) := by
  have hc' := hc
  obtain ⟨h1, h2, h3, t1, t2, t3, u1, u2, u3, x, y, d, rfl, hks, rfl, rfl⟩ := hc
  obtain ⟨rs, hrs, hrl, hrg⟩ := view ks (by omega : 0 ≤ y) he
  rw [← hrs]
  ktr_rel
  intro w w p loose mean mg mb dp un gd fr base g L s h tk hdp hun B X T c1 c2 hpre F N hlt
  k_fold
  k_steps
  (rename Fr _ _ _ _ => F0)
  (rename News _ _ _ _ => N0)
  refine' While_inv2 (fun n m nx => ∃ o' a', nx = curL H DX o' ∧ isCur ks a' y o' ∧ x ≤ a' ∧ a' ≤ y ∧ n = (y - a').toNat ∧ runTo regB rs a' = runTo regB rs x ∧ m "self" = some (.ref H) ∧ ∃ t, m "first" = some (.int x t)) F0 N0 ?hJ ?turn ?hE
  case hJ => exact ⟨_, _, rfl, hc', Int.le_refl _, hae, rfl, rfl, rfl, _, rfl⟩
  case hE => exact PassesOwn.never
  case turn =>
    rintro n m₁ nx h tk F1 N1 ⟨o', a', rfl, hc1, hx1, hx2, rfl, hW, hs, t0, hf⟩
    clear F0 N0
    obtain ⟨h1', h2', h3', t1', t2', t3', u1', u2', u3', x', y', d', rfl, hks', rfl, rfl⟩ := hc1
    replace F1 := fr_names0 [(Str.ofString "self", .ref H), (Str.ofString "first", .int x t0)] ⟨hs, hf, trivial⟩ F1
    (with_reducible show wpAny _ _ _ _ _ _)
    k_steps
    · rename (regB _ = true) => hst
      have hend : runTo regB rs (x' + 1) = runTo regB rs x' := runTo_go (by omega) (by omega) (by rw [hrg _ (by omega) (by omega)]; exact hst)
      exact stepW _ (by k_asm) (by k_asm) (by omega) ⟨_, x' + 1, rfl, mkCur hks' rfl rfl, by omega, by omega, rfl, hend.trans hW, rfl, _, rfl⟩
    · rename (regB _ = false) => hst
      have hend : runTo regB rs x' = x' := runTo_stop (by omega) (by omega) (by rw [hrg _ (by omega) (by omega)]; exact hst)
      exact done_intro _ (by k_asm) (by k_asm) ⟨_, _, _, x', rfl, (by k_asm), rfl, mkCur hks' rfl rfl, hend.symm.trans hW⟩
    · have hend : runTo regB rs x' = x' := runTo_end (by omega)
      exact done_intro _ (by k_asm) (by k_asm) ⟨_, _, _, x', rfl, (by k_asm), rfl, mkCur hks' rfl rfl, hend.symm.trans hW⟩
set_option maxHeartbeats 1600000 in
theorem skip_line_end {H DX : Addr} {o : Obj} {ks : List Int} {a e : Int} (hH : @Ne Nat H DX) (hc : isCur ks a e o) (ha : 0 ≤ a) (hae : a ≤ e) (he : e ≤ ks.length) (hz : ks.length < 1000) :
    Con 116 [.ref H] 2 (curL H DX o) (fun r l => r = .bool (decide (a < eolTo ks e a)) ∧ ∃ o', l = curL H DX o' ∧ isCur ks (eolTo ks e a) e o') := by
  have hc' := hc
  obtain ⟨h1, h2, h3, t1, t2, t3, u1, u2, u3, x, y, d, rfl, hks, rfl, rfl⟩ := hc
  ktr_rel
  intro w w p loose mean mg mb dp un gd fr base g L s h tk hdp hun B X T c1 c2 hpre F N hlt
  k_fold
  k_steps
  · have he' : eolTo ks y x = x + 2 := by unfold eolTo; rw [if_pos (by assumption), if_pos (by assumption)]
    exact done_intro _ (by k_asm) (by k_asm) ⟨congrArg Value.bool (decide_eq_true (by omega)).symm, _, rfl, mkCur hks (by omega) rfl⟩
  · have he' : eolTo ks y x = x + 1 := by unfold eolTo; rw [if_pos (by assumption), if_neg (by assumption)]
    exact done_intro _ (by k_asm) (by k_asm) ⟨congrArg Value.bool (decide_eq_true (by omega)).symm, _, rfl, mkCur hks (by omega) rfl⟩
  · have he' : eolTo ks y x = x + 1 := by unfold eolTo; rw [if_neg (by assumption), if_pos (by assumption)]
    exact done_intro _ (by k_asm) (by k_asm) ⟨congrArg Value.bool (decide_eq_true (by omega)).symm, _, rfl, mkCur hks (by omega) rfl⟩
  · have he' : eolTo ks y x = x := by unfold eolTo; rw [if_neg (by assumption), if_neg (by assumption)]
    exact done_intro _ (by k_asm) (by k_asm) ⟨congrArg Value.bool (decide_eq_false (by omega)).symm, _, rfl, mkCur hks (by omega) rfl⟩
theorem post_bytesC {K : Value → Led → Prop} {H DX : Addr} {ks rs : List Int} {a e : Int} {p : Int → Bool} {g : Int → Int} (h : ∀ b t j, KBw.bInts b = sl ks a j → j = runTo p rs a → ∀ (z1 z2 z3 : Int) (t1 t2 t3 u1 u2 u3 : Tok) (d : Array UInt8), KBw.bInts d = ks → isCur ks (g j) e (dictOf [⟨z1, .str "data" t1, .bytes d u1⟩, ⟨z2, .str "at" t2, .int (g j) u2⟩, ⟨z3, .str "end" t3, .int e u3⟩] 3) → K (.bytes b t) [(H, instObj 147 DX), (DX, (dictOf [⟨z1, .str "data" t1, .bytes d u1⟩, ⟨z2, .str "at" t2, .int (g j) u2⟩, ⟨z3, .str "end" t3, .int e u3⟩] 3))]) :
    ∀ r l, (∃ b t o' j, r = .bytes b t ∧ KBw.bInts b = sl ks a j ∧ l = curL H DX o' ∧ isCur ks (g j) e o' ∧ j = runTo p rs a) → K r l := by
  rintro _ _ ⟨b, t, _, j, rfl, h1, rfl, ⟨z1, z2, z3, t1, t2, t3, u1, u2, u3, x, y, d, rfl, hks, rfl, rfl⟩, h2⟩
  exact h b t j h1 h2 z1 z2 z3 t1 t2 t3 u1 u2 u3 d hks ⟨z1, z2, z3, t1, t2, t3, u1, u2, u3, _, _, d, rfl, hks, rfl, rfl⟩
theorem kw26_reg : True := by
  k_with "call ref" => (k_here; (with_reducible show wpAny _ _ (call (Value.ref 109) [Value.ref _]) _ _ _); k_dflt (refine usen (by k_asm) (by k_asm) (by k_asm) (by k_asm) (by k_asm) (by k_asm) (by k_asm) (by first | exact rfl | fail "no") (by first | exact rfl | fail "no") (by first | exact rfl | fail "no") (by first | exact rfl | fail "no") (by k_upd) (fun _ _ => trivial) (take_regular (by k_ne) (by first | k_asm | exact mkCur (by k_asm) rfl rfl | fail "no") (by omega) (by omega) (by omega) (by omega)) (by first | exact room1 (by with_reducible assumption) (by rfl) | k_room | omega) (by first | exact units1 (by with_reducible assumption) (by rfl) | k_units | (with_unfolding_all exact Nat.le_of_ble_eq_true rfl) | omega) (post_bytesC ?_); intro zb zt zj zhb zhj zh1 zh2 zh3 zt1 zt2 zt3 zu1 zu2 zu3 zd zks zc zh zk zF zN; (try dsimp only [List.cons_append, List.nil_append] at zN); (try k_sweep)))
  k_with "call ref" => (k_here; (with_reducible show wpAny _ _ (call (Value.ref 116) [Value.ref _]) _ _ _); k_dflt (refine usen (by k_asm) (by k_asm) (by k_asm) (by k_asm) (by k_asm) (by k_asm) (by k_asm) (by first | exact rfl | fail "no") (by first | exact rfl | fail "no") (by first | exact rfl | fail "no") (by first | exact rfl | fail "no") (by k_upd) (fun _ _ => trivial) (skip_line_end (by k_ne) (by first | k_asm | exact mkCur (by k_asm) rfl rfl | fail "no") (by omega) (by omega) (by omega) (by omega)) (by first | exact room1 (by with_reducible assumption) (by rfl) | k_room | omega) (by first | exact units1 (by with_reducible assumption) (by rfl) | k_units | (with_unfolding_all exact Nat.le_of_ble_eq_true rfl) | omega) (post_eqC ?_); intro zh1 zh2 zh3 zt1 zt2 zt3 zu1 zu2 zu3 zd zks zc zh zk zF zN; (try dsimp only [List.cons_append, List.nil_append] at zN); (try k_sweep)))
  trivial
set_option maxHeartbeats 1600000 in
theorem take_line {H DX : Addr} {o : Obj} {ks : List Int} {a e : Int} (hH : @Ne Nat H DX) (hc : isCur ks a e o) (ha : 0 ≤ a) (hae : a ≤ e) (he : e ≤ ks.length) (hz : ks.length < 1000) :
    Con 123 [.ref H] 3 (curL H DX o) (fun r l => ∃ b t o' j, r = .bytes b t ∧ KBw.bInts b = sl ks a j ∧ l = curL H DX o' ∧ isCur ks (eolTo ks e j) e o' ∧ j = runTo notEol (ks.take e.toNat) a) := by
  have hc' := hc
  obtain ⟨h1, h2, h3, t1, t2, t3, u1, u2, u3, x, y, d, rfl, hks, rfl, rfl⟩ := hc
  obtain ⟨rs, hrs, hrl, hrg⟩ := view ks (by omega : 0 ≤ y) he
  rw [← hrs]
  ktr_rel
  intro w w p loose mean mg mb dp un gd fr base g L s h tk hdp hun B X T c1 c2 hpre F N hlt
  k_fold
  k_steps
  (rename Fr _ _ _ _ => F0)
  (rename News _ _ _ _ => N0)
  refine' While_inv2 (fun n m nx => ∃ o' a', nx = curL H DX o' ∧ isCur ks a' y o' ∧ x ≤ a' ∧ a' ≤ y ∧ n = (y - a').toNat ∧ runTo notEol rs a' = runTo notEol rs x ∧ m "self" = some (.ref H) ∧ ∃ t, m "first" = some (.int x t)) F0 N0 ?hJ ?turn ?hE
  case hJ => exact ⟨_, _, rfl, hc', Int.le_refl _, hae, rfl, rfl, rfl, _, rfl⟩
  case hE => exact PassesOwn.never
  case turn =>
    rintro n m₁ nx h tk F1 N1 ⟨o', a', rfl, hc1, hx1, hx2, rfl, hW, hs, t0, hf⟩
    clear F0 N0
    obtain ⟨h1', h2', h3', t1', t2', t3', u1', u2', u3', x', y', d', rfl, hks', rfl, rfl⟩ := hc1
    replace F1 := fr_names0 [(Str.ofString "self", .ref H), (Str.ofString "first", .int x t0)] ⟨hs, hf, trivial⟩ F1
    (with_reducible show wpAny _ _ _ _ _ _)
    k_steps
    · rename (List.any _ _ = true) => hst
      have hst' : notEol (rs.getD x'.toNat 0) = false := by rw [hrg _ (by omega) (by omega)]; exact congrArg not hst
      have hend : runTo notEol rs x' = x' := runTo_stop (by omega) (by omega) hst'
      exact done_intro _ (by k_asm) (hdN (by k_asm)) ⟨_, _, _, x', rfl, (by k_asm), rfl, (by k_asm), hend.symm.trans hW⟩
    · rename (List.any _ _ = false) => hst
      have hst' : notEol (rs.getD x'.toNat 0) = true := by rw [hrg _ (by omega) (by omega)]; exact congrArg not hst
      have hend : runTo notEol rs (x' + 1) = runTo notEol rs x' := runTo_go (by omega) (by omega) hst'
      exact stepW _ (by k_asm) (tlN (by k_asm)) (by omega) ⟨_, x' + 1, rfl, mkCur hks' rfl rfl, by omega, by omega, rfl, hend.trans hW, rfl, _, rfl⟩
    · have hend : runTo notEol rs x' = x' := runTo_end (by omega)
      exact done_intro _ (by k_asm) (by k_asm) ⟨_, _, _, x', rfl, (by k_asm), rfl, (by k_asm), hend.symm.trans hW⟩
theorem kw28_line : True := by
  k_with "call ref" => (k_here; (with_reducible show wpAny _ _ (call (Value.ref 123) [Value.ref _]) _ _ _); k_dflt (refine usen (by k_asm) (by k_asm) (by k_asm) (by k_asm) (by k_asm) (by k_asm) (by k_asm) (by first | exact rfl | fail "no") (by first | exact rfl | fail "no") (by first | exact rfl | fail "no") (by first | exact rfl | fail "no") (by k_upd) (fun _ _ => trivial) (take_line (by k_ne) (by first | k_asm | exact mkCur (by k_asm) rfl rfl | fail "no") (by omega) (by omega) (by omega) (by omega)) (by first | exact room1 (by with_reducible assumption) (by rfl) | k_room | omega) (by first | exact units1 (by with_reducible assumption) (by rfl) | k_units | (with_unfolding_all exact Nat.le_of_ble_eq_true rfl) | omega) (post_bytesC ?_); intro zb zt zj zhb zhj zh1 zh2 zh3 zt1 zt2 zt3 zu1 zu2 zu3 zd zks zc zh zk zF zN; (try dsimp only [List.cons_append, List.nil_append] at zN); (try k_sweep)))
  trivial
set_option maxHeartbeats 1600000 in
theorem number {H DX : Addr} {o : Obj} {ks : List Int} {a e : Int} (hH : @Ne Nat H DX) (hc : isCur ks a e o) (ha : 0 ≤ a) (hae : a ≤ e) (he : e ≤ ks.length) (hz : ks.length < 1000) :
    Con 130 [.ref H] 2 (curL H DX o) (fun r l => ∃ o' j, l = curL H DX o' ∧ j = runTo figB (ks.take e.toNat) a ∧ ((r = .none ∧ ¬ (a < j ∧ j - a ≤ 20) ∧ isCur ks a e o') ∨ (isInt r (numV (sl ks a j)) ∧ a < j ∧ j - a ≤ 20 ∧ isCur ks j e o'))) := by
  have hc' := hc
  obtain ⟨h1, h2, h3, t1, t2, t3, u1, u2, u3, x, y, d, rfl, hks, rfl, rfl⟩ := hc
  obtain ⟨rs, hrs, hrl, hrg⟩ := view ks (by omega : 0 ≤ y) he
  rw [← hrs]
  ktr_rel
  intro w w p loose mean mg mb dp un gd fr base g L s h tk hdp hun B X T c1 c2 hpre F N hlt
  k_fold
  k_steps
  (rename Fr _ _ _ _ => F0)
  (rename News _ _ _ _ => N0)
  refine' While_inv2 (fun n m nx => ∃ o' a', nx = curL H DX o' ∧ isCur ks a' y o' ∧ x ≤ a' ∧ a' ≤ y ∧ n = (y - a').toNat ∧ runTo figB rs a' = runTo figB rs x ∧ m "self" = some (.ref H) ∧ (∃ t, m "first" = some (.int x t)) ∧ ∃ t, m "number" = some (.int (numV (sl ks x a')) t)) F0 N0 ?hJ ?turn ?hE
  case hJ => exact ⟨_, _, rfl, hc', Int.le_refl _, hae, rfl, rfl, rfl, ⟨_, rfl⟩, _, by rw [sl_nil]; rfl⟩
  case hE => exact PassesOwn.never
  case turn =>
    rintro n m₁ nx h tk F1 N1 ⟨o', a', rfl, hc1, hx1, hx2, rfl, hW, hs, ⟨t0, hf⟩, t9, hn⟩
    clear F0 N0
    have hc1' := hc1
    obtain ⟨h1', h2', h3', t1', t2', t3', u1', u2', u3', x', y', d', rfl, hks', rfl, rfl⟩ := hc1
    replace F1 := fr_names0 [(Str.ofString "self", .ref H), (Str.ofString "first", .int x t0), (Str.ofString "number", .int (numV (sl ks x x')) t9)] ⟨hs, hf, hn, trivial⟩ F1
    (with_reducible show wpAny _ _ _ _ _ _)
    k_steps
    · rename (figB _ = true) => hst
      have hlt' : x' < y' := by
        refine Decidable.byContradiction fun hc => ?_
        rw [peekV_ge (by omega)] at hst
        exact absurd hst (by decide)
      have hst' : figB (rs.getD x'.toNat 0) = true := by rw [hrg _ (by omega) (by omega), ← peekV_lt hlt']; exact hst
      have hend : runTo figB rs (x' + 1) = runTo figB rs x' := runTo_go (by omega) (by omega) hst'
      have hnum : numV (sl ks x x') * 10 + peekV ks x' y' - 48 = numV (sl ks x (x' + 1)) := by rw [sl_snoc (by omega) (by omega) (by omega), numV_snoc, peekV_lt hlt']
      exact stepW _ (by k_asm) (by k_asm) (by omega) ⟨_, x' + 1, rfl, mkCur (by k_asm) (if_pos hlt') rfl, by omega, by omega, rfl, hend.trans hW, rfl, ⟨_, rfl⟩, _, congrArg (fun z => some (Value.int z _)) hnum⟩
    all_goals
      rename (figB _ = false) => hst
      have hend : runTo figB rs x' = x' := by
        by_cases hlt' : x' < y'
        · exact runTo_stop (by omega) (by omega) (by rw [hrg _ (by omega) (by omega), ← peekV_lt hlt']; exact hst)
        · exact runTo_end (by omega)
    · exact done_intro _ (by k_asm) (by k_asm) ⟨_, x', rfl, hend.symm.trans hW, .inl ⟨rfl, by omega, mkCur hks' rfl rfl⟩⟩
    · exact done_intro _ (by k_asm) (by k_asm) ⟨_, x', rfl, hend.symm.trans hW, .inl ⟨rfl, by omega, mkCur hks' rfl rfl⟩⟩
    · exact done_intro _ (by k_asm) (by k_asm) ⟨_, x', rfl, hend.symm.trans hW, .inr ⟨⟨_, rfl⟩, by omega, by omega, mkCur hks' rfl rfl⟩⟩
theorem post_number {K : Value → Led → Prop} {H DX : Addr} {ks rs : List Int} {a e : Int} (h1 : ∀ j, j = runTo figB rs a → ¬ (a < j ∧ j - a ≤ 20) → ∀ (z1 z2 z3 : Int) (t1 t2 t3 u1 u2 u3 : Tok) (d : Array UInt8), KBw.bInts d = ks → isCur ks a e (dictOf [⟨z1, .str "data" t1, .bytes d u1⟩, ⟨z2, .str "at" t2, .int a u2⟩, ⟨z3, .str "end" t3, .int e u3⟩] 3) → K .none [(H, instObj 147 DX), (DX, (dictOf [⟨z1, .str "data" t1, .bytes d u1⟩, ⟨z2, .str "at" t2, .int a u2⟩, ⟨z3, .str "end" t3, .int e u3⟩] 3))])
    (h2 : ∀ j t, j = runTo figB rs a → a < j → j - a ≤ 20 → ∀ (z1 z2 z3 : Int) (t1 t2 t3 u1 u2 u3 : Tok) (d : Array UInt8), KBw.bInts d = ks → isCur ks j e (dictOf [⟨z1, .str "data" t1, .bytes d u1⟩, ⟨z2, .str "at" t2, .int j u2⟩, ⟨z3, .str "end" t3, .int e u3⟩] 3) → K (.int (numV (sl ks a j)) t) [(H, instObj 147 DX), (DX, (dictOf [⟨z1, .str "data" t1, .bytes d u1⟩, ⟨z2, .str "at" t2, .int j u2⟩, ⟨z3, .str "end" t3, .int e u3⟩] 3))]) :
    ∀ r l, (∃ o' j, l = curL H DX o' ∧ j = runTo figB rs a ∧ ((r = .none ∧ ¬ (a < j ∧ j - a ≤ 20) ∧ isCur ks a e o') ∨ (isInt r (numV (sl ks a j)) ∧ a < j ∧ j - a ≤ 20 ∧ isCur ks j e o'))) → K r l := by
  rintro _ _ ⟨_, j, rfl, hj, (⟨rfl, hn, ⟨z1, z2, z3, t1, t2, t3, u1, u2, u3, x, y, d, rfl, hks, rfl, rfl⟩⟩ | ⟨⟨t, rfl⟩, hn, hm, ⟨z1, z2, z3, t1, t2, t3, u1, u2, u3, x, y, d, rfl, hks, rfl, rfl⟩⟩)⟩
  · exact h1 j hj hn z1 z2 z3 t1 t2 t3 u1 u2 u3 d hks ⟨z1, z2, z3, t1, t2, t3, u1, u2, u3, _, _, d, rfl, hks, rfl, rfl⟩
  · exact h2 _ t hj hn hm z1 z2 z3 t1 t2 t3 u1 u2 u3 d hks ⟨z1, z2, z3, t1, t2, t3, u1, u2, u3, _, _, d, rfl, hks, rfl, rfl⟩
theorem kw30_number : True := by
  k_with "call ref" => (k_here; (with_reducible show wpAny _ _ (call (Value.ref 130) [Value.ref _]) _ _ _); k_dflt (refine usen (by k_asm) (by k_asm) (by k_asm) (by k_asm) (by k_asm) (by k_asm) (by k_asm) (by first | exact rfl | fail "no") (by first | exact rfl | fail "no") (by first | exact rfl | fail "no") (by first | exact rfl | fail "no") (by k_upd) (fun _ _ => trivial) (number (by k_ne) (by first | k_asm | exact mkCur (by k_asm) rfl rfl | fail "no") (by omega) (by omega) (by omega) (by omega)) (by first | exact room1 (by with_reducible assumption) (by rfl) | k_room | omega) (by first | exact units1 (by with_reducible assumption) (by rfl) | k_units | (with_unfolding_all exact Nat.le_of_ble_eq_true rfl) | omega) (post_number ?_ ?_); intro zj zhj zn zh1 zh2 zh3 zt1 zt2 zt3 zu1 zu2 zu3 zd zks zc zh zk zF zN; skip; (try dsimp only [List.cons_append, List.nil_append] at zN); (try k_sweep); rotate_left; intro zj zt zhj zn zm zh1 zh2 zh3 zt1 zt2 zt3 zu1 zu2 zu3 zd zks zc zh zk zF zN; skip; (try dsimp only [List.cons_append, List.nil_append] at zN); (try k_sweep); rotate_left))
  trivial
theorem slot_bytes_find : Slot "bytes" "find" "bytes.find" :=
  .of (owner := "bytes") (n := "find") (by rw [typeLookup_type, builtinLookup_eq_fast]; kernel_rfl) (by decide +kernel) (by decide +kernel) (by decide +kernel)
    (by first | exact .inl (by decide +kernel) | exact .inr (by decide +kernel)) (by rw [isSubtype_type]; kernel_rfl)
theorem type_bytes_find : typeOf (.builtin "bytes.find") = pure (.type "method_descriptor") := by show builtinType _ = _; rw [builtinType_eq_fast]; kernel_rfl
theorem entry_bytes_find : entryFor table "bytes.find" = some Builtin.«bytes.find» := entryFor_of_tree (by kernel_rfl)
theorem args_bytes_find (a b c d : Value) : argsOk "bytes.find" ⟨[a, b, c, d], []⟩ := by
  unfold argsOk; rw [signature?_of (id := "bytes.find") (n := ['d', 'n', 'i', 'f']) (o := ['s', 'e', 't', 'y', 'b']) (by kernel_rfl) FB.owner_bytes]; kernel_rfl
theorem slot_bytes_rfind : Slot "bytes" "rfind" "bytes.rfind" :=
  .of (owner := "bytes") (n := "rfind") (by rw [typeLookup_type, builtinLookup_eq_fast]; kernel_rfl) (by decide +kernel) (by decide +kernel) (by decide +kernel)
    (by first | exact .inl (by decide +kernel) | exact .inr (by decide +kernel)) (by rw [isSubtype_type]; kernel_rfl)
theorem type_bytes_rfind : typeOf (.builtin "bytes.rfind") = pure (.type "method_descriptor") := by show builtinType _ = _; rw [builtinType_eq_fast]; kernel_rfl
theorem entry_bytes_rfind : entryFor table "bytes.rfind" = some Builtin.«bytes.rfind» := entryFor_of_tree (by kernel_rfl)
theorem args_bytes_rfind (a b c d : Value) : argsOk "bytes.rfind" ⟨[a, b, c, d], []⟩ := by
  unfold argsOk; rw [signature?_of (id := "bytes.rfind") (n := ['d', 'n', 'i', 'f', 'r']) (o := ['s', 'e', 't', 'y', 'b']) (by kernel_rfl) FB.owner_bytes]; kernel_rfl
section
open Builtin
variable {b c : Array UInt8} {t u ti tj : Tok} {i j : Int}
theorem special_int : specialOf (.int i ti) "__index__" = pure (some (.builtin "int.__index__")) := by
  have e : specialOf (.int i ti) "__index__" = typeLookup (.type "int") "__index__" := rfl
  rw [e, F.slot_int_index.lookup]
theorem bound_eq : Bytes.bound? (some (.int i ti)) = pure (some i) := by
  unfold Bytes.bound?
  simp only [special_int]
  rfl
theorem search_eq {name : String} (hi : 0 ≤ i) (hj : 0 ≤ j) : Bytes.searchArgs .bytes name ⟨[.bytes b t, .bytes c u, .int i ti, .int j tj], []⟩ = pure (b, c, if min (b.size : Int) j - i < c.size then none else some (i.toNat, (min (b.size : Int) j).toNat)) := by
  unfold Bytes.searchArgs
  have h1 : ∀ id, selfAndSome id name 1 3 ⟨[.bytes b t, .bytes c u, .int i ti, .int j tj], []⟩ = pure (.bytes b t, [.bytes c u, .int i ti, .int j tj]) := fun id => rfl
  simp only [h1, pure_bind]
  have h2 : ([Value.bytes c u, .int i ti, .int j tj] : List Value)[1]? = some (.int i ti) := rfl
  have h3 : ([Value.bytes c u, .int i ti, .int j tj] : List Value)[2]? = some (.int j tj) := rfl
  simp only [h2, h3, bound_eq, pure_bind, List.headD, KBy.buffer_eq]
  have h4 : Bytes.payload (.bytes b t) = pure b := rfl
  simp only [h4, pure_bind]
  have h5 : Bytes.window b.size (some i) (some j) = (i, min (b.size : Int) j) := by
    unfold Bytes.window
    simp only [Option.getD_some, if_neg (show ¬ i < 0 by omega), if_neg (show ¬ j < 0 by omega)]
  rw [h5]
def rawFind (r : Bool) (b c : Array UInt8) (i j : Int) : Option Nat :=
  (if min (b.size : Int) j - i < c.size then none else some (i.toNat, (min (b.size : Int) j).toNat)).bind fun (lo, hi) => if r = true then Bytes.rfind? b c lo hi else Bytes.find? b c lo hi
theorem meets_search {name : String} {r : Bool} (hi : 0 ≤ i) (hj : 0 ≤ j) :
    Meets (Bytes.searchM .bytes name r false ⟨[.bytes b t, .bytes c u, .int i ti, .int j tj], []⟩)
      (fun _ R s => R (.ok (.ret (.int (match rawFind r b c i j with | some k => (k : Int) | none => -1) s.toks))) { s with toks := s.toks + 1 }) := by
  refine .of_wp fun prog w A R s h => ?_
  unfold Bytes.searchM
  refine wpAny_bind (wpAny_of_eq (search_eq hi hj) ?_)
  have e : rawFind r b c i j = (if min (b.size : Int) j - i < c.size then none else some (i.toNat, (min (b.size : Int) j).toNat)).bind fun (lo, hi) => if r = true then Bytes.rfind? b c lo hi else Bytes.find? b c lo hi := rfl
  revert h
  show _ → wpAny _ _ (match (if min (b.size : Int) j - i < c.size then none else some (i.toNat, (min (b.size : Int) j).toNat)).bind fun (lo, hi) => if r = true then Bytes.rfind? b c lo hi else Bytes.find? b c lo hi with | some i => retInt i | none => _) _ _ s
  rw [← e]
  cases rawFind r b c i j with
  | none =>
    intro h
    refine wpAny_bind (wpAny_rule ?_)
    exact wpAny_bind (wpAny_mkInt (wpAny_pure ⟨_, rfl, h⟩))
  | some k =>
    intro h
    exact wpAny_bind (wpAny_mkInt (wpAny_pure ⟨_, rfl, h⟩))
end
section
variable {prog : Program} {w : World} {A : Around} {E : Value → Shared → Prop} {s : Shared} {b c : Array UInt8} {t u ti tj : Tok} {i j : Int} {Q : Value → Shared → Prop}
theorem call_find (hi : 0 ≤ i) (hj : 0 ≤ j) (h : Q (.int (match rawFind false b c i j with | some k => (k : Int) | none => -1) s.toks) { s with toks := s.toks + 1 }) :
    wpAny (model prog w) A (call (.builtin "bytes.find") [.bytes b t, .bytes c u, .int i ti, .int j tj]) Q E s :=
  call_meets slot_bytes_find (typeIs_bytes _ _ _) entry_bytes_find (args_bytes_find _ _ _ _) (meets_search (r := false) hi hj) h
theorem call_rfind (hi : 0 ≤ i) (hj : 0 ≤ j) (h : Q (.int (match rawFind true b c i j with | some k => (k : Int) | none => -1) s.toks) { s with toks := s.toks + 1 }) :
    wpAny (model prog w) A (call (.builtin "bytes.rfind") [.bytes b t, .bytes c u, .int i ti, .int j tj]) Q E s :=
  call_meets slot_bytes_rfind (typeIs_bytes _ _ _) entry_bytes_rfind (args_bytes_rfind _ _ _ _) (meets_search (r := true) hi hj) h
theorem method_find {M : Model} {pl : Sem Bool} {Q : Value × List Value → Shared → Prop} (h : Q (.builtin "bytes.find", [.bytes b t]) s) : wpAny M A (getMethod (.bytes b t) "find" pl) Q E s := by
  with_reducible exact KBd.method_of (.bytes b t) (typeIs_bytes _ _ _) slot_bytes_find type_bytes_find KBd.noRef h
theorem method_rfind {M : Model} {pl : Sem Bool} {Q : Value × List Value → Shared → Prop} (h : Q (.builtin "bytes.rfind", [.bytes b t]) s) : wpAny M A (getMethod (.bytes b t) "rfind" pl) Q E s := by
  with_reducible exact KBd.method_of (.bytes b t) (typeIs_bytes _ _ _) slot_bytes_rfind type_bytes_rfind KBd.noRef h
end
theorem revfind (p : Nat → Bool) : ∀ n : Nat, (∀ k, (List.range n).reverse.find? p = some k → k < n ∧ p k = true ∧ ∀ m, k < m → m < n → p m = false) ∧ ((List.range n).reverse.find? p = none → ∀ m, m < n → p m = false)
  | 0 => ⟨(fun k h => by simp at h), (fun _ m h => by omega (splitNatSub := true))⟩
  | n + 1 => by
    obtain ⟨i1, i2⟩ := revfind p n
    rw [List.range_succ, List.reverse_append]
    cases hp : p n with
    | true =>
      refine ⟨fun k h => ?_, fun h => ?_⟩
      · simp [hp] at h
        subst h
        exact ⟨by omega (splitNatSub := true), hp, fun m h1 h2 => by omega (splitNatSub := true)⟩
      · simp [hp] at h
    | false =>
      refine ⟨fun k h => ?_, fun h => ?_⟩
      · have h' : (List.range n).reverse.find? p = some k := by simpa [List.find?_cons, hp] using h
        obtain ⟨h1, h2, h3⟩ := i1 k h'
        refine ⟨by omega (splitNatSub := true), h2, fun m h4 h5 => ?_⟩
        by_cases hm : m = n
        · rw [hm]; exact hp
        · exact h3 m h4 (by omega (splitNatSub := true))
      · have h' : (List.range n).reverse.find? p = none := by simpa [List.find?_cons, hp] using h
        intro m h5
        by_cases hm : m = n
        · rw [hm]; exact hp
        · exact i2 h' m (by omega (splitNatSub := true))
theorem fwdfind (p : Nat → Bool) (n : Nat) : (∀ k, (List.range n).find? p = some k → k < n ∧ p k = true ∧ ∀ m, m < k → p m = false) ∧ ((List.range n).find? p = none → ∀ m, m < n → p m = false) := by
  refine ⟨fun k h => ?_, fun h m hm => ?_⟩
  · obtain ⟨h1, h2, h3⟩ := List.find?_range_eq_some.mp h
    exact ⟨List.mem_range.mp h2, h1, fun m hm => by simpa using h3 m hm⟩
  · have := List.find?_eq_none.mp h m (List.mem_range.mpr hm)
    simpa using this
/-- the word stands at a place -/
def stand (rs ws : List Int) (i : Int) : Bool := sl rs i (i + ws.length) == ws
/-- the first place of a word, from a place on; -1 for none -/
def FindR (rs ws : List Int) (lo r : Int) : Prop :=
  (r = -1 ∧ ∀ k : Int, lo ≤ k → k + ws.length ≤ rs.length → stand rs ws k = false) ∨ (lo ≤ r ∧ r + ws.length ≤ rs.length ∧ stand rs ws r = true ∧ ∀ k : Int, lo ≤ k → k < r → stand rs ws k = false)
def LastR (rs ws : List Int) (r : Int) : Prop :=
  (r = -1 ∧ ∀ k : Int, 0 ≤ k → k + ws.length ≤ rs.length → stand rs ws k = false) ∨ (0 ≤ r ∧ r + ws.length ≤ rs.length ∧ stand rs ws r = true ∧ ∀ k : Int, r < k → k + ws.length ≤ rs.length → stand rs ws k = false)
theorem FindR.one {rs ws : List Int} {lo r q : Int} (h : FindR rs ws lo r) (h2 : FindR rs ws lo q) : r = q := by
  rcases h with ⟨e, h⟩ | ⟨a, b, c, d⟩ <;> rcases h2 with ⟨e', h'⟩ | ⟨a', b', c', d'⟩
  · omega (splitNatSub := true)
  · rw [h q a' b'] at c'; cases c'
  · rw [h' r a b] at c; cases c
  · rcases Int.lt_trichotomy r q with hl | hl | hl
    · rw [d' r a hl] at c; cases c
    · exact hl
    · rw [d q a' hl] at c'; cases c'
theorem LastR.one {rs ws : List Int} {r q : Int} (h : LastR rs ws r) (h2 : LastR rs ws q) : r = q := by
  rcases h with ⟨e, h⟩ | ⟨a, b, c, d⟩ <;> rcases h2 with ⟨e', h'⟩ | ⟨a', b', c', d'⟩
  · omega (splitNatSub := true)
  · rw [h q a' b'] at c'; cases c'
  · rw [h' r a b] at c; cases c
  · rcases Int.lt_trichotomy r q with hl | hl | hl
    · rw [d q hl b'] at c'; cases c'
    · exact hl
    · rw [d' r hl b] at c; cases c
theorem bInts_extract (b : Array UInt8) (i j : Nat) : KBw.bInts (b.extract i j) = sl (KBw.bInts b) i j := by
  show (b.extract i j).toList.map _ = ((b.toList.map _).drop _).take _
  rw [Array.toList_extract, List.extract_eq_take_drop, List.map_take, List.map_drop]
  rfl
theorem bInts_len (b : Array UInt8) : (KBw.bInts b).length = b.size := by
  show (b.toList.map _).length = _
  rw [List.length_map, Array.length_toList]
theorem extract_stand {b c : Array UInt8} {ks ws : List Int} {k e : Nat} (hb : KBw.bInts b = ks) (hc : KBw.bInts c = ws) (h : k + ws.length ≤ e) : (b.extract k (k + c.size) == c) = stand (ks.take e) ws k := by
  have hz : c.size = ws.length := by rw [← hc, bInts_len]
  unfold stand
  have e1 : ((k : Int) + (ws.length : Int)) = ((k + ws.length : Nat) : Int) := by omega (splitNatSub := true)
  have e2 : sl (ks.take e) (k : Int) ((k : Int) + (ws.length : Int)) = KBw.bInts (b.extract k (k + c.size)) := by
    rw [bInts_extract, hb, hz, e1]
    have := @sl_take ks k ((k + ws.length : Nat) : Int) e (by omega (splitNatSub := true))
    simpa using this
  rw [e2, Bool.eq_iff_iff, beq_iff_eq, beq_iff_eq, ← hc]
  exact ⟨fun h => by rw [h], fun h => bInts_inj h⟩
theorem raw_find {b c : Array UInt8} {ks ws : List Int} {i e : Int} (hb : KBw.bInts b = ks) (hc : KBw.bInts c = ws) (hi : 0 ≤ i) (he0 : 0 ≤ e) (he : e ≤ ks.length) :
    FindR (ks.take e.toNat) ws i (match rawFind false b c i e with | some k => (k : Int) | none => -1) := by
  have hz : c.size = ws.length := by rw [← hc, bInts_len]
  have hbz : b.size = ks.length := by rw [← hb, bInts_len]
  have hl : ((ks.take e.toNat).length : Int) = e := by rw [List.length_take]; omega (splitNatSub := true)
  have hm : min (b.size : Int) e = e := by omega (splitNatSub := true)
  unfold rawFind
  rw [hm]
  by_cases hlt : e - i < c.size
  · rw [if_pos hlt]
    exact .inl ⟨rfl, fun k h1 h2 => by omega (splitNatSub := true)⟩
  · rw [if_neg hlt]
    obtain ⟨f1, f2⟩ := fwdfind ((fun k => b.extract k (k + c.size) == c) ∘ (· + i.toNat)) (e.toNat + 1 - (i.toNat + c.size))
    have ek : ∀ k : Int, i ≤ k → k + ws.length ≤ e → ((fun k => b.extract k (k + c.size) == c) ∘ (· + i.toNat)) (k - i).toNat = stand (ks.take e.toNat) ws k := by
      intro k h1 h2
      show (b.extract ((k - i).toNat + i.toNat) ((k - i).toNat + i.toNat + c.size) == c) = _
      have e3 : (k - i).toNat + i.toNat = k.toNat := by omega (splitNatSub := true)
      rw [e3, extract_stand hb hc (e := e.toNat) (by omega (splitNatSub := true))]
      have e4 : ((k.toNat : Nat) : Int) = k := by omega (splitNatSub := true)
      rw [e4]
    show FindR _ _ _ (match ((List.range (e.toNat + 1 - (i.toNat + c.size))).map (· + i.toNat)).find? (fun k => b.extract k (k + c.size) == c) with | some k => (k : Int) | none => -1)
    rw [List.find?_map]
    cases hf : (List.range (e.toNat + 1 - (i.toNat + c.size))).find? ((fun k => b.extract k (k + c.size) == c) ∘ (· + i.toNat)) with
    | none =>
      have f3 := f2 hf
      refine .inl ⟨rfl, fun k h1 h2 => ?_⟩
      rw [← ek k h1 (by omega (splitNatSub := true))]
      exact f3 _ (by omega (splitNatSub := true))
    | some n =>
      obtain ⟨g1, g2, g3⟩ := f1 n hf
      have hn : ((n + i.toNat : Nat) : Int) - i = n := by omega (splitNatSub := true)
      refine .inr ⟨?_, ?_, ?_, fun k h1 h2 => ?_⟩
      · show i ≤ ((n + i.toNat : Nat) : Int); omega (splitNatSub := true)
      · show ((n + i.toNat : Nat) : Int) + _ ≤ _; omega (splitNatSub := true)
      · show stand _ _ ((n + i.toNat : Nat) : Int) = true
        rw [← ek _ (by omega (splitNatSub := true)) (by omega (splitNatSub := true)), hn]
        exact g2
      · have h2' : k < ((n + i.toNat : Nat) : Int) := h2
        rw [← ek k h1 (by omega (splitNatSub := true))]
        exact g3 _ (by omega (splitNatSub := true))
theorem raw_rfind {b c : Array UInt8} {ks ws : List Int} {e : Int} (hb : KBw.bInts b = ks) (hc : KBw.bInts c = ws) (he0 : 0 ≤ e) (he : e ≤ ks.length) :
    LastR (ks.take e.toNat) ws (match rawFind true b c 0 e with | some k => (k : Int) | none => -1) := by
  have hz : c.size = ws.length := by rw [← hc, bInts_len]
  have hbz : b.size = ks.length := by rw [← hb, bInts_len]
  have hl : ((ks.take e.toNat).length : Int) = e := by rw [List.length_take]; omega (splitNatSub := true)
  have hm : min (b.size : Int) e = e := by omega (splitNatSub := true)
  unfold rawFind
  rw [hm]
  by_cases hlt : e - 0 < c.size
  · rw [if_pos hlt]
    exact .inl ⟨rfl, fun k h1 h2 => by omega (splitNatSub := true)⟩
  · rw [if_neg hlt]
    have em : (List.range (e.toNat + 1 - (0 + c.size))).map (· + 0) = List.range (e.toNat + 1 - (0 + c.size)) := by simp
    obtain ⟨f1, f2⟩ := revfind (fun k => b.extract k (k + c.size) == c) (e.toNat + 1 - (0 + c.size))
    have ek : ∀ k : Int, 0 ≤ k → k + ws.length ≤ e → (fun k => b.extract k (k + c.size) == c) k.toNat = stand (ks.take e.toNat) ws k := by
      intro k h1 h2
      show (b.extract k.toNat (k.toNat + c.size) == c) = _
      rw [extract_stand hb hc (e := e.toNat) (by omega (splitNatSub := true))]
      have e4 : ((k.toNat : Nat) : Int) = k := by omega (splitNatSub := true)
      rw [e4]
    show LastR _ _ (match ((List.range (e.toNat + 1 - (0 + c.size))).map (· + 0)).reverse.find? (fun k => b.extract k (k + c.size) == c) with | some k => (k : Int) | none => -1)
    rw [em]
    cases hf : (List.range (e.toNat + 1 - (0 + c.size))).reverse.find? (fun k => b.extract k (k + c.size) == c) with
    | none =>
      have f3 := f2 hf
      refine .inl ⟨rfl, fun k h1 h2 => ?_⟩
      rw [← ek k h1 (by omega (splitNatSub := true))]
      exact f3 _ (by omega (splitNatSub := true))
    | some n =>
      obtain ⟨g1, g2, g3⟩ := f1 n hf
      refine .inr ⟨?_, ?_, ?_, fun k h1 h2 => ?_⟩
      · show 0 ≤ ((n : Nat) : Int); omega (splitNatSub := true)
      · show ((n : Nat) : Int) + _ ≤ _; omega (splitNatSub := true)
      · show stand _ _ ((n : Nat) : Int) = true
        rw [← ek _ (by omega (splitNatSub := true)) (by omega (splitNatSub := true))]
        exact g2
      · have h1' : (n : Int) < k := h1
        rw [← ek k (by omega (splitNatSub := true)) (by omega (splitNatSub := true))]
        exact g3 _ (by omega (splitNatSub := true)) (by omega (splitNatSub := true))
section
variable {prog : Program} {w : World} {A : Around} {E : Value → Shared → Prop} {s : Shared} {b c : Array UInt8} {t u ti tj : Tok} {i e : Int} {Q : Value → Shared → Prop} {ks ws : List Int}
theorem find_K (hb : KBw.bInts b = ks) (hc : KBw.bInts c = ws) (hi : 0 ≤ i) (he0 : 0 ≤ e) (he : e ≤ ks.length) (h : ∀ z t k, FindR (ks.take e.toNat) ws i z → Q (.int z t) { s with toks := k }) :
    wpAny (model prog w) A (call (.builtin "bytes.find") [.bytes b t, .bytes c u, .int i ti, .int e tj]) Q E s :=
  call_find hi he0 (h _ _ _ (raw_find hb hc hi he0 he))
theorem rfind_K (hb : KBw.bInts b = ks) (hc : KBw.bInts c = ws) (he0 : 0 ≤ e) (he : e ≤ ks.length) (h : ∀ z t k, LastR (ks.take e.toNat) ws z → Q (.int z t) { s with toks := k }) :
    wpAny (model prog w) A (call (.builtin "bytes.rfind") [.bytes b t, .bytes c u, .int 0 ti, .int e tj]) Q E s :=
  call_rfind (by omega (splitNatSub := true)) he0 (h _ _ _ (raw_rfind hb hc he0 he))
end
theorem kw32_find : True := by
  k_with "getMethod bytes" => (k_here; first | (with_reducible refine method_find ?_) | (with_reducible refine method_rfind ?_))
  k_with "call builtin:bytes.find" => (k_here; (with_reducible show wpAny _ _ (call (Value.builtin "bytes.find") [Value.bytes _ _, Value.bytes _ _, Value.int _ _, Value.int _ _]) _ _ _); refine find_K (by assumption) (by assumption) (by omega) (by omega) (by omega) ?_; intro z9 t9 k9 hz9)
  k_with "call builtin:bytes.rfind" => (k_here; (with_reducible show wpAny _ _ (call (Value.builtin "bytes.rfind") [Value.bytes _ _, Value.bytes _ _, Value.int _ _, Value.int _ _]) _ _ _); refine rfind_K (by assumption) (by assumption) (by omega) (by omega) ?_; intro z9 t9 k9 hz9)
  trivial
set_option maxHeartbeats 800000 in
theorem find {H DX : Addr} {o : Obj} {ks ws : List Int} {a e f : Int} {wd : Array UInt8} {wt ft : Tok} (hc : isCur ks a e o) (he0 : 0 ≤ e) (he : e ≤ ks.length) (hz : ks.length < 1000) (hw : KBw.bInts wd = ws) (hf : f < 1000) (hf2 : -1000 < f) :
    Con 137 [.ref H, .bytes wd wt, .int f ft] 1 (curL H DX o) (fun r l => (∃ z, isInt r z ∧ FindR (ks.take e.toNat) ws (max f 0) z) ∧ l = curL H DX o) := by
  obtain ⟨h1, h2, h3, t1, t2, t3, u1, u2, u3, x, y, d, rfl, hks, rfl, rfl⟩ := hc
  ktr_rel
  intro w w p loose mean mg mb dp un gd fr base g L s h tk hdp hun B X T c1 c2 hpre F N hlt
  k_fold
  k_steps
  rename FindR _ _ _ _ => hq
  exact done_intro _ (by k_asm) (by k_asm) ⟨⟨_, ⟨_, rfl⟩, by rw [show max f 0 = if 0 > f then 0 else f by split <;> omega]; exact hq⟩, rfl⟩
set_option maxHeartbeats 800000 in
theorem find_last {H DX : Addr} {o : Obj} {ks ws : List Int} {a e : Int} {wd : Array UInt8} {wt : Tok} (hc : isCur ks a e o) (he0 : 0 ≤ e) (he : e ≤ ks.length) (hz : ks.length < 1000) (hw : KBw.bInts wd = ws) :
    Con 144 [.ref H, .bytes wd wt] 1 (curL H DX o) (fun r l => (∃ z, isInt r z ∧ LastR (ks.take e.toNat) ws z) ∧ l = curL H DX o) := by
  obtain ⟨h1, h2, h3, t1, t2, t3, u1, u2, u3, x, y, d, rfl, hks, rfl, rfl⟩ := hc
  ktr_rel
  intro w w p loose mean mg mb dp un gd fr base g L s h tk hdp hun B X T c1 c2 hpre F N hlt
  k_fold
  k_steps
  rename LastR _ _ _ => hq
  exact done_intro _ (by k_asm) (by k_asm) ⟨⟨_, ⟨_, rfl⟩, hq⟩, rfl⟩
theorem post_find {K : Value → Led → Prop} {l₀ : Led} {R : Int → Prop} (h : ∀ z t, R z → K (.int z t) l₀) : ∀ r l, ((∃ z, isInt r z ∧ R z) ∧ l = l₀) → K r l := by
  rintro _ _ ⟨⟨z, ⟨t, rfl⟩, hz⟩, rfl⟩
  exact h z t hz
theorem kw33_finds : True := by
  k_with "call ref" => (k_here; (with_reducible show wpAny _ _ (call (Value.ref 137) [Value.ref _, Value.bytes _ _, Value.int _ _]) _ _ _); k_dflt (refine usen (by k_asm) (by k_asm) (by k_asm) (by k_asm) (by k_asm) (by k_asm) (by k_asm) (by first | exact rfl | fail "no") (by first | exact rfl | fail "no") (by first | exact rfl | fail "no") (by first | exact rfl | fail "no") (by k_upd) (fun _ _ => trivial) (find (by first | k_asm | exact mkCur (by k_asm) rfl rfl | fail "no") (by omega) (by omega) (by omega) (by k_asm) (by omega) (by omega)) (by first | exact room1 (by with_reducible assumption) (by rfl) | k_room | omega) (by first | exact units1 (by with_reducible assumption) (by rfl) | k_units | (with_unfolding_all exact Nat.le_of_ble_eq_true rfl) | omega) (post_find ?_); intro zz zt zhz zh zk zF zN; (try dsimp only [List.cons_append, List.nil_append] at zN); (try k_sweep)))
  k_with "call ref" => (k_here; (with_reducible show wpAny _ _ (call (Value.ref 144) [Value.ref _, Value.bytes _ _]) _ _ _); k_dflt (refine usen (by k_asm) (by k_asm) (by k_asm) (by k_asm) (by k_asm) (by k_asm) (by k_asm) (by first | exact rfl | fail "no") (by first | exact rfl | fail "no") (by first | exact rfl | fail "no") (by first | exact rfl | fail "no") (by k_upd) (fun _ _ => trivial) (find_last (by first | k_asm | exact mkCur (by k_asm) rfl rfl | fail "no") (by omega) (by omega) (by omega) (by k_asm)) (by first | exact room1 (by with_reducible assumption) (by rfl) | k_room | omega) (by first | exact units1 (by with_reducible assumption) (by rfl) | k_units | (with_unfolding_all exact Nat.le_of_ble_eq_true rfl) | omega) (post_find ?_); intro zz zt zhz zh zk zF zN; (try dsimp only [List.cons_append, List.nil_append] at zN); (try k_sweep)))
  trivial
/-- the body's premises where names live in cells -/
def BodyC (pre : Heap → Prop) (f : Addr) (D : Nat) (small : Led) (post : Value → Led → Prop) (qual : Str) (scope : Scope) (cdv : Value) (body : List Stmt) (binds : List (Str × Value)) : Prop :=
  ∀ (w : World) (p : Program) (loose : List Str) (mean : ExcName → Option Value) (mg mb : Str → Option Value)
    (dp un : Nat) (gd : Option (List Code)) (fr : List Env) (base g : Heap) (L : Addr) (s : Shared) (h : Heap) (tk : Nat) (cells : Led),
    dp + D < recursionLimit → un + 16 * D < cLine →
    Below (tp dp un gd fr) base fr g → (hd.heap_39 w.params).In g → Top p loose mean mg mb g → CodeHd base 191 187 → CodeHd base 203 201 →
    pre g → Fr g L h (bindL (envOfC qual scope L f cdv).kindOf binds fun _ => none) → News g L h (cells ++ small) →
    CellsAre (bindC (envOfC qual scope L f cdv).kindOf binds fun _ => none) (cellsFrom (L + 1) scope.names []) cells → (∀ q ∈ small, q.1 < L) →
    wpAny (model PySem.Challenge.rw_nn0114_01.row.prog w) ((tp dp un gd fr).deeper (envOfC qual scope L f cdv)) (execs body (envOfC qual scope L f cdv))
      (fun fl s' => Done g post s (match fl with | .ret v => v | _ => .none) s') (fun _ _ => False) { s with heap := h, toks := tk }

theorem con_ofC {pre : Heap → Prop} {f : Addr} {vs : List Value} {D : Nat} {small : Led} {post : Value → Led → Prop} {name qual : Str} {params : Arguments} {body : List Stmt} {scope : Scope}
    {dV kV doc pm cdv ct oc : World → Value} {an od : World → Option Addr} {osl : World → Array (Option Value)} {binds : List (Str × Value)}
    (ho : ∀ w : World, (hd.heap_39 w.params).lookup f = some ⟨oc w, od w, .func (fnOf name qual params body scope (dV w) (kV w) (doc w) (pm w) (an w) (cdv w) (ct w)), osl w⟩)
    (hcd : ∀ w : World, codeIn (hd.heap_39 w.params) (cdv w) qual = true)
    (hbind : ∀ (w : World) (s : Shared), (hd.heap_39 w.params).In s.heap → BindsTo s (fnOf name qual params body scope (dV w) (kV w) (doc w) (pm w) (an w) (cdv w) (ct w)) ⟨vs, []⟩ binds)
    (hkind : (binds.all fun y => scope.names.lookup y.1 == some .local || scope.names.lookup y.1 == some .cell) = true)
    (hnd : ((cellsFrom 0 scope.names []).map (·.1)).Nodup) (hco : scope.isCoroutine = false) (hgen : scope.isGenerator = false) (hk : scope.kind = .function)
    (hb : ∀ w : World, BodyC pre f D small post qual scope (cdv w) body binds) : ConP pre f vs (D + 1) small post := by
  intro w p loose mean mg mb A fr base s Q E hh hdp hu B X T c1 c2 hpre hs ret
  refine wpAny_call ?_
  have st : (gh s.heap small).StaysIn s.heap := fun b o e => of_hideAll _ e
  have X' : (hd.heap_39 w.params).In s.heap := X.keeps st
  refine codeAny_call_function (by omega) (X' _ _ (ho w)) rfl hco hgen rfl (codeRec_of X' (hcd w)) (hbind w s X' _ _ _ _ ?_)
  refine wpAny_newFunctionEnv_cells hk (kindsX hkind _) fun env' he s' x => ?_
  subst he
  refine ⟨(T.nolimit.keeps st).keeps x.toInCall.keep, codeAny_func ?_⟩
  obtain ⟨h₁, tk, rfl, _⟩ := x.done
  have hk₁ := x.toInCall.keep
  obtain ⟨cells, NC, Y⟩ := Cl.news (h₀ := s.heap) (Nat.le_refl _) fun n c hm => ⟨x.cell n c (lookup_of_mem_nodup (cellsFrom_names scope.names 0 (s.heap.objs.size + 1) [] [] rfl ▸ hnd) hm), x.above n c hm⟩
  have eA := around_eta hh B.stack
  have W := hb w w p loose mean mg mb A.depth A.units A.guards fr base (gh s.heap small) s.heap.objs.size s h₁ tk cells (by omega) (by omega) (eA ▸ B) X T c1 c2 hpre
    ⟨x.toInCall.ns, fun b o e => hk₁ b o (of_hideAll _ e), Nat.le_of_eq (hideAll_size _ _)⟩
    (fun q hq => by
      rcases List.mem_append.mp hq with hq | hq
      · refine ⟨(NC q hq).1, (NC q hq).2.1, ?_⟩
        cases e : (gh s.heap small).get? q.1 with
        | none => rfl
        | some o => have := of_hideAll _ e; rw [(NC q hq).2.2] at this; cases this
      · exact ⟨hk₁ _ _ (hs q hq), Nat.ne_of_lt (Heap.lt_size (hs q hq)), hideAll_none _ (List.mem_map_of_mem hq)⟩)
    Y (fun q hq => Heap.lt_size (hs q hq))
  rw [← eA] at W
  refine wpAny_mono W (fun fl s' hdn => ?_) fun _ _ x => x.elim
  obtain ⟨L', m', h', tk', small', rfl, F', N', hp⟩ := hdn
  exact ret _ small' h' tk' F'.keep (fun q hq => ⟨(N' q hq).1, (N' q hq).2.2⟩) hp

/-- a lambda without free names, as a function object of the ledger -/
def BodyE (f : Addr) (D : Nat) (small : Led) (post : Value → Led → Prop) (qual : Str) (scope : Scope) (cdv : Value) (body : Expr) (mm : Str → Option Value) : Prop :=
  ∀ (w : World) (p : Program) (loose : List Str) (mean : ExcName → Option Value) (mg mb : Str → Option Value)
    (dp un : Nat) (gd : Option (List Code)) (fr : List Env) (base g : Heap) (L : Addr) (s : Shared) (h : Heap) (tk : Nat),
    dp + D < recursionLimit → un + 16 * D < cLine →
    Below (tp dp un gd fr) base fr g → (hd.heap_39 w.params).In g → Top p loose mean mg mb g → CodeHd base 191 187 → CodeHd base 203 201 →
    Fr g L h mm → News g L h small → (∀ q ∈ small, q.1 < L) →
    wpAny (model PySem.Challenge.rw_nn0114_01.row.prog w) ((tp dp un gd fr).deeper (envX qual scope L f cdv [])) (eval body (envX qual scope L f cdv []))
      (fun v s' => Done g post s v s') (fun _ _ => False) { s with heap := h, toks := tk }

theorem con_lam {f c' : Addr} {vs : List Value} {D : Nat} {post : Value → Led → Prop} {name qual : Str} {params : Arguments} {body : Expr} {scope : Scope} {pm ctv : Value} {oc : Obj} {cvs : Array Value} {t : Tok} {binds : List (Str × Value)}
    (hoc : oc.data = .fields cvs) (hcv : cvs[1]? = some (.str qual t))
    (hbind : bindArgs (kla_fn name qual params body scope [] pm (.ref c') ctv) ⟨vs, []⟩ = pure binds)
    (hloc : ∀ y ∈ binds, scope.names.lookup y.1 = some .local) (hcell : ∀ x ∈ scope.names, x.2 ≠ .cell) (hco : scope.isCoroutine = false) (hgen : scope.isGenerator = false) (hk : scope.kind = .function)
    (hb : BodyE f D [(f, kla_obj name qual params body scope [] pm c' ctv), (c', oc)] post qual scope (.ref c') body (fun y => binds.reverse.lookup y)) :
    Con f vs D [(f, kla_obj name qual params body scope [] pm c' ctv), (c', oc)] post := by
  intro w p loose mean mg mb A fr base s Q E hh hdp hu B X T c1 c2 hpre hs ret
  refine wpAny_call ?_
  have st : (gh s.heap [(f, kla_obj name qual params body scope [] pm c' ctv), (c', oc)]).StaysIn s.heap := fun b o e => of_hideAll _ e
  refine kla_callFunE (by omega) (hs _ (.head _)) rfl hco hgen rfl ⟨c', oc, cvs, t, rfl, hs (c', oc) (.tail _ (.head _)), hoc, hcv⟩ ?_
  rw [hbind]
  refine wpAny_pure (wpAny_newFunctionEnv hcell hloc (fun h₁ hns hsb => ⟨((T.nolimit).keeps st).fresh _ hsb, ?_⟩) hk)
  have hk₁ : ∀ b o, s.heap.get? b = some o → h₁.get? b = some o := fun b o e => hsb.extBut b o (Nat.ne_of_lt (Heap.lt_size e)) (Heap.get?_push_of_some _ e)
  have eA := around_eta hh B.stack
  have W := hb w p loose mean mg mb A.depth A.units A.guards fr base (gh s.heap [(f, kla_obj name qual params body scope [] pm c' ctv), (c', oc)]) s.heap.objs.size s h₁ (s.toks + binds.length) (by omega) (by omega) (eA ▸ B) X T c1 c2
    ⟨hns, fun b o e => hk₁ b o (of_hideAll _ e), Nat.le_of_eq (hideAll_size _ _)⟩
    (fun q hq => ⟨hk₁ _ _ (hs q hq), Nat.ne_of_lt (Heap.lt_size (hs q hq)), hideAll_none _ (List.mem_map_of_mem hq)⟩)
    (fun q hq => Heap.lt_size (hs q hq))
  rw [← eA] at W
  refine kla_codeExpr (wpAny_mono W (fun v s' hdn => ?_) fun _ _ x => x.elim)
  obtain ⟨L', m', h', tk', small', rfl, F', N', hp⟩ := hdn
  exact ret _ small' h' tk' F'.keep (fun q hq => ⟨(N' q hq).1, (N' q hq).2.2⟩) hp
set_option maxHeartbeats 1600000 in
theorem law_run {f : Addr} {D : Nat} {small : Led} {p : Int → Bool} (hf : ∀ (c : Int) (t : Tok), 0 ≤ c → c < 256 → Con f [.int c t] D small (fun r l => r = .bool (p c) ∧ l = small)) (hpk : Picks small small []) (hfn : ∀ (w : World) (h : Heap), (hd.heap_39 w.params).In h → (∀ q ∈ small, h.get? q.1 = some q.2) → FnAt f h)
    {b : Array UInt8} {bt it : Tok} {ks : List Int} {i : Int} (hb : KBw.bInts b = ks) (h0 : 0 ≤ i) (hi : i ≤ ks.length) (hz : ks.length < 1000) :
    Con 178 [.bytes b bt, .int i it, .ref f] (D + 1) small (fun r l => isInt r (runTo p ks i) ∧ l = small) := by
  ktr_rel
  intro w w p' loose mean mg mb dp un gd fr base g L s h tk hdp hun B X T c1 c2 hpre F N hlt
  k_fold
  k_steps
  (rename Fr _ _ _ _ => F0)
  (rename News _ _ _ _ => N0)
  refine' While_inv2 (fun n m nx => nx = small ∧ ∃ j t, m "octets" = some (.bytes b bt) ∧ m "here" = some (.int j t) ∧ m "wanted" = some (.ref f) ∧ i ≤ j ∧ j ≤ ks.length ∧ n = ((ks.length : Int) - j).toNat ∧ runTo p ks j = runTo p ks i) F0 N0 ?hJ ?turn ?hE
  case hJ => exact ⟨rfl, i, _, rfl, rfl, rfl, Int.le_refl _, hi, rfl, rfl⟩
  case hE => exact PassesOwn.never
  case turn =>
    rintro n m₁ nx h tk F1 N1 ⟨rfl, j, t, e1, e2, e3, hj1, hj2, rfl, hW⟩
    clear F0 N0
    replace F1 := fr_names0 [(Str.ofString "octets", .bytes b bt), (Str.ofString "here", .int j t), (Str.ofString "wanted", .ref f)] ⟨e1, e2, e3, trivial⟩ F1
    (with_reducible show wpAny _ _ _ _ _ _)
    k_steps
    · dsimp only
      refine callWith_F (hfn w _ (Frag.In.keeps X F1.keep) (fun q hq => (N1 q hq).1)) ?_
      k_steps
      · exact hfn w _ (Frag.In.keeps X F1.keep) (fun q hq => (N1 q hq).1)
      · refine' use1 (hf _ _ ?lo ?hi) B F1 X N1 T c1 c2 rfl rfl ?hd ?hu hpk (fun _ _ => trivial) ?_
        case lo => k_asm
        case hi => k_asm
        case hd => omega
        case hu => omega
        intro r9 s9 h9 tk9 F9 N9 A9 p9
        obtain ⟨e9, e9'⟩ := p9
        subst e9; subst e9'; clear A9 F1 N1
        rw [List.append_nil] at N9
        k_steps
        · rename (p _ = true) => hst
          have hend : runTo p ks (j + 1) = runTo p ks j := runTo_go (by omega) (by omega) hst
          exact stepW _ (by k_asm) (by k_asm) (by omega) ⟨rfl, j + 1, _, rfl, rfl, rfl, by omega, by omega, rfl, hend.trans hW⟩
        · rename (p _ = false) => hst
          have hend : runTo p ks j = j := runTo_stop (by omega) (by omega) hst
          exact done_intro _ (by k_asm) (by k_asm) ⟨isInt_of (hend.symm.trans hW), rfl⟩
    · have hend : runTo p ks j = j := runTo_end (by omega)
      exact done_intro _ (by k_asm) (by k_asm) ⟨isInt_of (hend.symm.trans hW), rfl⟩
section
variable {prog : Program} {w : World} {A : Around} {E : Value → Shared → Prop} {s : Shared} {b : Array UInt8} {t : Tok} {Q : Value → Shared → Prop} {ks : List Int}
theorem in_tup_bytes {l : Addr} {c1 c2 : Array UInt8} {t1 t2 : Tok} (hl : s.heap.IsTuple l #[.bytes c1 t1, .bytes c2 t2]) (hb : KBw.bInts b = ks) (h : Q (.bool (KBw.bInts c1 == ks || KBw.bInts c2 == ks)) s) :
    wpAny (model prog w) A (compareOp .In (.bytes b t) (.ref l)) Q E s := by
  have e : ∀ c : Array UInt8, decide (c = b) = (KBw.bInts c == ks) := fun c => by
    rw [← hb, ← bInts_beq, Bool.eq_iff_iff, decide_eq_true_iff, beq_iff_eq, Array.toList_inj]
  refine PySem.SeqAt.in_tupleAt (fun v => match v with | .bytes c _ => decide (c.toList = b.toList) | _ => false) hl (fun y hy => ?_) ?_
  · rcases List.mem_cons.mp (Array.mem_toList_iff.mpr hy) with rfl | hy
    · exact fun prog w E Q h => eqBool_bytes h
    · rw [List.mem_singleton.mp hy]
      exact fun prog w E Q h => eqBool_bytes h
  · simpa [e] using h
theorem sl_two {i : Int} {ks : List Int} (h0 : 0 ≤ i) : sl ks i (i + 2) = (if i < ks.length then (if i + 1 < ks.length then [ks.getD i.toNat 0, ks.getD (i + 1).toNat 0] else [ks.getD i.toNat 0]) else []) := by
  unfold sl
  have e : (i + 2).toNat - i.toNat = 2 := by omega
  rw [e]
  split
  · rename_i h1
    rw [drop_cons_at h0 h1]
    split
    · rename_i h2
      rw [drop_cons_at (by omega) h2]
      rfl
    · rw [List.drop_of_length_le (by omega)]
      rfl
  · rw [List.drop_of_length_le (by omega)]
    rfl
theorem sl_one {i : Int} {ks : List Int} (h0 : 0 ≤ i) : sl ks i (i + 1) = (if i < ks.length then [ks.getD i.toNat 0] else []) := by
  unfold sl
  have e : (i + 1).toNat - i.toNat = 1 := by omega
  rw [e]
  split
  · rename_i h1
    rw [drop_cons_at h0 h1]
    rfl
  · rw [List.drop_of_length_le (by omega)]
    rfl
theorem eol_val {i : Int} {ks : List Int} (h0 : 0 ≤ i) : eolTo ks ks.length i = if (sl ks i (i + 2) == [13, 10]) = true then i + 2 else if (([13] : List Int) == sl ks i (i + 1) || ([10] : List Int) == sl ks i (i + 1)) = true then i + 1 else i := by
  rw [sl_two h0, sl_one h0]
  unfold eolTo peekV
  generalize ks.getD i.toNat 0 = c
  generalize ks.getD (i + 1).toNat 0 = d
  by_cases h1 : i < ks.length
  · by_cases h2 : i + 1 < ks.length
    · by_cases hc : c = 13
      · subst hc
        by_cases hd : d = 10
        · subst hd; simp [h1, h2]
        · simp [h1, h2, hd]
      · by_cases hc2 : c = 10
        · subst hc2; simp [h1, h2]
        · simp [h1, h2, hc, hc2, Ne.symm hc, Ne.symm hc2]
    · by_cases hc : c = 13
      · subst hc; simp [h1, h2]
      · by_cases hc2 : c = 10
        · subst hc2; simp [h1, h2]
        · simp [h1, h2, hc, hc2, Ne.symm hc, Ne.symm hc2]
  · have h2 : ¬ i + 1 < ks.length := by omega
    simp [h1]
end
theorem kw37_eol_0 : True := by
  k_with "compareOp In bytes ref" => (k_here; (with_reducible show wpAny _ _ (compareOp CmpOp.In (Value.bytes _ _) (Value.ref _)) _ _ _); k_dflt (refine in_tup_bytes (by first | exact ⟨_, (by k_asm : News _ _ _ _) _ (by k_mem) |>.1, rfl, _, rfl⟩ | fail "no") (by assumption) ?_; k_whole))
  trivial
set_option maxHeartbeats 1600000 in
theorem law_eol {b : Array UInt8} {bt it : Tok} {ks : List Int} {i : Int} (hb : KBw.bInts b = ks) (h0 : 0 ≤ i) (hi : i ≤ ks.length) (hz : ks.length < 1000) :
    Con 185 [.bytes b bt, .int i it] 1 [] (fun r l => isInt r (eolTo ks ks.length i) ∧ l = []) := by
  ktr_rel
  intro w w p loose mean mg mb dp un gd fr base g L s h tk hdp hun B X T c1 c2 hpre F N hlt
  k_fold
  k_steps
  all_goals rename (KBw.bInts _ = sl ks i (i + 2)) => hb2
  · rename ((Array.toList _ == Array.toList _) = true) => hst
    rw [bInts_beq, hb2] at hst
    exact done_sub [] (by k_asm) (by k_asm) (List.forall_mem_nil _) ⟨isInt_of (by rw [eol_val h0, if_pos (show (sl ks i (i + 2) == [13, 10]) = true from hst)]), rfl⟩
  all_goals
    rename ((Array.toList _ == Array.toList _) = false) => hst
    rw [bInts_beq, hb2] at hst
    have hst' : ¬ (sl ks i (i + 2) == [13, 10]) = true := by rw [show (sl ks i (i + 2) == [13, 10]) = false from hst]; exact Bool.false_ne_true
  · rename ((_ || _) = true) => hs3
    exact done_sub [] (by k_asm) (by k_asm) (List.forall_mem_nil _) ⟨isInt_of (by rw [eol_val h0, if_neg hst', if_pos (show (([13] : List Int) == sl ks i (i + 1) || ([10] : List Int) == sl ks i (i + 1)) = true from hs3)]), rfl⟩
  · rename ((_ || _) = false) => hs3
    exact done_sub [] (by k_asm) (by k_asm) (List.forall_mem_nil _) ⟨isInt_of (by rw [eol_val h0, if_neg hst', if_neg (by rw [show (([13] : List Int) == sl ks i (i + 1) || ([10] : List Int) == sl ks i (i + 1)) = false from hs3]; exact Bool.false_ne_true)]), rfl⟩
theorem kw37_eol : True := by
  k_with "call ref" => (k_here; (with_reducible show wpAny _ _ (call (Value.ref 185) [Value.bytes _ _, Value.int _ _]) _ _ _); k_dflt (refine usen (by k_asm) (by k_asm) (by k_asm) (by k_asm) (by k_asm) (by k_asm) (by k_asm) (by first | exact rfl | fail "no") (by first | exact rfl | fail "no") (by first | exact rfl | fail "no") (by first | exact rfl | fail "no") (by k_upd) (fun _ _ => trivial) (law_eol (by k_asm) (by omega) (by omega) (by omega)) (by first | exact room1 (by with_reducible assumption) (by rfl) | k_room | omega) (by first | exact units1 (by with_reducible assumption) (by rfl) | k_units | (with_unfolding_all exact Nat.le_of_ble_eq_true rfl) | omega) (post_int ?_); intro zt zh zk zF zN; (try dsimp only [List.cons_append, List.nil_append] at zN); (try k_sweep)))
  trivial
theorem fnAt_of {f : Addr} {K : Frag} {h : Heap} {oc : Value} {od : Option Addr} {fd : FuncData} {sl : Array (Option Value)} (X : K.In h) (e : K.lookup f = some ⟨oc, od, .func fd, sl⟩) : FnAt f h := ⟨oc, od, fd, sl, X _ _ e⟩
theorem run_lam {f c' : Addr} {D : Nat} {name qual : Str} {params : Arguments} {body : Expr} {scope : Scope} {pm ctv : Value} {oc : Obj} {cvs : Array Value} {t : Tok} {binds : Int → Tok → List (Str × Value)} {p : Int → Bool}
    {b : Array UInt8} {bt it : Tok} {ks : List Int} {i : Int}
    (hoc : oc.data = .fields cvs) (hcv : cvs[1]? = some (.str qual t)) (hne : @Ne Nat f c') (hbk : KBw.bInts b = ks) (h0 : 0 ≤ i) (hi : i ≤ ks.length) (hz : ks.length < 1000)
    (hbind : ∀ c u, bindArgs (kla_fn name qual params body scope [] pm (.ref c') ctv) ⟨[.int c u], []⟩ = pure (binds c u))
    (hloc : ∀ c u, ∀ y ∈ binds c u, scope.names.lookup y.1 = some .local) (hcell : ∀ x ∈ scope.names, x.2 ≠ .cell) (hco : scope.isCoroutine = false) (hgen : scope.isGenerator = false) (hk : scope.kind = .function)
    (hb : ∀ c u, 0 ≤ c → c < 256 → BodyE f D [(f, kla_obj name qual params body scope [] pm c' ctv), (c', oc)] (fun r l => r = .bool (p c) ∧ l = [(f, kla_obj name qual params body scope [] pm c' ctv), (c', oc)]) qual scope (.ref c') body (fun y => (binds c u).reverse.lookup y)) :
    Con 178 [.bytes b bt, .int i it, .ref f] (D + 1) [(f, kla_obj name qual params body scope [] pm c' ctv), (c', oc)] (fun r l => isInt r (runTo p ks i) ∧ l = [(f, kla_obj name qual params body scope [] pm c' ctv), (c', oc)]) :=
  law_run (fun c u h0 h1 => con_lam hoc hcv (hbind c u) (hloc c u) hcell hco hgen hk (hb c u h0 h1))
    (.cons (.head fun q hq => by rw [List.mem_singleton.mp hq]; exact hne.symm) (.cons (.head fun q hq => nomatch hq) .nil))
    (fun w h X hs => ⟨_, _, _, _, hs _ (.head _)⟩) hbk h0 hi hz
theorem run_reg {b : Array UInt8} {bt it : Tok} {ks : List Int} {i : Int} (hbk : KBw.bInts b = ks) (h0 : 0 ≤ i) (hi : i ≤ ks.length) (hz : ks.length < 1000) :
    Con 178 [.bytes b bt, .int i it, .ref 199] 2 [] (fun r l => isInt r (runTo reg2B ks i) ∧ l = []) :=
  law_run (fun c u _ _ => law_is_regular) .nil (fun w h X _ => fnAt_of X (by k_dflt k_is)) hbk h0 hi hz
theorem notEol_a {c : Int} (h : c ≠ 13) : Value.bool (c != 10) = .bool (notEol c) := congrArg Value.bool (by unfold notEol; rw [Bool.eq_iff_iff]; simp; omega)
theorem notEol_b {c : Int} (h : c = 13) : Value.bool (c != 13) = .bool (notEol c) := by subst h; rfl
theorem figB_a {c : Int} (h : 48 ≤ c) : Value.bool (decide (c ≤ 57)) = .bool (figB c) := congrArg Value.bool (by unfold figB; rw [decide_eq_true h]; rfl)
theorem figB_b {c : Int} (h : ¬ 48 ≤ c) : Value.bool (decide (48 ≤ c)) = .bool (figB c) := congrArg Value.bool (by unfold figB; rw [decide_eq_false h]; rfl)
theorem kw38_lam : True := by
  k_with "call ref" => (k_here; (with_reducible show wpAny _ _ (call (Value.ref 178) [Value.bytes _ _, Value.int _ _, Value.ref _]) _ _ _); k_dflt (refine usen (by k_asm) (by k_asm) (by k_asm) (by k_asm) (by k_asm) (by k_asm) (by k_asm) (by first | exact rfl | fail "no") (by first | exact rfl | fail "no") (by first | exact rfl | fail "no") (by first | exact rfl | fail "no") (by k_upd) (fun _ _ => trivial) (run_lam (D := 1) (p := figB) (by k_asm) (by k_asm) (by k_ne) (by k_asm) (by omega) (by omega) (by omega) (by first | exact fun _ _ => rfl | fail "no") (by first | exact fun _ _ => locs rfl | fail "no") (by decide) (by first | exact rfl | fail "no") (by first | exact rfl | fail "no") (by first | exact rfl | fail "no") (by first | (intro c9 u9 lo9 hi9; unfold BodyE; intro w9 p9 lo9 me9 mg9 mb9 dp9 un9 gd9 fr9 ba9 g9 L9 s9 h9 tk9 hdp9 hun9 B9 X9 T9 c19 c29 F9 N9 hl9; (try dsimp only); k_steps <;> first | exact done_intro _ (by k_asm) (by k_asm) ⟨figB_a (by assumption), rfl⟩ | exact done_intro _ (by k_asm) (by k_asm) ⟨figB_b (by assumption), rfl⟩) | fail "no")) (by first | exact room1 (by with_reducible assumption) (by rfl) | k_room | omega) (by first | exact units1 (by with_reducible assumption) (by rfl) | k_units | (with_unfolding_all exact Nat.le_of_ble_eq_true rfl) | omega) (post_int ?_); intro zt zh zk zF zN; (try dsimp only [List.cons_append, List.nil_append] at zN); (try k_sweep)))
  k_with "call ref" => (k_here; (with_reducible show wpAny _ _ (call (Value.ref 178) [Value.bytes _ _, Value.int _ _, Value.ref _]) _ _ _); k_dflt (refine usen (by k_asm) (by k_asm) (by k_asm) (by k_asm) (by k_asm) (by k_asm) (by k_asm) (by first | exact rfl | fail "no") (by first | exact rfl | fail "no") (by first | exact rfl | fail "no") (by first | exact rfl | fail "no") (by k_upd) (fun _ _ => trivial) (run_lam (D := 1) (p := notEol) (by k_asm) (by k_asm) (by k_ne) (by k_asm) (by omega) (by omega) (by omega) (by first | exact fun _ _ => rfl | fail "no") (by first | exact fun _ _ => locs rfl | fail "no") (by decide) (by first | exact rfl | fail "no") (by first | exact rfl | fail "no") (by first | exact rfl | fail "no") (by first | (intro c9 u9 lo9 hi9; unfold BodyE; intro w9 p9 lo9 me9 mg9 mb9 dp9 un9 gd9 fr9 ba9 g9 L9 s9 h9 tk9 hdp9 hun9 B9 X9 T9 c19 c29 F9 N9 hl9; (try dsimp only); k_steps <;> first | exact done_intro _ (by k_asm) (by k_asm) ⟨notEol_a (by assumption), rfl⟩ | exact done_intro _ (by k_asm) (by k_asm) ⟨notEol_b (by assumption), rfl⟩) | fail "no")) (by first | exact room1 (by with_reducible assumption) (by rfl) | k_room | omega) (by first | exact units1 (by with_reducible assumption) (by rfl) | k_units | (with_unfolding_all exact Nat.le_of_ble_eq_true rfl) | omega) (post_int ?_); intro zt zh zk zF zN; (try dsimp only [List.cons_append, List.nil_append] at zN); (try k_sweep)))
  k_with "call ref" => (k_here; (with_reducible show wpAny _ _ (call (Value.ref 178) [Value.bytes _ _, Value.int _ _, Value.ref 199]) _ _ _); k_dflt (refine usen (by k_asm) (by k_asm) (by k_asm) (by k_asm) (by k_asm) (by k_asm) (by k_asm) (by first | exact rfl | fail "no") (by first | exact rfl | fail "no") (by first | exact rfl | fail "no") (by first | exact rfl | fail "no") (by k_upd) (fun _ _ => trivial) (run_reg (by k_asm) (by omega) (by omega) (by omega)) (by first | exact room1 (by with_reducible assumption) (by rfl) | k_room | omega) (by first | exact units1 (by with_reducible assumption) (by rfl) | k_units | (with_unfolding_all exact Nat.le_of_ble_eq_true rfl) | omega) (post_int ?_); intro zt zh zk zF zN; (try dsimp only [List.cons_append, List.nil_append] at zN); (try k_sweep)))
  trivial
/-- a function's code object with a qualified name -/
def codeOk (od : Obj) (qual : PySem.Str) : Prop := ∃ cvs t, od.data = .fields cvs ∧ cvs[1]? = some (.str qual t)
/-- the ledger of the table behind white: empty, or filled -/
inductive WT : Led → Prop
  | no : WT [(187, tabObj #[])]
  | yes {d : Addr} {od : Obj} : @Ne Nat d 187 → codeOk od (Str.ofString "_law_behind_white.<locals>.<lambda>") → WT [(187, tabObj #[rawInt 129, rawInt 42, .ref d]), (d, od)]
theorem stepWs {h₀ h' : Heap} {L : Addr} {s : Shared} {J : Nat → (PySem.Str → Option Value) → Led → Prop} {Q : Flow → Shared → Prop} {n : Nat} {m' : PySem.Str → Option Value} {news nx : Led} {tk : Nat} (n' : Nat)
    (F : Fr h₀ L h' m') (N : News h₀ L h' news) (hs : ∀ q ∈ nx, q ∈ news) (hn : n' < n) (hj : J n' m' nx) : WhileStep2 h₀ L s J Q n .next { s with heap := h', toks := tk } :=
  ⟨h', tk, m', nx, n', rfl, F, fun q hq => N q (hs q hq), hn, hj⟩
local macro_rules | `(tactic| k_upd) => `(tactic| exact List.forall_mem_nil _)
local macro_rules | `(tactic| k_upd) => `(tactic| (refine List.forall_mem_cons.mpr ⟨?_, ?_⟩; k_dflt k_mem; k_upd))
set_option maxHeartbeats 1600000 in
theorem law_white {W : Led} {b : Array UInt8} {bt it : Tok} {ks : List Int} {i : Int} (hWT : WT W) (hb : KBw.bInts b = ks) (h0 : 0 ≤ i) (hi : i ≤ ks.length) (hz : ks.length < 1000) :
    Con 192 [.bytes b bt, .int i it] 4 W (fun r l => ∃ j, isInt r j ∧ WTo ks i j ∧ j ≤ ks.length ∧ WT l) := by
  ktr_rel
  intro w w p loose mean mg mb dp un gd fr base g L s h tk hdp hun B X Tp c1 c2 hpre F N hlt
  k_fold
  k_steps
  (rename Fr _ _ _ _ => F0)
  (rename News _ _ _ _ => N0)
  refine' While_inv2 (fun n m nx => ∃ W j t, nx = W ∧ WT W ∧ m "octets" = some (.bytes b bt) ∧ m "here" = some (.int j t) ∧ i ≤ j ∧ j ≤ ks.length ∧ n = ((ks.length : Int) - j).toNat ∧ ∀ k, WTo ks j k → WTo ks i k) F0 N0 ?hJ ?turn ?hE
  case hJ => exact ⟨_, i, _, rfl, hWT, rfl, rfl, Int.le_refl _, hi, rfl, fun _ h => h⟩
  case hE => exact PassesOwn.never
  case turn =>
    rintro n m₁ nx h tk F1 N1 ⟨W1, j, t, rfl, hT1, e1, e2, hj1, hj2, rfl, hW⟩
    clear F0 N0 hlt hWT
    replace F1 := fr_names0 [(Str.ofString "octets", .bytes b bt), (Str.ofString "here", .int j t)] ⟨e1, e2, trivial⟩ F1
    rcases hT1 with _ | @⟨d1, od1, hd1, hc1⟩
    · (with_reducible show wpAny _ _ _ _ _ _)
      k_steps
      · rename (List.any _ _ = true) => hw
        rename (_ = (37 : Int)) => h37
        exact absurd h37 (white37 hw)
      · rename (List.any _ _ = true) => hw
        exact stepWs _ (by k_asm) (by k_asm) (by k_upd) (by omega) ⟨[(187, _)], j + 1, _, rfl, .no, rfl, rfl, by omega, by omega, rfl, fun k hk => hW k (.white (by omega) hw hk)⟩
      · rename (_ = (37 : Int)) => h37
        have hgo : runTo notEol ks (j + 1) = runTo notEol ks j := runTo_go (by omega) (by omega) (by rw [h37]; rfl)
        have hge := runTo_ge notEol ks (j + 1)
        have hle : runTo notEol ks j ≤ ks.length := runTo_le (by omega) (by omega)
        rename (Obj.data _ = Data.fields _) => hq1; rename (_[_]? = some _) => hq2; exact stepWs _ (by k_asm) (by k_asm) (by k_upd) (by omega) ⟨[(187, _), (_, _)], runTo notEol ks j, _, rfl, .yes (by omega) ⟨_, _, hq1, hq2⟩, rfl, rfl, by omega, by omega, rfl, fun k hk => hW k (.note (by omega) h37 hk)⟩
      · rename (List.any _ _ = false) => hw
        exact done_sub [(187, _)] (by k_asm) (by k_asm) (by k_upd) ⟨j, isInt_of rfl, hW _ (.stop fun _ => ⟨by assumption, hw⟩), by omega, .no⟩
      · exact done_sub [(187, _)] (by k_asm) (by k_asm) (by k_upd) ⟨j, isInt_of rfl, hW _ (.stop fun _ => by omega), by omega, .no⟩
    · obtain ⟨cvs, tt, ho1, ho2⟩ := id hc1
      (with_reducible show wpAny _ _ _ _ _ _)
      k_steps
      · rename (List.any _ _ = true) => hw
        rename (_ = (37 : Int)) => h37
        exact absurd h37 (white37 hw)
      · rename (List.any _ _ = true) => hw
        exact stepWs _ (by k_asm) (by k_asm) (by k_upd) (by omega) ⟨[(187, _), (d1, od1)], j + 1, _, rfl, .yes hd1 hc1, rfl, rfl, by omega, by omega, rfl, fun k hk => hW k (.white (by omega) hw hk)⟩
      · rename (_ = (37 : Int)) => h37
        have hgo : runTo notEol ks (j + 1) = runTo notEol ks j := runTo_go (by omega) (by omega) (by rw [h37]; rfl)
        have hge := runTo_ge notEol ks (j + 1)
        have hle : runTo notEol ks j ≤ ks.length := runTo_le (by omega) (by omega)
        exact stepWs _ (by k_asm) (by k_asm) (by k_upd) (by omega) ⟨[(187, _), (d1, od1)], runTo notEol ks j, _, rfl, .yes hd1 hc1, rfl, rfl, by omega, by omega, rfl, fun k hk => hW k (.note (by omega) h37 hk)⟩
      · rename (List.any _ _ = false) => hw
        exact done_sub [(187, _), (d1, od1)] (by k_asm) (by k_asm) (by k_upd) ⟨j, isInt_of rfl, hW _ (.stop fun _ => ⟨by assumption, hw⟩), by omega, .yes hd1 hc1⟩
      · exact done_sub [(187, _), (d1, od1)] (by k_asm) (by k_asm) (by k_upd) ⟨j, isInt_of rfl, hW _ (.stop fun _ => by omega), by omega, .yes hd1 hc1⟩
/-- an address apart from those of a ledger -/
noncomputable def AllNeN (d : Addr) : Led → Prop
  | [] => True
  | p :: r => @Ne Nat d p.1 ∧ AllNeN d r
theorem allNe_of {d : Addr} : ∀ {l : Led}, (∀ p ∈ l, d ≠ p.1) → AllNeN d l
  | [], _ => trivial
  | p :: _, h => ⟨h p (.head _), allNe_of fun q hq => h q (.tail _ hq)⟩
theorem post_bwhite {K : Value → Led → Prop} {ks : List Int} {i n : Int} (h1 : ∀ j t, WTo ks i j → j ≤ n → K (.int j t) [(187, tabObj #[])])
    (h2 : ∀ j t (d : Addr) od, WTo ks i j → j ≤ n → @Ne Nat d 187 → codeOk od (Str.ofString "_law_behind_white.<locals>.<lambda>") → K (.int j t) [(187, tabObj #[rawInt 129, rawInt 42, .ref d]), (d, od)]) :
    ∀ r l, (∃ j, isInt r j ∧ WTo ks i j ∧ j ≤ n ∧ WT l) → K r l := by
  rintro _ _ ⟨j, ⟨t, rfl⟩, hW, hj, _ | @⟨d, od, hn, hc⟩⟩
  · exact h1 j t hW hj
  · exact h2 j t d od hW hj hn hc
theorem kw40_bwhite : True := by
  k_with "call ref" => (k_here; (with_reducible show wpAny _ _ (call (Value.ref 192) [Value.bytes _ _, Value.int _ _]) _ _ _); k_dflt (refine usek (by k_asm) (by k_asm) (by k_asm) (by k_asm) (by k_asm) (by k_asm) (by k_asm) (by first | exact rfl | fail "no") (by first | exact rfl | fail "no") (by first | exact rfl | fail "no") (by first | exact rfl | fail "no") (by k_upd) (fun _ _ => trivial) (law_white (.yes (by omega) (by k_asm)) (by k_asm) (by omega) (by omega) (by omega)) (by first | exact room1 (by with_reducible assumption) (by rfl) | k_room | omega) (by first | exact units1 (by with_reducible assumption) (by rfl) | k_units | (with_unfolding_all exact Nat.le_of_ble_eq_true rfl) | omega) (post_bwhite ?_ ?_); intro zj zt zW zjl zh zk zF zN zA0; clear zA0; (try dsimp only [List.cons_append, List.nil_append] at zN); (try k_sweep); rotate_left; intro zj zt zd zod zW zjl zn zc zh zk zF zN zA0; (have zA := allNe_of (zA0 _ (.tail _ (.head _)))); (simp only [AllNeN] at zA); clear zA0; (try dsimp only [List.cons_append, List.nil_append] at zN); (try k_sweep); rotate_left))
  k_with "call ref" => (k_here; (with_reducible show wpAny _ _ (call (Value.ref 192) [Value.bytes _ _, Value.int _ _]) _ _ _); k_dflt (refine usek (by k_asm) (by k_asm) (by k_asm) (by k_asm) (by k_asm) (by k_asm) (by k_asm) (by first | exact rfl | fail "no") (by first | exact rfl | fail "no") (by first | exact rfl | fail "no") (by first | exact rfl | fail "no") (by k_upd) (fun _ _ => trivial) (law_white .no (by k_asm) (by omega) (by omega) (by omega)) (by first | exact room1 (by with_reducible assumption) (by rfl) | k_room | omega) (by first | exact units1 (by with_reducible assumption) (by rfl) | k_units | (with_unfolding_all exact Nat.le_of_ble_eq_true rfl) | omega) (post_bwhite ?_ ?_); intro zj zt zW zjl zh zk zF zN zA0; clear zA0; (try dsimp only [List.cons_append, List.nil_append] at zN); (try k_sweep); rotate_left; intro zj zt zd zod zW zjl zn zc zh zk zF zN zA0; (have zA := allNe_of (zA0 _ (.tail _ (.head _)))); (simp only [AllNeN] at zA); clear zA0; (try dsimp only [List.cons_append, List.nil_append] at zN); (try k_sweep); rotate_left))
  trivial
section
variable {prog : Program} {w : World} {A : Around} {h₀ : Heap} {L : Addr} {m : PySem.Str → Option Value} {env : Env} {elt : Expr} {x : PySem.Str} {scope : Scope} {cl : List (PySem.Str × Addr)} {s : Shared} {S : Led → Prop} {P : Nat → Value → Prop} {Fin : List Value → Led → Prop} {news : Led}
/-- the turns of a list comprehension by an invariant over what is made and the ledger -/
theorem comp_inv {n : Nat} (J : Nat → List Value → Led → Prop) (hj : J 0 [] news)
    (turn : ∀ i v I oI C oC D m₂ ys nx h tk (E' : Value → Shared → Prop), i < n → P i v → LCg.NsObj oC m₂ → m₂ x = some v → J i ys nx → Fr h₀ L h m → News h₀ L h ((I, oI) :: (C, oC) :: (D, LCg.lst ys) :: nx) → LCg.Off3 I C D nx → ((@Ne Nat I C) ∧ (@Ne Nat I D) ∧ (@Ne Nat C D)) →
      wpAny (model prog w) A (eval elt (compEnvC scope cl C env)) (LCg.CompEnd h₀ L m { s with heap := h, toks := tk } I oI C oC D (LCg.lst ys) S (fun y news' => J (i + 1) (ys ++ [y]) news')) E' { s with heap := h, toks := tk })
    (fin : ∀ ys nx, J n ys nx → Fin ys nx) : LCg.CompRest prog w A h₀ L m env elt x scope cl s S P Fin n 0 [] news := by
  have key : ∀ (j i : Nat) (ys : List Value) (nx : Led), i + j = n → J i ys nx → LCg.CompRest prog w A h₀ L m env elt x scope cl s S P Fin j i ys nx := by
    intro j
    induction j with
    | zero =>
      intro i ys nx hi hy
      have e : i = n := by omega
      subst e
      exact LCg.CompRest.zero (fin ys nx hy)
    | succ j ih =>
      intro i ys nx hi hy
      refine LCg.CompRest.succ ?_
      intro v I oI C oC D m₂ h tk E' hv hC hx F N off ne
      refine wpAny_mono (turn i v I oI C oC D m₂ ys nx h tk E' (by omega) hv hC hx hy F N off ne) (fun y s₂ hq => ?_) fun _ _ e => e
      obtain ⟨h', tk', nw, e, F', N', off', hS, hy'⟩ := hq
      exact ⟨h', tk', nw, e, F', N', off', hS, ih (i + 1) _ nw (by omega) hy'⟩
  exact key n 0 [] news (by omega) hj
end
section
variable {prog : Program} {w : World} {A : Around} {h₀ : Heap} {L : Addr} {m : PySem.Str → Option Value} {env : Env} {ct elt : Expr} {x : PySem.Str} {scope : Scope} {cl : List (PySem.Str × Addr)} {s : Shared} {S : Led → Prop} {P : Nat → Value → Prop} {Fin : List Value → Led → Prop} {news : Led} {E : Value → Shared → Prop}
/-- the turns of a list comprehension with a test, by an invariant -/
theorem comp_invT {n : Nat} (J : Nat → List Value → Led → Prop) (hj : J 0 [] news)
    (turn : ∀ i v I oI C oC D m₂ ys nx h tk (E' : Value → Shared → Prop), i < n → P i v → LCg.NsObj oC m₂ → m₂ x = some v → J i ys nx → Fr h₀ L h m → News h₀ L h ((I, oI) :: (C, oC) :: (D, LCg.lst ys) :: nx) → LCg.Off3 I C D nx → ((@Ne Nat I C) ∧ (@Ne Nat I D) ∧ (@Ne Nat C D)) →
      wpAny (model prog w) A (isTrue ct (compEnvC scope cl C env) (eval ct (compEnvC scope cl C env))) (fun ok s' => if ok = true then
        wpAny (model prog w) A (eval elt (compEnvC scope cl C env)) (LCg.CompEnd h₀ L m { s with heap := h, toks := tk } I oI C oC D (LCg.lst ys) S (fun y news' => J (i + 1) (ys ++ [y]) news')) E' s'
        else LCg.CompEnd h₀ L m { s with heap := h, toks := tk } I oI C oC D (LCg.lst ys) S (fun _ news' => J (i + 1) ys news') Value.none s') E' { s with heap := h, toks := tk })
    (fin : ∀ ys nx, J n ys nx → Fin ys nx) : LCt.CompRestT prog w A h₀ L m env ct elt x scope cl s S P Fin n 0 [] news := by
  have key : ∀ (j i : Nat) (ys : List Value) (nx : Led), i + j = n → J i ys nx → LCt.CompRestT prog w A h₀ L m env ct elt x scope cl s S P Fin j i ys nx := by
    intro j
    induction j with
    | zero =>
      intro i ys nx hi hy
      have e : i = n := by omega
      subst e
      exact LCt.CompRestT.zero (fin ys nx hy)
    | succ j ih =>
      intro i ys nx hi hy
      refine LCt.CompRestT.succ ?_
      intro v I oI C oC D m₂ h tk E' hv hC hx F N off ne
      refine wpAny_mono (turn i v I oI C oC D m₂ ys nx h tk E' (by omega) hv hC hx hy F N off ne) (fun ok s' hq => ?_) fun _ _ e => e
      cases ok with
      | true =>
        simp only [if_true] at hq ⊢
        refine wpAny_mono hq (fun y s₂ hq => ?_) fun _ _ e => e
        obtain ⟨h', tk', nw, e, F', N', off', hS, hy'⟩ := hq
        exact ⟨h', tk', nw, e, F', N', off', hS, ih (i + 1) _ nw (by omega) hy'⟩
      | false =>
        simp only [Bool.false_eq_true, if_false] at hq ⊢
        obtain ⟨h', tk', nw, e, F', N', off', hS, hy'⟩ := hq
        exact ⟨h', tk', nw, e, F', N', off', hS, ih (i + 1) _ nw (by omega) hy'⟩
  exact key n 0 [] news (by omega) hj

/-- bytes as a comprehension's source -/
def BSrc (prog : Program) (w : World) (A : Around) (h₀ : Heap) (L : Addr) (m : PySem.Str → Option Value) (env : Env) (elt : Expr) (x : PySem.Str) (scope : Scope) (cl : List (PySem.Str × Addr)) (Q : Value → Shared → Prop) (xv : Value) (s₁ : Shared) : Prop :=
  ∃ b t news, xv = .bytes b t ∧ A.handled = none ∧ Fr h₀ L s₁.heap m ∧ News h₀ L s₁.heap news ∧ b.size ≤ sizeLine ∧
      ∀ s₂ : Shared, (∃ h, s₂ = { s₁ with heap := h }) → LCg.CompRest prog w A h₀ L m env elt x scope cl s₂ (fun _ => True) (fun i v => ∃ (n : UInt8) (t : Tok), b[i]? = some n ∧ v = .int (n.toNat : Int) t) (LCg.FinE h₀ L m s₂ Q) b.size 0 [] news
theorem BSrc.intro {elt : Expr} {x : PySem.Str} {scope : Scope} {cl : List (PySem.Str × Addr)} {Q : Value → Shared → Prop} {b : Array UInt8} {t : Tok} {s₁ : Shared} {news : Led} (hh : A.handled = none) (F : Fr h₀ L s₁.heap m) (N : News h₀ L s₁.heap news) (hz : b.size ≤ sizeLine)
    (h : ∀ g, LCg.CompRest prog w A h₀ L m env elt x scope cl { s₁ with heap := g } (fun _ => True) (fun i v => ∃ (n : UInt8) (t : Tok), b[i]? = some n ∧ v = .int (n.toNat : Int) t) (LCg.FinE h₀ L m { s₁ with heap := g } Q) b.size 0 [] news) :
    BSrc prog w A h₀ L m env elt x scope cl Q (.bytes b t) s₁ := ⟨b, t, news, rfl, hh, F, N, hz, fun _ ⟨g, e⟩ => e ▸ h g⟩
/-- a list comprehension over bytes -/
theorem ListComp_B {elt iter : Expr} {x : PySem.Str} {px : Pos} {scope : Scope} {cl : List (PySem.Str × Addr)} {pos : Pos} {Q : Value → Shared → Prop} (F₀ : Fr h₀ L s.heap m)
    (hclos : closureFor scope env = pure cl) (hcell : ∀ y ∈ scope.names, y.2 ≠ .cell) (hkind : scope.kind = .function)
    (hnames : ∀ y ∈ scope.names, y.2 = .local → scope.names.lookup y.1 = some .local) (hx : scope.names.lookup x = some .local)
    (h : wpAny (model prog w) A (eval iter env) (BSrc prog w A h₀ L m env elt x scope cl Q) E s)
    (hs : ∀ x, foldedSetIterable iter env x = pure x := by intro _; rfl) :
    wpAny (model prog w) A (eval (.ListComp elt [⟨.Name x px, iter, [], 0⟩] scope pos) env) Q E s := by
  rw [eval_ListComp]
  refine wpAny_comprehension_free (use := none) rfl hs hclos hkind hnames (wpAny_mono h (fun xv s₁ h₁ => ?_) fun _ _ e => e)
  obtain ⟨b, t, news, rfl, hh, F, N, hsz, R⟩ := h₁
  refine KBw.pyIter_bytes ?_
  refine LCg.block_U (KBw.walks hh s₁.heap.objs.size b t) hsz (fun i h st => by obtain ⟨o, e, _⟩ := st; exact ⟨o, e⟩) (fun i h h' o nw st e e' _ _ _ => by obtain ⟨o', q, r⟩ := st; rw [e] at q; cases q; exact ⟨o, e', r⟩) hcell hkind hx ⟨_, Heap.get?_push_size _ rfl, rfl, rfl⟩ (fun b' hb => ?_)
    (F.keeps fun _ _ e => Heap.get?_push_of_some _ e) (N.grown fun _ _ e => Heap.get?_push_of_some _ e) (Nat.ne_of_lt F.ns.lt) (next_is_new F) (fun p hp => Nat.ne_of_lt (Heap.lt_size (N p hp).1)) trivial (R _ ⟨_, rfl⟩) ?_
  · rw [List.mem_singleton.mp hb]
    show _ < (s₁.heap.push _).objs.size
    rw [Heap.size_push]
    exact Nat.lt_succ_self _
  · intro D C h tk m' ys news' F' N' o1 hn hC₀ hD₀ hCL hDL hCD offC fin
    refine ⟨m', hn, fun h'' hs'' => fin D h'' tk (F'.change hs'' hCL hC₀) (fun p hp => ?_) o1⟩
    refine ⟨hs''.extBut _ _ ?_ (N' p hp).1, (N' p hp).2⟩
    rcases List.mem_cons.mp hp with rfl | hp
    · exact Ne.symm hCD
    · exact offC p hp
end
theorem ints_get : ∀ {vs : List Value} {ns : List Int}, IntsAre vs ns → ∀ {i : Nat}, i < ns.length → ∃ t, vs[i]? = some (.int (ns.getD i 0) t)
  | _, _, .cons n t _, 0, _ => ⟨t, rfl⟩
  | _, _, .cons n t r, i + 1, h => by
    obtain ⟨u, hu⟩ := ints_get r (i := i) (by simpa using h)
    exact ⟨u, by simpa using hu⟩
theorem sign_K {prog : Program} {w : World} {A : Around} {E : Value → Shared → Prop} {s : Shared} {value slice : Expr} {a : Addr} {vs : List Value} {ns : List Int} {k : Int} {u : Tok} {Q : Value → Shared → Prop} (ht : IsTup s.heap a vs.toArray) (hi : IntsAre vs ns)
    (h0 : 0 ≤ k) (h1 : k < ns.length) (hz : ns.length < 1000) (hr : ∀ n ∈ ns, 0 ≤ n ∧ n < 256) (h : ∀ n t, 0 ≤ n → n < 256 → Q (.int n t) s)
    (hs : subscripted slice false (.ref a) (.int k u) = operate [.ref a, .int k u] (getItem (.ref a) (.int k u)) := by with_unfolding_all rfl) :
    wpAny (model prog w) A (subscriptTail value slice (.ref a) (.int k u)) Q E s := by
  have hlt : k.toNat < ns.length := by omega
  obtain ⟨t, hx⟩ := ints_get hi hlt
  have hm : ns.getD k.toNat 0 ∈ ns := by
    have e : ns.getD k.toNat 0 = ns[k.toNat] := by simp [List.getD, hlt]
    rw [e]
    exact List.getElem_mem hlt
  have hj : seqIndex? k vs.length = some k.toNat := by
    unfold seqIndex?
    rw [hi.length]
    simp only [if_neg (show ¬ k < 0 by omega)]
    rw [if_pos (by simp; omega)]
  exact item_tupleT ht (by omega) (by omega) hj hx (h _ _ (hr _ hm).1 (hr _ hm).2) hs
theorem isPen.le {c c' : Int} {o : Obj} (h : isPen c o) (e : c ≤ c') : isPen c' o := by
  obtain ⟨n, k, t, u, z, a, b, d, f⟩ := h
  exact ⟨n, k, t, u, z, a, b, d, by omega⟩
theorem name2 {g h : Heap} {L a b : Addr} {oa ob : Obj} {r : Led} (_ : News g L h ((a, oa) :: (b, ob) :: r)) : ∃ b' : Addr, b' = b := ⟨b, rfl⟩
/-- n octets, as ints -/
def octs (its : Array Value) (n : Nat) : Prop := ∃ ns, IntsAre its.toList ns ∧ ns.length = n ∧ ∀ x ∈ ns, 0 ≤ x ∧ x < 256
theorem octs.size {its : Array Value} {n : Nat} (h : octs its n) : its.size = n := by
  obtain ⟨ns, a, b, _⟩ := h
  rw [← b, ← a.length, Array.length_toList]
theorem octs.nil : octs #[] 0 := ⟨[], .nil, rfl, fun x hx => nomatch hx⟩
theorem ints_snoc : ∀ {vs : List Value} {ns : List Int} (k : Int) (t : Tok), IntsAre vs ns → IntsAre (vs ++ [.int k t]) (ns ++ [k])
  | _, _, k, t, .nil => .cons k t .nil
  | _, _, k, t, .cons n u r => .cons n u (ints_snoc k t r)
theorem octs.push {its : Array Value} {n : Nat} {k : Int} {t : Tok} (h : octs its n) (h0 : 0 ≤ k) (h1 : k < 256) : octs (its.push (.int k t)) (n + 1) := by
  obtain ⟨ns, a, b, c⟩ := h
  refine ⟨ns ++ [k], ?_, by rw [List.length_append, b]; rfl, fun x hx => ?_⟩
  · rw [Array.toList_push]; exact ints_snoc k t a
  · rcases List.mem_append.mp hx with hx | hx
    · exact c x hx
    · rw [List.mem_singleton.mp hx]; exact ⟨h0, h1⟩
theorem octs.snoc {ys : List Value} {n : Nat} {k : Int} {t : Tok} (h : octs ys.toArray n) (h0 : 0 ≤ k) (h1 : k < 256) : octs (ys ++ [Value.int k t]).toArray (n + 1) := by
  have h2 := h.push (t := t) h0 h1
  rw [List.push_toArray] at h2
  exact h2
theorem octs.upto {its : Array Value} {n : Nat} {y : Int} (h : octs its n) (h0 : 0 ≤ y) : octs (slicePick its none (some y) none) (min y.toNat n) := by
  obtain ⟨ns, a, b, c⟩ := h
  refine ⟨ns.take y.toNat, ?_, by rw [List.length_take, b], fun x hx => c x (List.mem_of_mem_take hx)⟩
  have := slice_ints_uptoW a h0
  rwa [Array.toArray_toList] at this
theorem octs.from {its : Array Value} {n : Nat} {y : Int} (h : octs its n) (h0 : 0 ≤ y) : octs (slicePick its (some y) none none) (n - y.toNat) := by
  obtain ⟨ns, a, b, c⟩ := h
  refine ⟨ns.drop y.toNat, ?_, by rw [List.length_drop, b], fun x hx => c x (List.mem_of_mem_drop hx)⟩
  have := slice_ints_fromW a h0
  rwa [Array.toArray_toList] at this
section
variable {prog : Program} {w : World} {A : Around} {E : Value → Shared → Prop} {s : Shared} {h₀ : Heap} {L l b : Addr} {m : PySem.Str → Option Value} {news : Led} {its jts : Array Value} {n k x y : Nat} {Q : Value → Shared → Prop}
theorem oct_upto {value slice : PySem.Expr} {u : Tok} {y : Int} (F : Fr h₀ L s.heap m) (N : News h₀ L s.heap news) (m1 : (l, (⟨.type "list", none, .seq its x, #[]⟩ : Obj)) ∈ news) (o1 : octs its n) (h0 : 0 ≤ y) (hz : n ≤ 1000)
    (h : ∀ D c h', octs c (min y.toNat n) → Fr h₀ L h' m → News h₀ L h' ((D, listOf c 0) :: news) → (∀ q ∈ news, q.1 < D) → Q (.ref D) { s with heap := h' })
    (hs : subscripted slice false (.ref l) (.ref s.heap.objs.size) = operate [.ref s.heap.objs.size, .ref l] (getItem (.ref l) (.ref s.heap.objs.size)) := by with_unfolding_all rfl) (ht : ∀ r, letTemporaryGo value (.ref l) r = pure () := by intro _; with_unfolding_all rfl) :
    wpAny (model prog w) A (subscriptTail value slice (.ref l) (.ref s.heap.objs.size)) Q E { s with heap := s.heap.push { cls := .type "slice", data := .fields #[.none, .int y u, .none] } } :=
  kmk_slice F N ⟨_, (N _ m1).1, rfl, x, rfl⟩ (lo := none) (hi := some y) (by constructor) (by constructor) (fun D h' F' N' l1 => h D _ h' (o1.upto h0) F' N' l1) hs ht (by rw [o1.size, sizeLine_eq]; omega)
theorem oct_from {value slice : PySem.Expr} {u : Tok} {y : Int} (F : Fr h₀ L s.heap m) (N : News h₀ L s.heap news) (m1 : (l, (⟨.type "list", none, .seq its x, #[]⟩ : Obj)) ∈ news) (o1 : octs its n) (h0 : 0 ≤ y) (hz : n ≤ 1000)
    (h : ∀ D c h', octs c (n - y.toNat) → Fr h₀ L h' m → News h₀ L h' ((D, listOf c 0) :: news) → (∀ q ∈ news, q.1 < D) → Q (.ref D) { s with heap := h' })
    (hs : subscripted slice false (.ref l) (.ref s.heap.objs.size) = operate [.ref s.heap.objs.size, .ref l] (getItem (.ref l) (.ref s.heap.objs.size)) := by with_unfolding_all rfl) (ht : ∀ r, letTemporaryGo value (.ref l) r = pure () := by intro _; with_unfolding_all rfl) :
    wpAny (model prog w) A (subscriptTail value slice (.ref l) (.ref s.heap.objs.size)) Q E { s with heap := s.heap.push { cls := .type "slice", data := .fields #[.int y u, .none, .none] } } :=
  kmk_slice F N ⟨_, (N _ m1).1, rfl, x, rfl⟩ (lo := some y) (hi := none) (by constructor) (by constructor) (fun D h' F' N' l1 => h D _ h' (o1.from h0) F' N' l1) hs ht (by rw [o1.size, sizeLine_eq]; omega)
theorem oct_add (F : Fr h₀ L s.heap m) (N : News h₀ L s.heap news) (m1 : (l, (⟨.type "list", none, .seq its x, #[]⟩ : Obj)) ∈ news) (m2 : (b, (⟨.type "list", none, .seq jts y, #[]⟩ : Obj)) ∈ news) (o1 : octs its n) (o2 : octs jts k) (hz : n + k ≤ 1000)
    (h : ∀ D c h', octs c (n + k) → Fr h₀ L h' m → News h₀ L h' ((D, listOf c 0) :: news) → (∀ q ∈ news, q.1 < D) → Q (.ref D) { s with heap := h' }) :
    wpAny (model prog w) A (binaryOp .Add (.ref l) (.ref b)) Q E s := by
  have s1 := o1.size
  have s2 := o2.size
  refine add_lists (vs := its.toList) (ws := jts.toList) F N ⟨_, (N _ m1).1, rfl, x, rfl⟩ ⟨_, (N _ m2).1, rfl, y, rfl⟩ (fun h' F' N' => ?_) (by rw [Array.length_toList, Array.length_toList, s1, s2, sizeLine_eq]; omega)
  obtain ⟨ns, a1, b1, c1⟩ := o1
  obtain ⟨ms, a2, b2, c2⟩ := o2
  refine h _ (its.toList ++ jts.toList).toArray h' ⟨ns ++ ms, a1.append a2, by rw [List.length_append, b1, b2], fun z hz => ?_⟩ F' N' (fun q hq => Heap.lt_size (N q hq).1)
  rcases List.mem_append.mp hz with hz | hz
  · exact c1 z hz
  · exact c2 z hz
theorem oct_bytes (F : Fr h₀ L s.heap m) (N : News h₀ L s.heap news) (hh : A.handled = none) (m1 : (l, (⟨.type "list", none, .seq its x, #[]⟩ : Obj)) ∈ news) (o1 : octs its n) (hz : n ≤ 1000)
    (h : ∀ c t h' tk, c.size = n → Fr h₀ L h' m → News h₀ L h' news → Q (.bytes c t) { s with heap := h', toks := tk }) :
    wpAny (model prog w) A (call (.type "bytes") [.ref l]) Q E s := by
  obtain ⟨ns, a1, b1, c1⟩ := o1
  refine KBa.make_K (vs := its.toList) F N hh ⟨_, (N _ m1).1, rfl, x, rfl⟩ a1 c1 (by omega) fun h' t' k F' N' _ => h _ _ h' k ?_ F' N'
  exact (byteArr_size ns).trans b1
end
theorem kw42_octets_0 : True := by
  k_with "subscriptTail Name Slice ref ref" => (k_here; (with_reducible show wpAny _ _ (subscriptTail _ (PySem.Expr.Slice _ _ none _) (Value.ref _) (Value.ref _)) _ _ _); (with_reducible rename Fr _ _ _ _ => zFq); (with_reducible rename News _ _ _ _ => zNq); k_dflt (first | (refine oct_upto (s := ⟨_, _, _, _, _⟩) zFq zNq (by k_mem) (by k_asm) (by omega) (by omega) ?_) | (refine oct_from (s := ⟨_, _, _, _, _⟩) zFq zNq (by k_mem) (by k_asm) (by omega) (by omega) ?_)); intro zDq zcq zhq zoq zFq zNq zl1; (try k_lt zl1); (try k_sweep))
  trivial
theorem kw42_octets_1 : True := by
  k_with "binaryOp Add ref ref" => (k_here; (with_reducible show wpAny _ _ (binaryOp _ (Value.ref _) (Value.ref _)) _ _ _); k_dflt (refine oct_add (by k_asm) (by k_asm) (by k_mem) (by k_mem) (by first | k_asm | exact octs.upto (by k_asm) (by omega) | exact octs.from (by k_asm) (by omega) | fail "no") (by first | k_asm | exact octs.upto (by k_asm) (by omega) | exact octs.from (by k_asm) (by omega) | fail "no") (by omega) ?_); intro zDq zcq zhq zoq zFq zNq zl1; (try k_lt zl1); (try k_sweep))
  trivial
theorem kw42_octets_2 : True := by
  k_with "call type:bytes" => (k_here; (with_reducible show wpAny _ _ (call (Value.type "bytes") [Value.ref _]) _ _ _); k_dflt (refine oct_bytes (by k_asm) (by k_asm) (by first | exact rfl | fail "no") (by k_mem) (by k_asm) (by omega) ?_); intro zbq ztq zhq zkq zhbq zFq zNq; (try k_sweep))
  trivial
theorem kw42_octets_3 : True := by
  k_with "subscriptTail" => (k_here; (with_reducible show wpAny _ _ (subscriptTail _ _ (Value.ref 152) (Value.int _ _)) _ _ _); k_dflt (refine sign_K (by first | exact tupK (Frag.In.keeps (by k_asm) (Fr.keep (by k_asm))) (by k_is) | fail "no") (by repeat' (first | exact IntsAre.nil | apply IntsAre.cons)) (by omega) (by (simp only [List.length_cons, List.length_nil]; omega)) (by decide) (by decide) ?_; k_whole; intro zn9 zt9 zhn0 zhn1))
  trivial
theorem prod_of {h : Heap} {r : Addr} {a b : Int} {t u v : Tok} (_ : IsRange h r 0 (a * b) 1 t u v) (h0 : 0 ≤ a) (h1 : a < 25) (h2 : 0 ≤ b) (h3 : b < 2) : 0 ≤ a * b ∧ a * b < 25 := by
  have : b = 0 ∨ b = 1 := by omega
  rcases this with rfl | rfl <;> omega
set_option maxHeartbeats 1600000 in
theorem law_octets {P : Addr} {o : Obj} {c : Int} (hp : isPen c o) (hc : c < 900000) :
    Con 171 [.ref P] 4 [(P, o)] (fun r l => ∃ b t o' ks, r = .bytes b t ∧ KBw.bInts b = ks ∧ ks.length ≤ 50 ∧ l = [(P, o')] ∧ isPen (c + 100) o') := by
  refine' con_ofC ?ho ?hcd ?hbind ?hkind ?hnd ?hco ?hgen ?hk ?hb
  case ho => (intro w; k_dflt k_is)
  case hcd => (intro w; k_dflt k_is)
  case hbind => (intro w s X; (first | exact BindsTo.of_eq rfl | exact binds_K X rfl (by k_is) rfl rfl rfl))
  case hkind => exact rfl
  case hnd => decide +kernel
  case hco => exact rfl
  case hgen => exact rfl
  case hk => exact rfl
  unfold BodyC
  intro w w p loose mean mg mb dp un gd fr base g L s h tk cells hdp hun B X T c1 c2 hpre F N Y l1
  k_lt l1
  k_cells Y
  simp only [List.cons_append, List.nil_append] at N
  (with_reducible show wpAny _ _ _ _ _ _)
  k_fold
  k_steps
  (rename Fr _ _ _ _ => F1)
  (with_unfolding_all refine' For_invVF F1 ?k1 ?k2 ?_; (case k1 => exact rfl); (case k2 => exact rfl))
  k_steps
  (rename Fr _ _ _ _ => F2)
  (rename News _ _ _ _ => N2)
  rename isPen (c + 1) _ => hp1
  rename IsRange _ _ _ _ _ _ _ _ => hR
  rename 0 ≤ _ => hlo
  rename _ < (16 : Int) => hhi
  obtain ⟨lf, hlf⟩ := name2 N2
  subst hlf
  refine' iter_rangeN (fun i m nx => ∃ its na o' oc, nx = [(P, o'), (lf, listOf its na), (L + 1, oc)] ∧ octs its i ∧ isPen (c + 1 + i) o' ∧ m "found" = some (.ref lf) ∧ oc.data = .cell (some (.ref P))) rfl hR ?hs ?hn F2 N2 ?hj ?turn ?done
  case hs => exact small_one (by omega) (by omega) (by omega) (by omega)
  case hn => exact rangeSize_nat _ _
  rename Obj.data _ = Data.cell _ => hcd
  have hcd' : Obj.data _ = .cell (some (.ref P)) := hcd
  clear hcd
  case hj => exact ⟨_, _, _, _, rfl, octs.nil, by simpa using hp1, rfl, hcd'⟩
  case turn =>
    rintro i t m₁ nx h tk own hi ha hoff ⟨its, na, o', oc, rfl, ho, hpi, hf, hoc⟩ F3 N3
    clear F2 N2
    replace F3 := fr_names [(Str.ofString "found", .ref lf)] ⟨hf, trivial⟩ F3
    simp only [List.map_cons, List.map_nil] at hoff
    simp only [List.cons_append, List.nil_append] at N3
    have hsz := ho.size
    have hsz2 : its.size ≤ 100 := by omega
    (with_reducible show wpAny _ _ _ _ _ _)
    k_steps
    rename isPen (_ + 1) _ => hp2
    exact InvEndN.intro (nx := [(P, _), (lf, _), (L + 1, _)]) (by k_asm) (by k_asm) ⟨_, _, _, _, rfl, ho.push (by assumption) (by assumption), hp2.le (by omega), rfl, hoc⟩ rfl (by k_upd) (fun q hq => .tail _ (.tail _ (.tail _ hq)))
  case done =>
    rintro m₁ nx h tk ⟨its, na, o', oc, rfl, ho, hpi, hf, hoc⟩ F3 N3
    clear F2 N2
    replace F3 := fr_names0 [(Str.ofString "found", .ref lf)] ⟨hf, trivial⟩ F3
    have hsz := ho.size
    have hsz2 : its.size ≤ 16 := by omega
    dsimp only
    k_steps
    rename IsRange _ _ _ _ _ _ _ _ => hR
    have hpb := prod_of hR (by assumption) (by assumption) (by assumption) (by assumption)
    rename isPen _ _ => hp3
    rename Fr _ _ _ _ => F3
    rename News _ _ _ _ => N3
    refine LCg.CompSrc.range rfl F3 N3 hR (small_one (by omega) (by omega) (by omega) (by omega)) (rangeSize_nat _ _) (by rw [sizeLine_eq]; omega) ?_
    intro g'
    refine comp_inv (fun i ys nx => ∃ o', nx = [(P, o'), (lf, listOf its na), (L + 1, oc)] ∧ octs ys.toArray i ∧ isPen (c + 30 + i) o') ⟨_, rfl, octs.nil, hp3.le (by omega)⟩ ?turn ?fin
    case turn =>
      rintro i v I oI C oC D m₂ ys nx h tk E' hi ⟨tv, rfl⟩ hC hx ⟨o', rfl, hys, hpi⟩ F4 N4 hoff hne
      clear F3 N3
      simp only [LCg.Off3, and_true] at hoff
      (with_reducible show wpAny _ _ _ _ _ _)
      k_steps
      · exact hys.snoc (by omega) (by omega)
      · rename isPen _ _ => hp4
        exact hp4.le (by omega)
    case fin =>
      rintro ys nx ⟨o', rfl, hys, hpi⟩
      have hsz3 := hys.size
      have hsz4 : ys.toArray.size ≤ 25 := by omega
      clear F3 N3
      k_steps
      rename Array.size _ = _ => hq
      exact done_sub [(P, o')] (by k_asm) (by k_asm) (by k_upd) ⟨_, _, _, _, rfl, rfl, by rw [bInts_len]; omega, rfl, hpi.le (by omega)⟩
theorem post_octets {K : Value → Led → Prop} {P : Addr} {c : Int} (h : ∀ b t o' ks, KBw.bInts b = ks → ks.length ≤ 50 → isPen (c + 100) o' → K (.bytes b t) [(P, o')]) :
    ∀ r l, (∃ b t o' ks, r = .bytes b t ∧ KBw.bInts b = ks ∧ ks.length ≤ 50 ∧ l = [(P, o')] ∧ isPen (c + 100) o') → K r l := by
  rintro _ _ ⟨b, t, o', ks, rfl, h1, h2, rfl, h3⟩
  exact h b t o' ks h1 h2 h3
theorem kw42_octets : True := by
  k_with "call ref" => (k_here; (with_reducible show wpAny _ _ (call (Value.ref 171) [Value.ref _]) _ _ _); k_dflt (refine usen (by k_asm) (by k_asm) (by k_asm) (by k_asm) (by k_asm) (by k_asm) (by k_asm) (by first | exact rfl | fail "no") (by first | exact rfl | fail "no") (by first | exact rfl | fail "no") (by first | exact rfl | fail "no") (by k_upd) (fun _ _ => trivial) (law_octets (by k_asm) (by omega)) (by first | exact room1 (by with_reducible assumption) (by rfl) | k_room | omega) (by first | exact units1 (by with_reducible assumption) (by rfl) | k_units | (with_unfolding_all exact Nat.le_of_ble_eq_true rfl) | omega) (post_octets ?_); intro zb zt zo zks zhb zhz zp zh zk zF zN; (try dsimp only [List.cons_append, List.nil_append] at zN); (try k_sweep)))
  trivial
/-- g' stands over g, with tb more -/
structure Up (g g' : Heap) (tb : Led) : Prop where
  stays : g.StaysIn g'
  size : g.objs.size ≤ g'.objs.size
  tb : ∀ q ∈ tb, g'.get? q.1 = some q.2 ∧ g.get? q.1 = none
theorem Up.fr {g g' h : Heap} {tb : Led} {L : Addr} {m : PySem.Str → Option Value} (U : Up g g' tb) (F : Fr g' L h m) : Fr g L h m :=
  ⟨F.ns, fun b o e => F.keep b o (U.stays b o e), Nat.le_trans U.size F.above⟩
theorem Up.news {g g' h : Heap} {tb l : Led} {L : Addr} {m : PySem.Str → Option Value} (U : Up g g' tb) (F : Fr g' L h m) (N : News g' L h l) : News g L h (l ++ tb) := fun q hq => by
  rcases List.mem_append.mp hq with hq | hq
  · refine ⟨(N q hq).1, (N q hq).2.1, ?_⟩
    cases e : g.get? q.1 with
    | none => rfl
    | some o => have := U.stays _ _ e; rw [(N q hq).2.2] at this; cases this
  · have z := U.tb q hq
    exact ⟨F.keep _ _ z.1, Nat.ne_of_lt (Nat.lt_of_lt_of_le (Heap.lt_size z.1) F.above), z.2⟩
theorem Up.hide {g g' : Heap} {W T : Led} (U : Up g g' (W ++ T)) (off : ∀ q ∈ T, ∀ p ∈ W, q.1 ≠ p.1) : Up g (gh g' W) T := by
  have notIn : ∀ b, (∀ q ∈ W, b ≠ q.1) → b ∉ W.map (·.1) := fun b h q => by
    obtain ⟨x, hx, rfl⟩ := List.mem_map.mp q
    exact h x hx rfl
  refine ⟨fun b o e => hideAll_get _ (U.stays b o e) (notIn b fun q hq e' => ?_), ?_, fun q hq => ⟨hideAll_get _ (U.tb q (List.mem_append_right _ hq)).1 (notIn _ (off q hq)), (U.tb q (List.mem_append_right _ hq)).2⟩⟩
  · rw [e', (U.tb q (List.mem_append_left _ hq)).2] at e; cases e
  · rw [show (gh g' W).objs.size = g'.objs.size from hideAll_size _ _]; exact U.size
theorem Up.hideFr {g' h : Heap} {W : Led} {L : Addr} {m : PySem.Str → Option Value} (F : Fr g' L h m) : Fr (gh g' W) L h m :=
  ⟨F.ns, fun b o e => F.keep b o (of_hideAll _ e), by rw [show (gh g' W).objs.size = g'.objs.size from hideAll_size _ _]; exact F.above⟩
theorem Up.hideNews {g g' h : Heap} {W T l : Led} {L : Addr} {m : PySem.Str → Option Value} (U : Up g g' (W ++ T)) (F : Fr g' L h m) (N : News g' L h l) : News (gh g' W) L h (l ++ W) := fun q hq => by
  rcases List.mem_append.mp hq with hq | hq
  · refine ⟨(N q hq).1, (N q hq).2.1, ?_⟩
    cases e : (gh g' W).get? q.1 with
    | none => rfl
    | some o => have := of_hideAll _ e; rw [(N q hq).2.2] at this; cases this
  · have z := U.tb q (List.mem_append_left _ hq)
    exact ⟨F.keep _ _ z.1, Nat.ne_of_lt (Nat.lt_of_lt_of_le (Heap.lt_size z.1) F.above), hideAll_none _ (List.mem_map_of_mem hq)⟩
theorem Up.swap {g g' : Heap} {W T : Led} (U : Up g g' (W ++ T)) : Up g g' (T ++ W) := ⟨U.stays, U.size, fun q hq => U.tb q ((List.mem_append.mp hq).elim (List.mem_append_right _) (List.mem_append_left _))⟩
theorem below_keeps {A : Around} {base g g' : Heap} {fr : List Env} (B : Below A base fr g) (st : g.StaysIn g') : Below A base fr g' :=
  ⟨B.stack, fun b o e => st b o (B.stays b o e), B.frames.of_keeps fun b o e _ => ⟨o, st b o e, rfl⟩⟩
theorem done_up {g g' : Heap} {post : Value → Led → Prop} {s : Shared} {v : Value} {L' : Addr} {m' : PySem.Str → Option Value} {h' : Heap} {tk' : Nat} {tb news : Led} (U : Up g g' tb) (small' : Led)
    (F : Fr g' L' h' m') (N : News g' L' h' news) (hs : ∀ q ∈ small', q ∈ news) (hp : post v (small' ++ tb)) : Done g post s v { s with heap := h', toks := tk' } :=
  ⟨L', m', h', tk', small' ++ tb, rfl, U.fr F, U.news F (fun q hq => N q (hs q hq)), hp⟩

/-- the body's premises where the tables are put under it -/
def BodyD (f : Addr) (D : Nat) (small tb : Led) (post : Value → Led → Prop) (qual : Str) (scope : Scope) (cdv : Value) (body : List Stmt) (binds : List (Str × Value)) : Prop :=
  ∀ (w : World) (p : Program) (loose : List Str) (mean : ExcName → Option Value) (mg mb : Str → Option Value)
    (dp un : Nat) (gd : Option (List Code)) (fr : List Env) (base g₀ g : Heap) (L : Addr) (s : Shared) (h : Heap) (tk : Nat) (cells : Led),
    dp + D < recursionLimit → un + 16 * D < cLine →
    Below (tp dp un gd fr) base fr g₀ → (hd.heap_39 w.params).In g₀ → Top p loose mean mg mb g₀ → CodeHd base 191 187 → CodeHd base 203 201 → Up g₀ g tb →
    Fr g L h (bindL (envOfC qual scope L f cdv).kindOf binds fun _ => none) → News g L h (cells ++ small) →
    CellsAre (bindC (envOfC qual scope L f cdv).kindOf binds fun _ => none) (cellsFrom (L + 1) scope.names []) cells → (∀ q ∈ small, q.1 < L) →
    wpAny (model PySem.Challenge.rw_nn0114_01.row.prog w) ((tp dp un gd fr).deeper (envOfC qual scope L f cdv)) (execs body (envOfC qual scope L f cdv))
      (fun fl s' => Done g₀ post s (match fl with | .ret v => v | _ => .none) s') (fun _ _ => False) { s with heap := h, toks := tk }

theorem con_ofD {f : Addr} {vs : List Value} {D : Nat} {small tb : Led} {post : Value → Led → Prop} {name qual : Str} {params : Arguments} {body : List Stmt} {scope : Scope}
    {dV kV doc pm cdv ct oc : World → Value} {an od : World → Option Addr} {osl : World → Array (Option Value)} {binds : List (Str × Value)} (off : ∀ q ∈ tb, ∀ p ∈ small, q.1 ≠ p.1)
    (ho : ∀ w : World, (hd.heap_39 w.params).lookup f = some ⟨oc w, od w, .func (fnOf name qual params body scope (dV w) (kV w) (doc w) (pm w) (an w) (cdv w) (ct w)), osl w⟩)
    (hcd : ∀ w : World, codeIn (hd.heap_39 w.params) (cdv w) qual = true)
    (hbind : ∀ (w : World) (s : Shared), (hd.heap_39 w.params).In s.heap → BindsTo s (fnOf name qual params body scope (dV w) (kV w) (doc w) (pm w) (an w) (cdv w) (ct w)) ⟨vs, []⟩ binds)
    (hkind : (binds.all fun y => scope.names.lookup y.1 == some .local || scope.names.lookup y.1 == some .cell) = true)
    (hnd : ((cellsFrom 0 scope.names []).map (·.1)).Nodup) (hco : scope.isCoroutine = false) (hgen : scope.isGenerator = false) (hk : scope.kind = .function)
    (hb : ∀ w : World, BodyD f D small tb post qual scope (cdv w) body binds) : Con f vs (D + 1) (small ++ tb) post := by
  intro w p loose mean mg mb A fr base s Q E hh hdp hu B X T c1 c2 hpre hs ret
  refine wpAny_call ?_
  have st : (gh s.heap (small ++ tb)).StaysIn s.heap := fun b o e => of_hideAll _ e
  have notIn : ∀ b, (∀ q ∈ small, b ≠ q.1) → b ∉ small.map (·.1) := fun b h q => by
    obtain ⟨x, hx, rfl⟩ := List.mem_map.mp q
    exact h x hx rfl
  have U : Up (gh s.heap (small ++ tb)) (gh s.heap small) tb := by
    refine ⟨fun b o e => hideAll_get _ (st b o e) (fun hm => ?_), by rw [show (gh s.heap (small ++ tb)).objs.size = s.heap.objs.size from hideAll_size _ _, show (gh s.heap small).objs.size = s.heap.objs.size from hideAll_size _ _]; exact Nat.le_refl _, fun q hq => ⟨hideAll_get _ (hs q (List.mem_append_right _ hq)) (notIn _ (off q hq)), hideAll_none _ (List.mem_map_of_mem (List.mem_append_right _ hq))⟩⟩
    have : (gh s.heap (small ++ tb)).get? b = none := hideAll_none _ (by rw [List.map_append]; exact List.mem_append_left _ hm)
    rw [this] at e; cases e
  have X' : (hd.heap_39 w.params).In s.heap := X.keeps st
  refine codeAny_call_function (by omega) (X' _ _ (ho w)) rfl hco hgen rfl (codeRec_of X' (hcd w)) (hbind w s X' _ _ _ _ ?_)
  refine wpAny_newFunctionEnv_cells hk (kindsX hkind _) fun env' he s' x => ?_
  subst he
  refine ⟨(T.nolimit.keeps st).keeps x.toInCall.keep, codeAny_func ?_⟩
  obtain ⟨h₁, tk, rfl, _⟩ := x.done
  have hk₁ := x.toInCall.keep
  obtain ⟨cells, NC, Y⟩ := Cl.news (h₀ := s.heap) (Nat.le_refl _) fun n c hm => ⟨x.cell n c (lookup_of_mem_nodup (cellsFrom_names scope.names 0 (s.heap.objs.size + 1) [] [] rfl ▸ hnd) hm), x.above n c hm⟩
  have eA := around_eta hh B.stack
  have W := hb w w p loose mean mg mb A.depth A.units A.guards fr base (gh s.heap (small ++ tb)) (gh s.heap small) s.heap.objs.size s h₁ tk cells (by omega) (by omega) (eA ▸ B) X T c1 c2 U
    ⟨x.toInCall.ns, fun b o e => hk₁ b o (of_hideAll _ e), Nat.le_of_eq (hideAll_size _ _)⟩
    (fun q hq => by
      rcases List.mem_append.mp hq with hq | hq
      · refine ⟨(NC q hq).1, (NC q hq).2.1, ?_⟩
        cases e : (gh s.heap small).get? q.1 with
        | none => rfl
        | some o => have := of_hideAll _ e; rw [(NC q hq).2.2] at this; cases this
      · exact ⟨hk₁ _ _ (hs q (List.mem_append_left _ hq)), Nat.ne_of_lt (Heap.lt_size (hs q (List.mem_append_left _ hq))), hideAll_none _ (List.mem_map_of_mem hq)⟩)
    Y (fun q hq => Heap.lt_size (hs q (List.mem_append_left _ hq)))
  rw [← eA] at W
  refine wpAny_mono W (fun fl s' hdn => ?_) fun _ _ x => x.elim
  obtain ⟨L', m', h', tk', small', rfl, F', N', hp⟩ := hdn
  exact ret _ small' h' tk' F'.keep (fun q hq => ⟨(N' q hq).1, (N' q hq).2.2⟩) hp
/-- the ledger of the table of the deeds: a the line's lambda, b the figures' -/
inductive TT : Led → Prop
  | no : TT [(201, tabObj #[])]
  | a {d : Addr} {od : Obj} : @Ne Nat d 201 → codeOk od (Str.ofString "_law_deed.<locals>.<lambda>") → TT [(201, tabObj #[rawInt 157, rawInt 37, .ref d]), (d, od)]
  | b {d : Addr} {od : Obj} : @Ne Nat d 201 → codeOk od (Str.ofString "_law_deed.<locals>.<lambda>") → TT [(201, tabObj #[rawInt 160, rawInt 37, .ref d]), (d, od)]
  | ab {d d' : Addr} {od od' : Obj} : @Ne Nat d 201 → @Ne Nat d' 201 → @Ne Nat d d' → codeOk od (Str.ofString "_law_deed.<locals>.<lambda>") → codeOk od' (Str.ofString "_law_deed.<locals>.<lambda>") →
      TT [(201, tabObj #[rawInt 157, rawInt 37, .ref d, rawInt 160, rawInt 37, .ref d']), (d, od), (d', od')]
  | ba {d d' : Addr} {od od' : Obj} : @Ne Nat d 201 → @Ne Nat d' 201 → @Ne Nat d d' → codeOk od (Str.ofString "_law_deed.<locals>.<lambda>") → codeOk od' (Str.ofString "_law_deed.<locals>.<lambda>") →
      TT [(201, tabObj #[rawInt 160, rawInt 37, .ref d', rawInt 157, rawInt 37, .ref d]), (d, od), (d', od')]
/-- ledgers apart -/
def Off (a b : Led) : Prop := ∀ q ∈ a, ∀ p ∈ b, @Ne Nat q.1 p.1
theorem Off.swap {a b : Led} (h : Off a b) : Off b a := fun q hq p hp e => h p hp q hq e.symm
/-- the law's two values show alike -/
inductive Same : Value → Value → Led → Prop
  | int (n : Int) (t u : Tok) : n.natAbs.log2 < 1920 → Same (.int n t) (.int n u) []
  | bool (b : Bool) : Same (.bool b) (.bool b) []
  | none : Same .none .none []
  | bytes (b : Array UInt8) (t u : Tok) : b.size ≤ 1000 → Same (.bytes b t) (.bytes b u) []
  | ints (l1 l2 : Addr) (vs ws : Array Value) (ks : List Int) (n1 n2 : Nat) : IntsAre vs.toList ks → IntsAre ws.toList ks → ks.length ≤ 2 → (∀ k ∈ ks, -1000000 < k ∧ k < 1000000) → Same (.ref l1) (.ref l2) [(l1, listOf vs n1), (l2, listOf ws n2)]
  | bools (l1 l2 : Addr) (a b : Bool) (n1 n2 : Nat) : Same (.ref l1) (.ref l2) [(l1, listOf #[.bool a, .bool b] n1), (l2, listOf #[.bool a, .bool b] n2)]
/-- a deed's end: what was heard and what was due show alike, and the head is at the goal -/
def DeedPost (P H DX : Addr) (ks : List Int) (e c : Int) (r : Value) (l : Led) : Prop :=
  ∃ (R : Addr) (hv dv : Value) (g : Int) (gt : Tok) (n : Nat) (ex : Led) (po o : Obj) (W T : Led), r = .ref R ∧ l = ((R, (⟨.type "tuple", none, .seq #[hv, dv, .int g gt] n, #[]⟩ : Obj)) :: (ex ++ [(P, po), (H, instObj 147 DX), (DX, o)])) ++ (W ++ T) ∧
    Same hv dv ex ∧ isPen (c + 10) po ∧ isCur ks g e o ∧ 0 ≤ g ∧ g ≤ e ∧ WT W ∧ TT T ∧ Off T W ∧ Off (W ++ T) [(P, po), (H, instObj 147 DX), (DX, o)]
theorem deed_end {P H DX R : Addr} {ks : List Int} {e c g : Int} {hv dv : Value} {gt : Tok} {n : Nat} {ex : Led} {po o po0 o0 : Obj} {W T : Led} {g₀ g' : Heap} {s : Shared} {L' : Addr} {m' : PySem.Str → Option Value} {h' : Heap} {tk' : Nat} {news : Led} (U : Up g₀ g' (W ++ T))
    (F : Fr g' L' h' m') (N : News g' L' h' news) (hs : ∀ q ∈ (R, (⟨.type "tuple", none, .seq #[hv, dv, .int g gt] n, #[]⟩ : Obj)) :: (ex ++ [(P, po), (H, instObj 147 DX), (DX, o)]), q ∈ news)
    (hS : Same hv dv ex) (hp : isPen (c + 10) po) (hc : isCur ks g e o) (h0 : 0 ≤ g) (h1 : g ≤ e) (hW : WT W) (hT : TT T) (hWT : Off T W) (hoff : Off (W ++ T) [(P, po0), (H, instObj 147 DX), (DX, o0)]) :
    Done g₀ (DeedPost P H DX ks e c) s (.ref R) { s with heap := h', toks := tk' } :=
  done_up U _ F N hs ⟨R, hv, dv, g, gt, n, ex, po, o, W, T, rfl, rfl, hS, hp, hc, h0, h1, hW, hT, hWT, fun q hq p hp => by
    rcases List.mem_cons.mp hp with rfl | hp
    · exact hoff q hq (P, po0) (.head _)
    · rcases List.mem_cons.mp hp with rfl | hp
      · exact hoff q hq (H, instObj 147 DX) (.tail _ (.head _))
      · rw [List.mem_singleton.mp hp]
        exact hoff q hq (DX, o0) (.tail _ (.tail _ (.head _)))⟩
theorem fr_abs {g h : Heap} {L : Addr} {m : PySem.Str → Option Value} (F : Fr g L h m) : ∃ m', m' = m ∧ Fr g L h m' := ⟨m, rfl, F⟩
theorem nm4 {g h : Heap} {L a1 a2 a3 a4 : Addr} {x1 x2 x3 x4 : Obj} {r : Led} (_ : News g L h ((a1, x1) :: (a2, x2) :: (a3, x3) :: (a4, x4) :: r)) : ∃ y1 y2 y3 y4, y1 = x1 ∧ y2 = x2 ∧ y3 = x3 ∧ y4 = x4 := ⟨_, _, _, _, rfl, rfl, rfl, rfl⟩
def WordQ (g : Heap) (L : Addr) (m : PySem.Str → Option Value) (P : Addr) (c : Int) (rest : Led) (s : Shared) (v : Value) (s₁ : Shared) : Prop :=
  ∃ wd wt po3 h' tk', v = .bytes wd wt ∧ wd.size ≤ 2 ∧ isPen (c + 4) po3 ∧ s₁ = { s with heap := h', toks := tk' } ∧ Fr g L h' m ∧ News g L h' ((P, po3) :: rest)
theorem WordQ.mk {g h' : Heap} {L P : Addr} {m : PySem.Str → Option Value} {c : Int} {rest : Led} {s : Shared} {wd : Array UInt8} {wt : Tok} {po3 : Obj} {tk' : Nat} (F : Fr g L h' m) (N : News g L h' ((P, po3) :: rest)) (hs : wd.size ≤ 2) (hp : isPen (c + 4) po3) :
    WordQ g L m P c rest s (.bytes wd wt) { s with heap := h', toks := tk' } := ⟨wd, wt, po3, h', tk', rfl, hs, hp, rfl, F, N⟩
theorem Same.int' {n k : Int} {t u : Tok} (e : n = k) (h : n.natAbs.log2 < 1920) : Same (.int n t) (.int k u) [] := by subst e; exact .int n t u h
theorem Same.bool' {a b : Bool} (e : a = b) : Same (.bool a) (.bool b) [] := by subst e; exact .bool a
theorem Same.bytes' {a b : Array UInt8} {t u : Tok} {ks ls : List Int} (ha : KBw.bInts a = ks) (hb : KBw.bInts b = ls) (e : ks = ls) (h : ks.length ≤ 1000) : Same (.bytes a t) (.bytes b u) [] := by
  subst ha; subst hb
  have := bInts_inj e
  subst this
  exact .bytes a t u (by rw [← bInts_len]; exact h)
theorem Same.bools' {l1 l2 : Addr} {a b a' b' : Bool} {n1 n2 : Nat} (e : a = a') (e' : b = b') : Same (.ref l1) (.ref l2) [(l1, listOf #[.bool a, .bool b] n1), (l2, listOf #[.bool a', .bool b'] n2)] := by subst e; subst e'; exact .bools l1 l2 a b n1 n2
theorem small_log {n : Int} (h0 : -1000000 < n) (h1 : n < 1000000) : n.natAbs.log2 < 1920 := by
  rcases Nat.eq_zero_or_pos n.natAbs with h | h
  · rw [h]; decide
  · exact (Nat.log2_lt (by omega)).mpr (Nat.lt_of_lt_of_le (by omega : n.natAbs < 2 ^ 20) (Nat.pow_le_pow_right (by decide) (by decide)))
theorem stand_view {ks rs ws : List Int} {a e : Int} (hrs : rs = ks.take e.toNat) (hrl : (rs.length : Int) = e) (ha : 0 ≤ a) (hae : a ≤ e) : (decide (a + ws.length ≤ e) && (sl ks a (a + ws.length) == ws)) = (sl rs a (a + ws.length) == ws) := by
  by_cases h : a + ws.length ≤ e
  · rw [decide_eq_true h, Bool.true_and, hrs, sl_take h]
  · rw [decide_eq_false h, Bool.false_and]
    symm
    rw [beq_eq_false_iff_ne]
    intro q
    have q2 := congrArg List.length q
    unfold sl at q2
    rw [List.length_take, List.length_drop] at q2
    omega
theorem eol_view {ks rs : List Int} {a e : Int} (hrl : (rs.length : Int) = e) (hrg : ∀ i : Int, 0 ≤ i → i < e → rs.getD i.toNat 0 = ks.getD i.toNat 0) (ha : 0 ≤ a) : eolTo ks e a = eolTo rs rs.length a := by
  have hp : ∀ i : Int, 0 ≤ i → peekV ks i e = peekV rs i rs.length := fun i hi => by
    unfold peekV
    rw [hrl]
    split
    · exact (hrg i hi (by assumption)).symm
    · rfl
  unfold eolTo
  rw [hp a ha, hp (a + 1) (by omega)]
theorem octet_of {b : Array UInt8} {rs : List Int} (hb : KBw.bInts b = rs) : ∀ c ∈ rs, 0 ≤ c ∧ c < 256 := fun c hc => by
  rw [← hb] at hc
  obtain ⟨x, _, rfl⟩ := List.mem_map.mp hc
  have : x.toNat < 256 := x.toNat_lt
  omega
theorem reg_eq {c : Int} (h : 0 ≤ c) : regB c = reg2B c := by
  unfold regB reg2B whiteB delimB
  rw [decide_eq_true h, Bool.true_and]
  simp only [List.any_cons, List.any_nil, Bool.or_false, Bool.not_or, Bool.and_assoc]
theorem reg_view {b : Array UInt8} {rs : List Int} {a : Int} (hb : KBw.bInts b = rs) : runTo regB rs a = runTo reg2B rs a := runTo_congr fun c hc => reg_eq (octet_of hb c hc).1
/-- ten deeds -/
theorem ten {d : Int} (h0 : 0 ≤ d) (h1 : d < 10) : d = 0 ∨ d = 1 ∨ d = 2 ∨ d = 3 ∨ d = 4 ∨ d = 5 ∨ d = 6 ∨ d = 7 ∨ d = 8 ∨ d = 9 := by
  obtain ⟨n, rfl⟩ := Int.eq_ofNat_of_zero_le h0
  have h2 : n < 10 := Int.ofNat_lt.mp h1
  match n, h2 with
  | 0, _ => exact .inl rfl
  | 1, _ => exact .inr (.inl rfl)
  | 2, _ => exact .inr (.inr (.inl rfl))
  | 3, _ => exact .inr (.inr (.inr (.inl rfl)))
  | 4, _ => exact .inr (.inr (.inr (.inr (.inl rfl))))
  | 5, _ => exact .inr (.inr (.inr (.inr (.inr (.inl rfl)))))
  | 6, _ => exact .inr (.inr (.inr (.inr (.inr (.inr (.inl rfl))))))
  | 7, _ => exact .inr (.inr (.inr (.inr (.inr (.inr (.inr (.inl rfl)))))))
  | 8, _ => exact .inr (.inr (.inr (.inr (.inr (.inr (.inr (.inr (.inl rfl))))))))
  | 9, _ => exact .inr (.inr (.inr (.inr (.inr (.inr (.inr (.inr (.inr rfl))))))))
theorem sl_len {rs : List Int} {i j : Int} : (sl rs i j).length ≤ rs.length := by
  unfold sl
  rw [List.length_take, List.length_drop]
  omega
theorem getD_oct {rs : List Int} {i : Nat} (h : ∀ c ∈ rs, 0 ≤ c ∧ c < 256) : 0 ≤ rs.getD i 0 ∧ rs.getD i 0 < 256 := by
  by_cases hi : i < rs.length
  · have : rs.getD i 0 = rs[i] := by simp [List.getD, hi]
    rw [this]
    exact h _ (List.getElem_mem hi)
  · have : rs.getD i 0 = 0 := by simp [List.getD, List.getElem?_eq_none (Nat.le_of_not_lt hi)]
    omega
theorem Up.offN {g g' h : Heap} {tb l : Led} {L : Addr} (U : Up g g' tb) (N : News g' L h l) : ∀ q ∈ tb, ∀ p ∈ l, q.1 ≠ p.1 := fun q hq p hp e => by
  have h1 := (U.tb q hq).1
  rw [e, (N p hp).2.2] at h1; cases h1
theorem Off.nil {b : Led} : Off [] b := fun q hq => nomatch hq
theorem Off.cons {q : Addr × Obj} {a b : Led} (h : AllNeN q.1 b) (h2 : Off a b) : Off (q :: a) b := fun x hx p hp => by
  rcases List.mem_cons.mp hx with rfl | hx
  · have key : ∀ {l : Led}, AllNeN x.1 l → ∀ p ∈ l, @Ne Nat x.1 p.1 := by
      intro l
      induction l with
      | nil => intro _ p hp; cases hp
      | cons y r ih =>
        intro h p hp
        rcases List.mem_cons.mp hp with rfl | hp
        · exact h.1
        · exact ih h.2 p hp
    exact key h p hp
  · exact h2 x hx p hp
theorem Off.app {a b c : Led} (h : Off a c) (h2 : Off b c) : Off (a ++ b) c := fun x hx => (List.mem_append.mp hx).elim (h x) (h2 x)
section
variable {P H DX R : Addr} {ks : List Int} {e c g : Int} {hv dv : Value} {gt : Tok} {n : Nat} {ex news : Led} {po o : Obj} {W T : Led} {g₀ g' : Heap} {s : Shared} {L' : Addr} {m' : PySem.Str → Option Value} {h' : Heap} {tk' : Nat}
theorem deed_endW (U : Up g₀ g' T) (F : Fr g' L' h' m') (N : News g' L' h' news) (hs : ∀ q ∈ (R, (⟨.type "tuple", none, .seq #[hv, dv, .int g gt] n, #[]⟩ : Obj)) :: (ex ++ [(P, po), (H, instObj 147 DX), (DX, o)]), q ∈ news)
    (hsW : ∀ q ∈ W, q ∈ news) (hS : Same hv dv ex) (hp : isPen (c + 10) po) (hc : isCur ks g e o) (h0 : 0 ≤ g) (h1 : g ≤ e) (hW : WT W) (hT : TT T) (hA : Off W [(P, po), (H, instObj 147 DX), (DX, o)]) :
    Done g₀ (DeedPost P H DX ks e c) s (.ref R) { s with heap := h', toks := tk' } := by
  have of := U.offN N
  refine ⟨L', m', h', tk', _, rfl, U.fr F, ?_, R, hv, dv, g, gt, n, ex, po, o, W, T, rfl, rfl, hS, hp, hc, h0, h1, hW, hT, fun q hq p hp => of q hq p (hsW p hp), hA.app fun q hq p hp => of q hq p (hs p (.tail _ (List.mem_append_right _ hp)))⟩
  intro q hq
  refine U.news F N q ?_
  rcases List.mem_append.mp hq with hq | hq
  · exact List.mem_append_left _ (hs q hq)
  · rcases List.mem_append.mp hq with hq | hq
    · exact List.mem_append_left _ (hsW q hq)
    · exact List.mem_append_right _ hq
theorem deed_endT (U : Up g₀ g' W) (F : Fr g' L' h' m') (N : News g' L' h' news) (hs : ∀ q ∈ (R, (⟨.type "tuple", none, .seq #[hv, dv, .int g gt] n, #[]⟩ : Obj)) :: (ex ++ [(P, po), (H, instObj 147 DX), (DX, o)]), q ∈ news)
    (hsT : ∀ q ∈ T, q ∈ news) (hS : Same hv dv ex) (hp : isPen (c + 10) po) (hc : isCur ks g e o) (h0 : 0 ≤ g) (h1 : g ≤ e) (hW : WT W) (hT : TT T) (hA : Off T [(P, po), (H, instObj 147 DX), (DX, o)]) :
    Done g₀ (DeedPost P H DX ks e c) s (.ref R) { s with heap := h', toks := tk' } := by
  have of := U.offN N
  refine ⟨L', m', h', tk', _, rfl, U.fr F, ?_, R, hv, dv, g, gt, n, ex, po, o, W, T, rfl, rfl, hS, hp, hc, h0, h1, hW, hT, fun q hq p hp e => of p hp q (hsT q hq) e.symm, Off.app (fun q hq p hp => of q hq p (hs p (.tail _ (List.mem_append_right _ hp)))) hA⟩
  intro q hq
  refine U.news F N q ?_
  rcases List.mem_append.mp hq with hq | hq
  · exact List.mem_append_left _ (hs q hq)
  · rcases List.mem_append.mp hq with hq | hq
    · exact List.mem_append_right _ hq
    · exact List.mem_append_left _ (hsT q hq)
end
theorem off_all {P H DX : Addr} {po o : Obj} {W : Led} (h : Off W [(P, po), (H, instObj 147 DX), (DX, o)]) : AllNeN P W ∧ AllNeN H W ∧ AllNeN DX W :=
  ⟨allNe_of fun p hp e => h p hp _ (.head _) e.symm, allNe_of fun p hp e => h p hp _ (.tail _ (.head _)) e.symm, allNe_of fun p hp e => h p hp _ (.tail _ (.tail _ (.head _))) e.symm⟩
theorem Up.lt {g g' h : Heap} {tb : Led} {L : Addr} {m : PySem.Str → Option Value} (U : Up g g' tb) (F : Fr g' L h m) : ∀ q ∈ tb, q.1 < L := fun q hq => Nat.lt_of_lt_of_le (Heap.lt_size (U.tb q hq).1) F.above
theorem eol_bnd {ks : List Int} {e a : Int} (h : a ≤ e) : a ≤ eolTo ks e a ∧ eolTo ks e a ≤ e := by
  unfold eolTo peekV
  (repeat' split) <;> omega
theorem WTo.ge {rs : List Int} {i j : Int} (h : WTo rs i j) : i ≤ j := by
  induction h with
  | stop _ => exact Int.le_refl _
  | white _ _ _ ih => omega
  | @note i j _ _ _ ih => exact Int.le_trans (runTo_ge notEol rs i) ih
/-- what a run with a lambda of the deeds leaves -/
def RunQ (g : Heap) (L : Addr) (m : PySem.Str → Option Value) (led : Led) (z : Int) (s : Shared) (v : Value) (s₁ : Shared) : Prop :=
  ∃ T' t h' tk, v = .int z t ∧ s₁ = { s with heap := h', toks := tk } ∧ Fr g L h' m ∧ News g L h' (led ++ T') ∧ TT T' ∧ OwnOff T' (led.map (·.1))
theorem RunQ.mk {g h' : Heap} {L : Addr} {m : PySem.Str → Option Value} {led T' news : Led} {z : Int} {s : Shared} {t : Tok} {tk : Nat} (F : Fr g L h' m) (N : News g L h' news) (hs : ∀ q ∈ led, q ∈ news) (hs2 : ∀ q ∈ T', q ∈ news) (hT : TT T') (ho : Off T' led) :
    RunQ g L m led z s (.int z t) { s with heap := h', toks := tk } :=
  ⟨T', t, h', tk, rfl, rfl, F, fun q hq => N q ((List.mem_append.mp hq).elim (hs q) (hs2 q)), hT, fun p hp b hb => by
    obtain ⟨x, hx, rfl⟩ := List.mem_map.mp hb
    exact ho p hp x hx⟩
theorem own_off {P H DX : Addr} {po o : Obj} {T' : Led} {adr : List Addr} (h : OwnOff T' adr) (h1 : P ∈ adr) (h2 : H ∈ adr) (h3 : DX ∈ adr) : Off T' [(P, po), (H, instObj 147 DX), (DX, o)] := fun q hq p hp => by
  rcases List.mem_cons.mp hp with rfl | hp
  · exact h q hq _ h1
  · rcases List.mem_cons.mp hp with rfl | hp
    · exact h q hq _ h2
    · rw [List.mem_singleton.mp hp]; exact h q hq _ h3
theorem sl_run {p : Int → Bool} {rs : List Int} {a : Int} (ha : 0 ≤ a) : sl rs a (runTo p rs a) = (rs.drop a.toNat).takeWhile p := by
  unfold sl runTo
  have e : (a + (((rs.drop a.toNat).takeWhile p).length : Int)).toNat - a.toNat = ((rs.drop a.toNat).takeWhile p).length := by omega
  rw [e]
  have key : ∀ l : List Int, l.take (l.takeWhile p).length = l.takeWhile p := by
    intro l
    induction l with
    | nil => rfl
    | cons x r ih =>
      rw [List.takeWhile_cons]
      split
      · rw [List.length_cons, List.take_succ_cons, ih]
      · rfl
  exact key _
theorem run_figs {rs : List Int} {a : Int} (ha : 0 ≤ a) : ∀ c ∈ sl rs a (runTo figB rs a), 48 ≤ c ∧ c ≤ 57 := by
  rw [sl_run ha]
  intro c hc
  have key : ∀ l : List Int, c ∈ l.takeWhile figB → figB c = true := by
    intro l
    induction l with
    | nil => intro h; cases h
    | cons x r ih =>
      rw [List.takeWhile_cons]
      split
      · intro h
        rcases List.mem_cons.mp h with rfl | h
        · assumption
        · exact ih h
      · intro h; cases h
  have h := key _ hc
  unfold figB at h
  simp at h
  exact h
theorem numV_bound : ∀ (l : List Int) (n : Nat), (∀ c ∈ l, 48 ≤ c ∧ c ≤ 57) → l.length ≤ n → 0 ≤ numV l ∧ numV l < 10 ^ n := by
  intro l
  have key : ∀ (l : List Int) (z : Int) (k : Nat), (∀ c ∈ l, 48 ≤ c ∧ c ≤ 57) → 0 ≤ z → z < 10 ^ k → 0 ≤ l.foldl (fun n c => n * 10 + c - 48) z ∧ l.foldl (fun n c => n * 10 + c - 48) z < 10 ^ (k + l.length) := by
    intro l
    induction l with
    | nil => intro z k _ h0 h1; exact ⟨h0, h1⟩
    | cons x r ih =>
      intro z k h h0 h1
      have hx := h x (.head _)
      have e : (10 : Int) ^ (k + 1) = 10 ^ k * 10 := Int.pow_succ ..
      have := ih (z * 10 + x - 48) (k + 1) (fun c hc => h c (.tail _ hc)) (by omega) (by omega)
      rw [List.foldl_cons, List.length_cons, show k + (r.length + 1) = k + 1 + r.length by omega]
      exact this
  intro n h hn
  have := key l 0 0 h (Int.le_refl _) (by decide)
  rw [Nat.zero_add] at this
  exact ⟨this.1, Int.lt_of_lt_of_le this.2 (by
    have : (10 : Nat) ^ l.length ≤ 10 ^ n := Nat.pow_le_pow_right (by decide) hn
    exact_mod_cast this)⟩
theorem num_log {n : Int} (h0 : 0 ≤ n) (h1 : n < 10 ^ 20) : n.natAbs.log2 < 1920 := by
  rcases Nat.eq_zero_or_pos n.natAbs with h | h
  · rw [h]; decide
  · exact (Nat.log2_lt (by omega)).mpr (Nat.lt_of_lt_of_le (by omega : n.natAbs < 2 ^ 70) (Nat.pow_le_pow_right (by decide) (by decide)))
theorem news_abs {g h : Heap} {L : Addr} {l : Led} (N : News g L h l) : ∃ l', l' = l ∧ News g L h l' := ⟨l, rfl, N⟩
theorem take_at {l : List Int} {b : Array UInt8} (hb : KBw.bInts b = l) {i : Nat} {n : UInt8} (h : b[i]? = some n) : l.take (i + 1) = l.take i ++ [(n.toNat : Int)] := by
  have : l[i]? = some (n.toNat : Int) := by
    rw [← hb]
    show (b.toList.map _)[i]? = _
    rw [List.getElem?_map, Array.getElem?_toList, h]
    rfl
  rw [List.take_add_one, this]
  rfl
theorem ints_upto {its : Array Value} {ks : List Int} {y : Int} (h : IntsAre its.toList ks) (h0 : 0 ≤ y) : IntsAre (slicePick its none (some y) none).toList (ks.take y.toNat) := by
  have := slice_ints_uptoW h h0
  rwa [Array.toArray_toList] at this
section
variable {prog : Program} {w : World} {A : Around} {E : Value → Shared → Prop} {s : Shared} {h₀ : Heap} {L l b : Addr} {m : PySem.Str → Option Value} {news : Led} {its jts : Array Value} {ks ls : List Int} {x y : Nat} {Q : Value → Shared → Prop}
theorem il_upto {value slice : PySem.Expr} {u : Tok} {y : Int} (F : Fr h₀ L s.heap m) (N : News h₀ L s.heap news) (m1 : (l, (⟨.type "list", none, .seq its x, #[]⟩ : Obj)) ∈ news) (o1 : IntsAre its.toList ks) (h0 : 0 ≤ y) (hz : ks.length ≤ 5000)
    (h : ∀ D c h', IntsAre c.toList (ks.take y.toNat) → Fr h₀ L h' m → News h₀ L h' ((D, listOf c 0) :: news) → (∀ q ∈ news, q.1 < D) → Q (.ref D) { s with heap := h' })
    (hs : subscripted slice false (.ref l) (.ref s.heap.objs.size) = operate [.ref s.heap.objs.size, .ref l] (getItem (.ref l) (.ref s.heap.objs.size)) := by with_unfolding_all rfl) (ht : ∀ r, letTemporaryGo value (.ref l) r = pure () := by intro _; with_unfolding_all rfl) :
    wpAny (model prog w) A (subscriptTail value slice (.ref l) (.ref s.heap.objs.size)) Q E { s with heap := s.heap.push { cls := .type "slice", data := .fields #[.none, .int y u, .none] } } :=
  kmk_slice F N ⟨_, (N _ m1).1, rfl, x, rfl⟩ (lo := none) (hi := some y) (by constructor) (by constructor) (fun D h' F' N' l1 => h D _ h' (ints_upto o1 h0) F' N' l1) hs ht (by rw [← Array.length_toList, o1.length, sizeLine_eq]; omega)
theorem il_add (F : Fr h₀ L s.heap m) (N : News h₀ L s.heap news) (m1 : (l, (⟨.type "list", none, .seq its x, #[]⟩ : Obj)) ∈ news) (m2 : (b, (⟨.type "list", none, .seq jts y, #[]⟩ : Obj)) ∈ news) (o1 : IntsAre its.toList ks) (o2 : IntsAre jts.toList ls) (hz : ks.length + ls.length ≤ 5000)
    (h : ∀ D c h', IntsAre c.toList (ks ++ ls) → Fr h₀ L h' m → News h₀ L h' ((D, listOf c 0) :: news) → (∀ q ∈ news, q.1 < D) → Q (.ref D) { s with heap := h' }) :
    wpAny (model prog w) A (binaryOp .Add (.ref l) (.ref b)) Q E s := by
  have s1 := o1.length
  have s2 := o2.length
  refine add_lists (vs := its.toList) (ws := jts.toList) F N ⟨_, (N _ m1).1, rfl, x, rfl⟩ ⟨_, (N _ m2).1, rfl, y, rfl⟩ (fun h' F' N' => ?_) (by rw [s1, s2, sizeLine_eq]; omega)
  exact h _ (its.toList ++ jts.toList).toArray h' (o1.append o2) F' N' (fun q hq => Heap.lt_size (N q hq).1)
/-- an item of a list of ints -/
theorem il_item {value slice : PySem.Expr} {u : Tok} {k : Int} (N : News h₀ L s.heap news) (m1 : (l, (⟨.type "list", none, .seq its x, #[]⟩ : Obj)) ∈ news) (o1 : IntsAre its.toList ks) (h0 : 0 ≤ k) (h1 : k < ks.length) (hz : ks.length ≤ 5000)
    (h : ∀ t, Q (.int (ks.getD k.toNat 0) t) s)
    (hs : subscripted slice false (.ref l) (.int k u) = operate [.ref l, .int k u] (getItem (.ref l) (.int k u)) := by with_unfolding_all rfl) :
    wpAny (model prog w) A (subscriptTail value slice (.ref l) (.int k u)) Q E s := by
  obtain ⟨t, ht⟩ := ints_get o1 (i := k.toNat) (by omega)
  have hL : s.heap.IsList l its := ⟨_, (N _ m1).1, rfl, x, rfl⟩
  exact tail_any hL.typeIs slot_list_getitem.lookup (wpAny_getItem_list hL h0 (by omega) (by simpa using ht) (h t)) hs
end
theorem first1 {ks rs : List Int} {i e : Int} (hrl : (rs.length : Int) = e) (hrg : ∀ i : Int, 0 ≤ i → i < e → rs.getD i.toNat 0 = ks.getD i.toNat 0) (h0 : 0 ≤ i) : (sl rs i (i + 1) ++ [-1]).take 1 = [peekV ks i e] := by
  rw [sl_one h0, hrl]
  unfold peekV
  split
  · rw [hrg i h0 (by assumption)]; rfl
  · rfl
theorem peek_bnd {ks rs : List Int} {b : Array UInt8} {i e : Int} (hb : KBw.bInts b = rs) (hrl : (rs.length : Int) = e) (hrg : ∀ i : Int, 0 ≤ i → i < e → rs.getD i.toNat 0 = ks.getD i.toNat 0) (h0 : 0 ≤ i) : -1000000 < peekV ks i e ∧ peekV ks i e < 1000000 := by
  unfold peekV
  split
  · have := getD_oct (i := i.toNat) (octet_of hb)
    rw [← hrg i h0 (by assumption)]
    omega
  · omega
theorem kw46_deedpre_0 : True := by
  k_with "binaryOp Add ref ref" => (k_here; (with_reducible show wpAny _ _ (binaryOp _ (Value.ref _) (Value.ref _)) _ _ _); k_dflt (refine il_add (by k_asm) (by k_asm) (by k_mem) (by k_mem) (by first | with_reducible assumption | exact IntsAre.cons _ _ .nil | k_asm) (by first | with_reducible assumption | exact IntsAre.cons _ _ .nil | k_asm) (by (simp only [List.length_append, List.length_take, List.length_cons, List.length_nil]; omega)) ?_); intro zDq zcq zhq zoq zFq zNq zl1; (try k_lt zl1); (try k_sweep))
  trivial
theorem kw46_deedpre_1 : True := by
  k_with "subscriptTail" => (k_here; (with_reducible show wpAny _ _ (subscriptTail _ (PySem.Expr.Slice _ _ none _) (Value.ref _) (Value.ref _)) _ _ _); (with_reducible rename Fr _ _ _ _ => zFq); (with_reducible rename News _ _ _ _ => zNq); k_dflt (refine il_upto (s := ⟨_, _, _, _, _⟩) zFq zNq (by k_mem) (by k_asm) (by omega) (by (simp only [List.length_append, List.length_take, List.length_cons, List.length_nil]; omega)) ?_); intro zDq zcq zhq zoq zFq zNq zl1; (try k_lt zl1); (try k_sweep))
  trivial
theorem il_abs {ys : List Value} {ks : List Int} (h : IntsAre ys ks) : ∃ k, k = ks ∧ IntsAre ys k := ⟨_, rfl, h⟩
theorem foldl_if (P : Int → Prop) [DecidablePred P] : ∀ (l acc : List Int), List.foldl (fun l' k' => if P k' then l' ++ [k'] else l') acc l = acc ++ l.filter (fun k => decide (P k))
  | [], acc => by simp
  | x :: r, acc => by
    rw [List.foldl_cons, foldl_if P r]
    by_cases h : P x
    · rw [if_pos h, List.filter_cons_of_pos (by simpa using h), List.append_assoc]; rfl
    · rw [if_neg h, List.filter_cons_of_neg (by simpa using h)]
theorem gspots (p : Int → Bool) : ∀ n : Nat, (∀ r, ((rangeKs 0 n).filter p).head? = some r → 0 ≤ r ∧ r < n ∧ p r = true ∧ ∀ k, 0 ≤ k → k < r → p k = false) ∧ ((rangeKs 0 n).filter p = [] → ∀ k : Int, 0 ≤ k → k < n → p k = false) ∧
    (∀ r, ((rangeKs 0 n).filter p).getLast? = some r → 0 ≤ r ∧ r < n ∧ p r = true ∧ ∀ k : Int, r < k → k < n → p k = false)
  | 0 => ⟨(fun r h => by simp [rangeKs] at h), (fun _ k h0 h1 => by omega), (fun r h => by simp [rangeKs] at h)⟩
  | n + 1 => by
    obtain ⟨i1, i2, i3⟩ := gspots p n
    have e : rangeKs 0 (n + 1) = rangeKs 0 n ++ [(n : Int)] := by
      unfold rangeKs
      rw [List.range_succ, List.map_append]
      simp
    rw [e, List.filter_append]
    cases hp : p (n : Int) with
    | true =>
      have e2 : [(n : Int)].filter p = [(n : Int)] := by simp [hp]
      rw [e2]
      refine ⟨fun r h => ?_, fun h => by simp at h, fun r h => ?_⟩
      · cases hs : (rangeKs 0 n).filter p with
        | nil =>
          rw [hs] at h
          simp at h
          subst h
          exact ⟨by omega, by omega, hp, fun k h0 h1 => i2 hs k h0 h1⟩
        | cons y t =>
          rw [hs] at h
          simp at h
          have := i1 y (by rw [hs]; rfl)
          subst h
          exact ⟨this.1, by omega, this.2.2.1, this.2.2.2⟩
      · rw [List.getLast?_append] at h
        simp at h
        subst h
        exact ⟨by omega, by omega, hp, fun k h0 h1 => by omega⟩
    | false =>
      have e2 : [(n : Int)].filter p = [] := by simp [hp]
      rw [e2, List.append_nil]
      have step : ∀ k : Int, k < ((n + 1 : Nat) : Int) → k = n ∨ k < n := fun k h => by omega
      refine ⟨fun r h => ?_, fun h k h0 h1 => ?_, fun r h => ?_⟩
      · have := i1 r h
        exact ⟨this.1, by omega, this.2.2.1, this.2.2.2⟩
      · rcases step k h1 with rfl | hk
        · exact hp
        · exact i2 h k h0 hk
      · have := i3 r h
        refine ⟨this.1, by omega, this.2.2.1, fun k h0 h1 => ?_⟩
        rcases step k h1 with rfl | hk
        · exact hp
        · exact this.2.2.2 k h0 hk
theorem stand_dec {rs ws : List Int} {k : Int} : stand rs ws k = decide (sl rs k (k + ws.length) = ws) := by
  unfold stand
  rw [Bool.eq_iff_iff]
  simp
theorem spots_find {rs ws : List Int} {f : Int} : FindR rs ws (max f 0) (((((rangeKs 0 ((rs.length : Int) - ws.length + 1 - 0).toNat).filter (fun k => decide (sl rs k (k + ws.length) = ws))).filter (fun k => decide (f ≤ k))) ++ [-1]).getD 0 0) := by
  rw [List.filter_filter]
  obtain ⟨g1, g2, _⟩ := gspots (fun a => decide (f ≤ a) && decide (sl rs a (a + ws.length) = ws)) ((rs.length : Int) - ws.length + 1 - 0).toNat
  cases hs : (rangeKs 0 ((rs.length : Int) - ws.length + 1 - 0).toNat).filter (fun a => decide (f ≤ a) && decide (sl rs a (a + ws.length) = ws)) with
  | nil =>
    refine .inl ⟨rfl, fun k h0 h1 => ?_⟩
    have := g2 hs k (by omega) (by omega)
    rw [decide_eq_true (show f ≤ k by omega), Bool.true_and] at this
    rw [stand_dec]
    exact this
  | cons y t =>
    obtain ⟨a, b, c, d⟩ := g1 y (by rw [hs]; rfl)
    simp only [Bool.and_eq_true, decide_eq_true_iff] at c
    refine .inr ⟨?_, ?_, ?_, fun k h0 h1 => ?_⟩
    · show max f 0 ≤ y; omega
    · show y + _ ≤ _; omega
    · show stand rs ws y = true
      rw [stand_dec]; exact decide_eq_true c.2
    · have := d k (by omega) h1
      rw [decide_eq_true (show f ≤ k by omega), Bool.true_and] at this
      rw [stand_dec]
      exact this
theorem spots_last {rs ws : List Int} : LastR rs ws (([-1] ++ (rangeKs 0 ((rs.length : Int) - ws.length + 1 - 0).toNat).filter (fun k => decide (sl rs k (k + ws.length) = ws))).getD (([-1] ++ (rangeKs 0 ((rs.length : Int) - ws.length + 1 - 0).toNat).filter (fun k => decide (sl rs k (k + ws.length) = ws))).length - 1) 0) := by
  obtain ⟨_, g2, g3⟩ := gspots (fun a => decide (sl rs a (a + ws.length) = ws)) ((rs.length : Int) - ws.length + 1 - 0).toNat
  cases hs : (rangeKs 0 ((rs.length : Int) - ws.length + 1 - 0).toNat).filter (fun a => decide (sl rs a (a + ws.length) = ws)) with
  | nil =>
    refine .inl ⟨rfl, fun k h0 h1 => ?_⟩
    rw [stand_dec]
    exact g2 hs k (by omega) (by omega)
  | cons y t =>
    have hg : (y :: t).getLast? = some ((y :: t).getD t.length 0) := by
      rw [List.getLast?_eq_getElem?]
      simp [List.getD]
    have e : ([-1] ++ (y :: t)).getD (([-1] ++ (y :: t)).length - 1) 0 = (y :: t).getD t.length 0 := by simp [List.getD]
    rw [e]
    obtain ⟨a, b, c, d⟩ := g3 _ (by rw [hs]; exact hg)
    refine .inr ⟨a, by omega, ?_, fun k h0 h1 => ?_⟩
    · rw [stand_dec]; exact c
    · rw [stand_dec]
      exact d k h0 (by omega)
theorem name1 {g h : Heap} {L a : Addr} {oa : Obj} {r : Led} (_ : News g L h ((a, oa) :: r)) : ∃ a' : Addr, a' = a := ⟨a, rfl⟩
theorem il_last {prog : Program} {w : World} {A : Around} {E : Value → Shared → Prop} {s : Shared} {h₀ : Heap} {L l : Addr} {news : Led} {its : Array Value} {ks : List Int} {x : Nat} {Q : Value → Shared → Prop} {value slice : PySem.Expr} {u : Tok} (N : News h₀ L s.heap news) (m1 : (l, (⟨.type "list", none, .seq its x, #[]⟩ : Obj)) ∈ news) (o1 : IntsAre its.toList ks) (h1 : 0 < ks.length)
    (h : ∀ t, Q (.int (ks.getD (ks.length - 1) 0) t) s)
    (hs : subscripted slice false (.ref l) (.int (-1) u) = operate [.ref l, .int (-1) u] (getItem (.ref l) (.int (-1) u)) := by with_unfolding_all rfl) :
    wpAny (model prog w) A (subscriptTail value slice (.ref l) (.int (-1) u)) Q E s := by
  obtain ⟨t, ht⟩ := ints_get o1 (i := ks.length - 1) (by omega)
  have hL : s.heap.IsList l its := ⟨_, (N _ m1).1, rfl, x, rfl⟩
  have hz : its.size = ks.length := by rw [← Array.length_toList, o1.length]
  have e : (-1 + (its.size : Int)).toNat = ks.length - 1 := by omega
  exact tail_any hL.typeIs slot_list_getitem.lookup (wpAny_getItem_list_neg hL (by omega) (by omega) (by omega) (by rw [e]; simpa using ht) (h t)) hs
theorem kw46_deedpre_2 : True := by
  k_with "subscriptTail" => (k_here; (with_reducible show wpAny _ _ (subscriptTail (PySem.Expr.BinOp _ _ _ _) _ (Value.ref _) (Value.int _ _)) _ _ _); k_dflt (first | (refine il_item (by k_asm) (by k_mem) (by k_asm) (by decide) (by (simp only [List.length_append, List.length_cons, List.length_nil]; omega)) (by (simp only [List.length_append, List.length_cons, List.length_nil]; omega)) ?_) | (refine il_last (by k_asm) (by k_mem) (by k_asm) (by (simp only [List.length_append, List.length_cons, List.length_nil]; omega)) ?_)); intro zt9)
  trivial
theorem FindR.bnd {rs ws : List Int} {f r : Int} (h : FindR rs ws (max f 0) r) : -1 ≤ r ∧ r ≤ rs.length := by
  rcases h with ⟨e, _⟩ | ⟨a, b, _, _⟩ <;> omega
theorem LastR.bnd {rs ws : List Int} {r : Int} (h : LastR rs ws r) : -1 ≤ r ∧ r ≤ rs.length := by
  rcases h with ⟨e, _⟩ | ⟨a, b, _, _⟩ <;> omega
theorem rangeKs_succ (n : Nat) : rangeKs 0 (n + 1) = rangeKs 0 n ++ [(n : Int)] := by
  unfold rangeKs
  rw [List.range_succ, List.map_append]
  simp
theorem spot_yes {rs ws : List Int} {i : Nat} {ys : List Value} {t : Tok} {j : Int} (hj : j = i) (h : IntsAre ys ((rangeKs 0 i).filter (fun k => decide (sl rs k (k + ws.length) = ws)))) (hq : (sl rs j (j + ws.length) == ws) = true) :
    IntsAre (ys ++ [.int j t]) ((rangeKs 0 (i + 1)).filter (fun k => decide (sl rs k (k + ws.length) = ws))) := by
  subst hj
  rw [rangeKs_succ, List.filter_append, List.filter_cons_of_pos (by simpa using hq), List.filter_nil]
  exact ints_snoc _ _ h
theorem spot_no {rs ws : List Int} {i : Nat} {ys : List Value} {j : Int} (hj : j = i) (h : IntsAre ys ((rangeKs 0 i).filter (fun k => decide (sl rs k (k + ws.length) = ws)))) (hq : (sl rs j (j + ws.length) == ws) = false) :
    IntsAre ys ((rangeKs 0 (i + 1)).filter (fun k => decide (sl rs k (k + ws.length) = ws))) := by
  subst hj
  rw [rangeKs_succ, List.filter_append, List.filter_cons_of_neg (by simpa using hq), List.filter_nil, List.append_nil]
  exact h
theorem off6 {x P H DX L : Addr} {o1 o2 o3 o4 o5 o6 : Obj} (h1 : @Ne Nat P x) (h2 : @Ne Nat H x) (h3 : @Ne Nat DX x) (h4 : @LT.lt Nat _ x L) : AllNeN x [(P, o1), (L + 1 + 1 + 1, o2), (L + 1 + 1, o3), (L + 1, o4), (H, o5), (DX, o6)] := by
  simp only [AllNeN, and_true]
  omega
theorem kw46_deedpre : True := by
  k_with "stop" => (first | (with_reducible show wpAny _ _ (exec (Stmt.If _ _ _ _) _) _ _ _) | (with_reducible show wpAny _ _ (eval (Expr.IfExp _ _ _ _) _) _ _ _) | (with_reducible show wpAny _ _ (eval (Expr.ListComp _ _ _ _) _) _ _ _) | (with_reducible show wpAny _ _ (exec (Stmt.Assign _ (Expr.ListComp _ _ _ _) _) _) _ _ _) | (with_reducible show wpAny _ _ (eval (Expr.Call (Expr.Name (Str.ofString "_law_run") _) _ _ _) _) _ _ _) | (with_reducible show LCg.CompEnd _ _ _ _ _ _ _ _ _ _ _ _ _ _) | (with_reducible show LCt.CompSrcT _ _ _ _ _ _ _ _ _ _ _ _ _ _ _))
  trivial
theorem filter_yes {f k : Int} (h : f ≤ k) : List.filter (fun k => decide (f ≤ k)) (some k).toList = [k] := List.filter_cons_of_pos (decide_eq_true h)
theorem filter_no {f k : Int} (h : ¬ f ≤ k) : List.filter (fun k => decide (f ≤ k)) (some k).toList = [] := List.filter_cons_of_neg (by simpa using h)
set_option maxHeartbeats 16000000 in
theorem law_deed {P H DX : Addr} {po o : Obj} {W T : Led} {c a e : Int} {ks : List Int} {b : Array UInt8} {bt it : Tok} (hp : isPen c po) (hc : c < 900000) (hcu : isCur ks a e o) (ha : 0 ≤ a) (hae : a ≤ e) (he : e ≤ ks.length) (hz : ks.length < 900) (hb : KBw.bInts b = ks.take e.toNat)
    (hPH : @Ne Nat P H) (hPD : @Ne Nat P DX) (hHD : @Ne Nat H DX) (hW : WT W) (hT : TT T) (hWT : Off T W) (hoff : Off (W ++ T) [(P, po), (H, instObj 147 DX), (DX, o)]) :
    Con 204 [.ref P, .ref H, .bytes b bt, .int a it] 7 ([(P, po), (H, instObj 147 DX), (DX, o)] ++ (W ++ T)) (DeedPost P H DX ks e c) := by
  have hcu' := hcu
  obtain ⟨z1, z2, z3, t1, t2, t3, u1, u2, u3, x, y, d, hox, hks, hxa, hya⟩ := hcu
  replace hxa := hxa.symm
  replace hya := hya.symm
  subst hox; subst hxa; subst hya
  obtain ⟨rs, hrs, hrl, hrg⟩ := view ks (by omega : 0 ≤ e) he
  rw [← hrs] at hb
  have hbl : b.size = rs.length := by rw [← hb, bInts_len]
  refine' con_ofD ?off ?ho ?hcd ?hbind ?hkind ?hnd ?hco ?hgen ?hk ?hb
  case off => exact fun q hq p hp => hoff q hq p hp
  case ho => (intro w; k_dflt k_is)
  case hcd => (intro w; k_dflt k_is)
  case hbind => (intro w s X; (first | exact BindsTo.of_eq rfl | exact binds_K X rfl (by k_is) rfl rfl rfl))
  case hkind => exact rfl
  case hnd => decide +kernel
  case hco => exact rfl
  case hgen => exact rfl
  case hk => exact rfl
  unfold BodyD
  intro w w p loose mean mg mb dp un gd fr base g₀ g L s h tk cells hdp hun B₀ X₀ T₀ c1 c2 U F N Y l1
  have B := below_keeps B₀ U.stays
  have X := X₀.keeps U.stays
  have Tp := T₀.keeps U.stays
  k_lt l1
  k_cells Y
  simp only [List.cons_append, List.nil_append] at N
  (with_reducible show wpAny _ _ _ _ _ _)
  k_fold
  k_steps
  (rename Fr _ _ _ _ => F1)
  (rename News _ _ _ _ => N1)
  obtain ⟨po2, cf, cw, co, ea1, ea2, ea3, ea4⟩ := nm4 N1
  subst ea1; subst ea2; subst ea3; subst ea4
  have hcf : cf.data = .cell none := by assumption
  have hcw : cw.data = .cell none := by assumption
  have hco : co.data = .cell (some (.bytes b bt)) := by assumption
  have hp2 : isPen (c + 2) po2 := isPen.le (by assumption) (by omega)
  obtain ⟨m1, hm1, F2⟩ := fr_abs F1
  have e1 : m1 "pen" = some (.ref P) := by rw [hm1]; rfl
  have e2 : m1 "head" = some (.ref H) := by rw [hm1]; rfl
  have e3 : m1 "here" = some (.int a it) := by rw [hm1]; rfl
  obtain ⟨dd, dt, e4, hd0, hd1⟩ : ∃ d t, m1 "deed" = some (.int d t) ∧ 0 ≤ d ∧ d < 10 := by rw [hm1]; exact ⟨_, _, rfl, by assumption, by assumption⟩
  obtain ⟨ah, aht, e5, hah0, hah1⟩ : ∃ d t, m1 "ahead" = some (.int d t) ∧ 0 ≤ d ∧ d < 3 := by rw [hm1]; exact ⟨_, _, rfl, by assumption, by assumption⟩
  clear hm1 F1
  replace F2 := fr_names0 [(Str.ofString "pen", .ref P), (Str.ofString "head", .ref H), (Str.ofString "here", .int a it), (Str.ofString "deed", .int dd dt), (Str.ofString "ahead", .int ah aht)] ⟨e1, e2, e3, e4, e5, trivial⟩ F2
  refine wpAny_mono (Q := WordQ g L (kstB m1 [(Str.ofString "pen", .ref P), (Str.ofString "head", .ref H), (Str.ofString "here", .int a it), (Str.ofString "deed", .int dd dt), (Str.ofString "ahead", .int ah aht)]) P c [(L + 1 + 1 + 1, cf), (L + 1 + 1, cw), (L + 1, co), (H, instObj 147 DX), (DX, dictOf [⟨z1, .str "data" t1, .bytes d u1⟩, ⟨z2, .str "at" t2, .int a u2⟩, ⟨z3, .str "end" t3, .int e u3⟩] 3)] s) ?word (fun v s₁ hq => ?_) (fun _ _ x => x)
  case word =>
    walk1
    k_steps
    · rename (KBw.bInts _ = sl rs a (a + ah)) => hq
      refine WordQ.mk (by k_asm) (by k_asm) ?_ (isPen.le (by k_asm) (by omega))
      rw [← bInts_len, hq]
      unfold sl
      rw [List.length_take]
      omega
    · exact WordQ.mk (by k_asm) (tlN (by k_asm)) (show (1 : Nat) ≤ 2 by decide) (isPen.le (by k_asm) (by omega))
  obtain ⟨wd, wt, po3, h', tk', rfl, hwd, hp3, rfl, F3, N3⟩ := hq
  clear F2 N1
  obtain ⟨ws, hws⟩ : ∃ ws, KBw.bInts wd = ws := ⟨_, rfl⟩
  have hwl : (ws.length : Int) = wd.size := by rw [← hws, bInts_len]
  k_steps
  (rename Fr _ _ _ _ => F4)
  (rename News _ _ _ _ => N4)
  obtain ⟨po4, cf4, cw4, co4, ea1, ea2, ea3, ea4⟩ := nm4 N4
  subst ea1; subst ea2; subst ea3; subst ea4
  have hcw4 : cw4.data = .cell (some (.bytes wd wt)) := by assumption
  obtain ⟨m2, hm2, F5⟩ := fr_abs F4
  replace F5 := fr_names0 [(Str.ofString "pen", .ref P), (Str.ofString "head", .ref H), (Str.ofString "here", .int a it), (Str.ofString "deed", .int dd dt), (Str.ofString "ahead", .int ah aht), (Str.ofString "stands", .bool (sl rs a (a + ws.length) == ws))] ⟨by rw [hm2]; rfl, by rw [hm2]; rfl, by rw [hm2]; rfl, by rw [hm2]; rfl, by rw [hm2]; rfl, by rw [hm2]; rfl, trivial⟩ F5
  clear hm2 F4 hcw e1 e2 e3 e4 e5
  have hp4 : isPen (c + 10) po4 := isPen.le (by assumption) (by omega)
  have hst := stand_view (ws := ws) hrs hrl ha hae
  have hel := eol_view hrl hrg ha
  have hrv := reg_view (a := a) hb
  have hoc := octet_of hb
  have hsv : ∀ j, j ≤ e → sl rs a j = sl ks a j := fun j h => by rw [hrs]; exact sl_take h
  have hge := runTo_ge regB rs a
  have hle : runTo regB rs a ≤ rs.length := runTo_le (by omega) ha
  have hdd := ten hd0 hd1
  rcases hdd with rfl | rfl | rfl | rfl | rfl | rfl | rfl | rfl | rfl | rfl
  · iterate 1 (walk1; k_steps)
    refine ListComp_B (F₀ := by k_asm) (by with_unfolding_all rfl) (by decide) (by rfl) (by decide) (by rfl) ?_
    k_steps
    (rename Fr _ _ _ _ => F6)
    (rename News _ _ _ _ => N6)
    rename (KBw.bInts _ = sl rs (a) (a + 1)) => hb1
    have hl1 : (sl rs (a) (a + 1)).length ≤ 1000 := Nat.le_trans sl_len (by omega)
    obtain ⟨led, hled, N7⟩ := news_abs N6
    refine BSrc.intro rfl F6 N7 (by rw [← bInts_len, hb1, sizeLine_eq]; omega) (fun g' => ?_)
    refine comp_inv (fun i ys nx => nx = led ∧ IntsAre ys ((sl rs (a) (a + 1)).take i)) ⟨rfl, .nil⟩ ?turn ?fin
    case turn =>
      rintro i v I oI C oC D m₂ ys nx h tk E' hi ⟨n, tv, hn, rfl⟩ hC hx ⟨rfl, hys⟩ F8 N8 hof hne
      clear N6 N7 F6
      (with_reducible show wpAny _ _ _ _ _ _)
      k_steps
      exact LCg.CompEnd.intro (by k_asm) (by k_asm) _ (fun p hp => hp) hof trivial ⟨rfl, by rw [take_at hb1 hn]; exact ints_snoc _ _ hys⟩
    case' fin =>
      rintro ys nx ⟨rfl, hys⟩
      subst hled
      rw [List.take_of_length_le (by rw [← hb1, bInts_len]; exact Nat.le_refl _)] at hys
      clear N6 N7 F6 hb1
      k_steps
    refine ListComp_B (F₀ := by k_asm) (by with_unfolding_all rfl) (by decide) (by rfl) (by decide) (by rfl) ?_
    k_steps
    (rename Fr _ _ _ _ => F6)
    (rename News _ _ _ _ => N6)
    rename (KBw.bInts _ = sl rs (a + ah) (a + ah + 1)) => hb1
    have hl1 : (sl rs (a + ah) (a + ah + 1)).length ≤ 1000 := Nat.le_trans sl_len (by omega)
    obtain ⟨led, hled, N7⟩ := news_abs N6
    refine BSrc.intro rfl F6 N7 (by rw [← bInts_len, hb1, sizeLine_eq]; omega) (fun g' => ?_)
    refine comp_inv (fun i ys nx => nx = led ∧ IntsAre ys ((sl rs (a + ah) (a + ah + 1)).take i)) ⟨rfl, .nil⟩ ?turn2 ?fin2
    case turn2 =>
      rintro i v I oI C oC D m₂ ys nx h tk E' hi ⟨n, tv, hn, rfl⟩ hC hx ⟨rfl, hys⟩ F8 N8 hof hne
      clear N6 N7 F6
      (with_reducible show wpAny _ _ _ _ _ _)
      k_steps
      exact LCg.CompEnd.intro (by k_asm) (by k_asm) _ (fun p hp => hp) hof trivial ⟨rfl, by rw [take_at hb1 hn]; exact ints_snoc _ _ hys⟩
    case' fin2 =>
      rintro ys nx ⟨rfl, hys⟩
      subst hled
      rw [List.take_of_length_le (by rw [← hb1, bInts_len]; exact Nat.le_refl _)] at hys
      clear N6 N7 F6 hb1
      k_steps
    have hf1 := first1 hrl hrg ha
    have hf2 := first1 hrl hrg (i := a + ah) (by omega)
    have hb5 := peek_bnd hb hrl hrg ha
    have hb6 := peek_bnd hb hrl hrg (i := a + ah) (by omega)
    rename (IntsAre _ (_ ++ _)) => hI
    rw [hf1, hf2] at hI
    exact deed_end U (by k_asm) (by k_asm) (by k_upd) (.ints _ _ _ _ _ _ _ (.cons _ _ (.cons _ _ .nil)) hI (Nat.le_refl 2) (fun k hk => by
      rcases List.mem_cons.mp hk with rfl | hk
      · exact hb5
      · rw [List.mem_singleton.mp hk]; exact hb6)) hp4 hcu' ha hae hW hT hWT hoff
  · iterate 2 (walk1; k_steps)
    all_goals (walk1; k_steps)
    · have hq := hrg a ha (by omega)
      have hq2 := getD_oct (i := a.toNat) hoc
      exact deed_end U (by k_asm) (by k_asm) (by k_upd) (.int' (by rw [peekV_lt (by omega)]; exact hq.symm) (small_log (by rw [peekV_lt (by omega)]; omega) (by rw [peekV_lt (by omega)]; omega))) hp4 (mkCur (by k_asm) (by (repeat' split) <;> omega) rfl) (by split <;> omega) (by split <;> omega) hW hT hWT hoff
    · exact deed_end U (by k_asm) (by k_asm) (by k_upd) (.int' (peekV_ge (by omega)) (by rw [peekV_ge (by omega)]; decide)) hp4 (mkCur (by k_asm) (by (repeat' split) <;> omega) rfl) (by split <;> omega) (by split <;> omega) hW hT hWT hoff
  · iterate 3 (walk1; k_steps)
    exact deed_end U (by k_asm) (by k_asm) (by k_upd) (.bools' hst (by rw [Bool.eq_iff_iff]; simp; omega)) hp4 hcu' ha hae hW hT hWT hoff
  · iterate 4 (walk1; k_steps)
    all_goals (walk1; k_steps)
    · rename (_ == _) = true => hq
      have h3 : a + ws.length ≤ e := of_decide_eq_true (Bool.and_eq_true_iff.mp (hst.trans hq)).1
      exact deed_end U (by k_asm) (by k_asm) (by k_upd) (.bool' hst) hp4 (mkCur (by k_asm) (by rw [hst, if_pos hq]) rfl) (by omega) h3 hW hT hWT hoff
    · rename (_ == _) = false => hq
      exact deed_end U (by k_asm) (by k_asm) (by k_upd) (.bool' hst) hp4 (mkCur (by k_asm) (by rw [hst, if_neg (by rw [hq]; exact Bool.false_ne_true)]) rfl) ha hae hW hT hWT hoff
  · iterate 4 (walk1; k_steps)
    have U4 := Up.hide (W := W) (T := T) U hWT
    have F6 := Up.hideFr (W := W) F5
    have N6 := Up.hideNews U F5 N4
    have B6 := below_keeps B₀ U4.stays
    have X6 := X₀.keeps U4.stays
    have T6 := T₀.keeps U4.stays
    have oW := off_all (W := W) (fun q hq => hoff q (List.mem_append_left _ hq))
    have lW := allLt_of (show ∀ q ∈ W, q.1 < L from fun q hq => U.lt F5 q (List.mem_append_left _ hq))
    clear F5 N4 B X Tp hcu' U
    rcases hW with _ | @⟨d1, od1, hd1, hc1⟩
    all_goals
      simp only [AllNeN, AllLt, and_true] at oW lW
      simp only [List.cons_append, List.nil_append] at N6
      walk1
      k_steps
    all_goals
      rename WTo rs a _ => hw2
      rename WTo (List.take _ _) a _ => hw1
      rw [← hrs] at hw1
      have hwg := hw2.ge
    · exact deed_endW (W := [(187, tabObj #[])]) U4 (by k_asm) (by k_asm) (by k_upd) (by k_upd) .none hp4 (mkCur (by k_asm) (hw1.one hw2) rfl) (by omega) (by omega) (.no) hT (Off.cons (by first | exact ⟨Ne.symm oW.1, Ne.symm oW.2.1, Ne.symm oW.2.2, trivial⟩ | (simp only [AllNeN, and_true]; omega)) .nil)
    · exact deed_endW (W := [(187, _), (_, _)]) U4 (by k_asm) (by k_asm) (by k_upd) (by k_upd) .none hp4 (mkCur (by k_asm) (hw1.one hw2) rfl) (by omega) (by omega) (.yes (by k_asm) (by k_asm)) hT (Off.cons (by first | exact ⟨Ne.symm oW.1, Ne.symm oW.2.1, Ne.symm oW.2.2, trivial⟩ | (simp only [AllNeN, and_true]; omega)) (Off.cons (by first | exact ⟨zA.2.2.1, zA.1, zA.2.1, trivial⟩ | (simp only [AllNeN, and_true]; omega)) .nil))
    · exact deed_endW (W := [(187, tabObj #[])]) U4 (by k_asm) (by k_asm) (by k_upd) (by k_upd) .none hp4 (mkCur (by k_asm) (hw1.one hw2) rfl) (by omega) (by omega) (.no) hT (Off.cons (by first | exact ⟨Ne.symm oW.1.1, Ne.symm oW.2.1.1, Ne.symm oW.2.2.1, trivial⟩ | (simp only [AllNeN, and_true]; omega)) .nil)
    · exact deed_endW (W := [(187, _), (_, _)]) U4 (by k_asm) (by k_asm) (by k_upd) (by k_upd) .none hp4 (mkCur (by k_asm) (hw1.one hw2) rfl) (by omega) (by omega) (.yes (by k_asm) (by k_asm)) hT (Off.cons (by first | exact ⟨Ne.symm oW.1.1, Ne.symm oW.2.1.1, Ne.symm oW.2.2.1, trivial⟩ | (simp only [AllNeN, and_true]; omega)) (Off.cons (by first | exact ⟨zA.2.2.1, zA.1, zA.2.1, trivial⟩ | (simp only [AllNeN, and_true]; omega)) .nil))
  · iterate 6 (walk1; k_steps)
    walk1
    k_steps
    rename (_ = runTo regB _ _) => hj
    rename (KBw.bInts _ = sl rs a (runTo reg2B rs a)) => hb2
    rename (KBw.bInts _ = sl ks a _) => hb1
    rw [← hrs, hrv] at hj
    exact deed_end U (by k_asm) (by k_asm) (by k_upd) (.bytes' hb1 hb2 (by rw [hj]; exact (hsv _ (by omega)).symm) (Nat.le_trans sl_len (by omega))) hp4 (mkCur (by k_asm) hj rfl) (by omega) (by omega) hW hT hWT hoff
  · iterate 7 (walk1; k_steps)
    have hbd := eol_bnd (ks := rs) (e := rs.length) (a := a) (by omega)
    exact deed_end U (by k_asm) (by k_asm) (by k_upd) (.bool' (by rw [hel])) hp4 (mkCur (by k_asm) hel rfl) (by omega) (by omega) hW hT hWT hoff
  · iterate 7 (walk1; k_steps)
    have U7 := Up.hide (W := T) (T := W) U.swap hWT.swap
    have F6 := Up.hideFr (W := T) F5
    have N6 := Up.hideNews U.swap F5 N4
    have B6 := below_keeps B₀ U7.stays
    have X6 := X₀.keeps U7.stays
    have T6 := T₀.keeps U7.stays
    have oW := off_all (W := T) (fun q hq => hoff q (List.mem_append_right _ hq))
    have lW := allLt_of (show ∀ q ∈ T, q.1 < L from fun q hq => U.lt F5 q (List.mem_append_right _ hq))
    have hgn := runTo_ge notEol rs a
    have hln : runTo notEol rs a ≤ rs.length := runTo_le (by omega) ha
    clear F5 N4 B X Tp U
    walk1
    k_steps
    refine wpAny_mono (Q := RunQ (gh g T) L (kstB m2 [(Str.ofString "pen", .ref P), (Str.ofString "head", .ref H), (Str.ofString "here", .int a it), (Str.ofString "deed", .int 7 dt), (Str.ofString "ahead", .int ah aht), (Str.ofString "stands", .bool (sl rs a (a + ws.length) == ws))]) [(P, po4), (L + 1 + 1 + 1, cf4), (L + 1 + 1, cw4), (L + 1, co4), (H, instObj 147 DX), (DX, dictOf [⟨z1, .str "data" t1, .bytes d u1⟩, ⟨z2, .str "at" t2, .int a u2⟩, ⟨z3, .str "end" t3, .int e u3⟩] 3)] (runTo notEol rs a) s) ?run (fun v s₁ hq => ?_) (fun _ _ x => x)
    case run =>
      rcases hT with _ | @⟨d1, od1, hd1, hc1⟩ | @⟨d1, od1, hd1, hc1⟩ | @⟨d1, d2, od1, od2, hd1, hd2, hd3, hc1, hc2⟩ | @⟨d1, d2, od1, od2, hd1, hd2, hd3, hc1, hc2⟩
      all_goals
        (try (obtain ⟨cvs1, tt1, ho1, hv1⟩ := id hc1))
        (try (obtain ⟨cvs2, tt2, ho2, hv2⟩ := id hc2))
        simp only [AllNeN, AllLt, and_true] at oW lW
        simp only [List.cons_append, List.nil_append] at N6
        walk1
        k_steps
      · rename (Obj.data _ = Data.fields _) => hq1; rename (_[_]? = some _) => hq2; exact RunQ.mk (T' := [(201, _), (_, _)]) (by k_asm) (by k_asm) (by k_upd) (by k_upd) (.a (by omega) ⟨_, _, hq1, hq2⟩) (Off.cons (by first | exact off6 oW.1 oW.2.1 oW.2.2 lW | exact off6 oW.1.1 oW.2.1.1 oW.2.2.1 lW.1 | exact off6 oW.1.2 oW.2.1.2 oW.2.2.2 lW.2 | exact off6 oW.1.2.1 oW.2.1.2.1 oW.2.2.2.1 lW.2.1 | exact off6 oW.1.2.2 oW.2.1.2.2 oW.2.2.2.2 lW.2.2 | (simp only [AllNeN, and_true]; omega)) (Off.cons (by first | exact off6 oW.1 oW.2.1 oW.2.2 lW | exact off6 oW.1.1 oW.2.1.1 oW.2.2.1 lW.1 | exact off6 oW.1.2 oW.2.1.2 oW.2.2.2 lW.2 | exact off6 oW.1.2.1 oW.2.1.2.1 oW.2.2.2.1 lW.2.1 | exact off6 oW.1.2.2 oW.2.1.2.2 oW.2.2.2.2 lW.2.2 | (simp only [AllNeN, and_true]; omega)) .nil))
      · exact RunQ.mk (T' := [(201, _), (_, _)]) (by k_asm) (by k_asm) (by k_upd) (by k_upd) (.a hd1 hc1) (Off.cons (by first | exact off6 oW.1 oW.2.1 oW.2.2 lW | exact off6 oW.1.1 oW.2.1.1 oW.2.2.1 lW.1 | exact off6 oW.1.2 oW.2.1.2 oW.2.2.2 lW.2 | exact off6 oW.1.2.1 oW.2.1.2.1 oW.2.2.2.1 lW.2.1 | exact off6 oW.1.2.2 oW.2.1.2.2 oW.2.2.2.2 lW.2.2 | (simp only [AllNeN, and_true]; omega)) (Off.cons (by first | exact off6 oW.1 oW.2.1 oW.2.2 lW | exact off6 oW.1.1 oW.2.1.1 oW.2.2.1 lW.1 | exact off6 oW.1.2 oW.2.1.2 oW.2.2.2 lW.2 | exact off6 oW.1.2.1 oW.2.1.2.1 oW.2.2.2.1 lW.2.1 | exact off6 oW.1.2.2 oW.2.1.2.2 oW.2.2.2.2 lW.2.2 | (simp only [AllNeN, and_true]; omega)) .nil))
      · rename (Obj.data _ = Data.fields _) => hq1; rename (_[_]? = some _) => hq2; exact RunQ.mk (T' := [(201, _), (_, _), (_, _)]) (by k_asm) (by k_asm) (by k_upd) (by k_upd) (.ba (by omega) hd1 (by omega) ⟨_, _, hq1, hq2⟩ hc1) (Off.cons (by first | exact off6 oW.1 oW.2.1 oW.2.2 lW | exact off6 oW.1.1 oW.2.1.1 oW.2.2.1 lW.1 | exact off6 oW.1.2 oW.2.1.2 oW.2.2.2 lW.2 | exact off6 oW.1.2.1 oW.2.1.2.1 oW.2.2.2.1 lW.2.1 | exact off6 oW.1.2.2 oW.2.1.2.2 oW.2.2.2.2 lW.2.2 | (simp only [AllNeN, and_true]; omega)) (Off.cons (by first | exact off6 oW.1 oW.2.1 oW.2.2 lW | exact off6 oW.1.1 oW.2.1.1 oW.2.2.1 lW.1 | exact off6 oW.1.2 oW.2.1.2 oW.2.2.2 lW.2 | exact off6 oW.1.2.1 oW.2.1.2.1 oW.2.2.2.1 lW.2.1 | exact off6 oW.1.2.2 oW.2.1.2.2 oW.2.2.2.2 lW.2.2 | (simp only [AllNeN, and_true]; omega)) (Off.cons (by first | exact off6 oW.1 oW.2.1 oW.2.2 lW | exact off6 oW.1.1 oW.2.1.1 oW.2.2.1 lW.1 | exact off6 oW.1.2 oW.2.1.2 oW.2.2.2 lW.2 | exact off6 oW.1.2.1 oW.2.1.2.1 oW.2.2.2.1 lW.2.1 | exact off6 oW.1.2.2 oW.2.1.2.2 oW.2.2.2.2 lW.2.2 | (simp only [AllNeN, and_true]; omega)) .nil)))
      · exact RunQ.mk (T' := [(201, _), (_, _), (_, _)]) (by k_asm) (by k_asm) (by k_upd) (by k_upd) (.ab hd1 hd2 hd3 hc1 hc2) (Off.cons (by first | exact off6 oW.1 oW.2.1 oW.2.2 lW | exact off6 oW.1.1 oW.2.1.1 oW.2.2.1 lW.1 | exact off6 oW.1.2 oW.2.1.2 oW.2.2.2 lW.2 | exact off6 oW.1.2.1 oW.2.1.2.1 oW.2.2.2.1 lW.2.1 | exact off6 oW.1.2.2 oW.2.1.2.2 oW.2.2.2.2 lW.2.2 | (simp only [AllNeN, and_true]; omega)) (Off.cons (by first | exact off6 oW.1 oW.2.1 oW.2.2 lW | exact off6 oW.1.1 oW.2.1.1 oW.2.2.1 lW.1 | exact off6 oW.1.2 oW.2.1.2 oW.2.2.2 lW.2 | exact off6 oW.1.2.1 oW.2.1.2.1 oW.2.2.2.1 lW.2.1 | exact off6 oW.1.2.2 oW.2.1.2.2 oW.2.2.2.2 lW.2.2 | (simp only [AllNeN, and_true]; omega)) (Off.cons (by first | exact off6 oW.1 oW.2.1 oW.2.2 lW | exact off6 oW.1.1 oW.2.1.1 oW.2.2.1 lW.1 | exact off6 oW.1.2 oW.2.1.2 oW.2.2.2 lW.2 | exact off6 oW.1.2.1 oW.2.1.2.1 oW.2.2.2.1 lW.2.1 | exact off6 oW.1.2.2 oW.2.1.2.2 oW.2.2.2.2 lW.2.2 | (simp only [AllNeN, and_true]; omega)) .nil)))
      · exact RunQ.mk (T' := [(201, _), (_, _), (_, _)]) (by k_asm) (by k_asm) (by k_upd) (by k_upd) (.ba hd1 hd2 hd3 hc1 hc2) (Off.cons (by first | exact off6 oW.1 oW.2.1 oW.2.2 lW | exact off6 oW.1.1 oW.2.1.1 oW.2.2.1 lW.1 | exact off6 oW.1.2 oW.2.1.2 oW.2.2.2 lW.2 | exact off6 oW.1.2.1 oW.2.1.2.1 oW.2.2.2.1 lW.2.1 | exact off6 oW.1.2.2 oW.2.1.2.2 oW.2.2.2.2 lW.2.2 | (simp only [AllNeN, and_true]; omega)) (Off.cons (by first | exact off6 oW.1 oW.2.1 oW.2.2 lW | exact off6 oW.1.1 oW.2.1.1 oW.2.2.1 lW.1 | exact off6 oW.1.2 oW.2.1.2 oW.2.2.2 lW.2 | exact off6 oW.1.2.1 oW.2.1.2.1 oW.2.2.2.1 lW.2.1 | exact off6 oW.1.2.2 oW.2.1.2.2 oW.2.2.2.2 lW.2.2 | (simp only [AllNeN, and_true]; omega)) (Off.cons (by first | exact off6 oW.1 oW.2.1 oW.2.2 lW | exact off6 oW.1.1 oW.2.1.1 oW.2.2.1 lW.1 | exact off6 oW.1.2 oW.2.1.2 oW.2.2.2 lW.2 | exact off6 oW.1.2.1 oW.2.1.2.1 oW.2.2.2.1 lW.2.1 | exact off6 oW.1.2.2 oW.2.1.2.2 oW.2.2.2.2 lW.2.2 | (simp only [AllNeN, and_true]; omega)) .nil)))
    obtain ⟨T', t', h', tk', rfl, rfl, F7, N7, hT', hO⟩ := hq
    clear F6 N6 hT oW lW hWT hoff
    simp only [List.map_cons, List.map_nil] at hO
    simp only [List.cons_append, List.nil_append] at N7
    k_steps
    rename (_ = runTo notEol (List.take _ _) _) => hj
    rename (KBw.bInts _ = sl rs a (runTo notEol rs a)) => hb2
    rename (KBw.bInts _ = sl ks a _) => hb1
    rw [← hrs] at hj
    have hbd := eol_bnd (ks := rs) (e := rs.length) (a := runTo notEol rs a) (by omega)
    have hel2 := eol_view hrl hrg (a := runTo notEol rs a) (by omega)
    exact deed_endT U7 (by k_asm) (by k_asm) (by k_upd) (fun q hq => by repeat (first | exact hq | apply List.Mem.tail)) (.bytes' hb1 hb2 (by rw [hj]; exact (hsv _ (by omega)).symm) (Nat.le_trans sl_len (by omega))) hp4 (mkCur (by k_asm) (by rw [hj]; exact hel2) rfl) (by omega) (by omega) hW hT' (own_off hO (by k_mem) (by k_mem) (by k_mem))
  · iterate 8 (walk1; k_steps)
    have U7 := Up.hide (W := T) (T := W) U.swap hWT.swap
    have F6 := Up.hideFr (W := T) F5
    have N6 := Up.hideNews U.swap F5 N4
    have B6 := below_keeps B₀ U7.stays
    have X6 := X₀.keeps U7.stays
    have T6 := T₀.keeps U7.stays
    have oW := off_all (W := T) (fun q hq => hoff q (List.mem_append_right _ hq))
    have lW := allLt_of (show ∀ q ∈ T, q.1 < L from fun q hq => U.lt F5 q (List.mem_append_right _ hq))
    have hgn := runTo_ge figB rs a
    have hln : runTo figB rs a ≤ rs.length := runTo_le (by omega) ha
    clear F5 N4 B X Tp U
    walk1
    k_steps
    refine wpAny_mono (Q := RunQ (gh g T) L (kstB m2 [(Str.ofString "pen", .ref P), (Str.ofString "head", .ref H), (Str.ofString "here", .int a it), (Str.ofString "deed", .int 8 dt), (Str.ofString "ahead", .int ah aht), (Str.ofString "stands", .bool (sl rs a (a + ws.length) == ws))]) [(P, po4), (L + 1 + 1 + 1, cf4), (L + 1 + 1, cw4), (L + 1, co4), (H, instObj 147 DX), (DX, dictOf [⟨z1, .str "data" t1, .bytes d u1⟩, ⟨z2, .str "at" t2, .int a u2⟩, ⟨z3, .str "end" t3, .int e u3⟩] 3)] (runTo figB rs a) s) ?run (fun v s₁ hq => ?_) (fun _ _ x => x)
    case run =>
      rcases hT with _ | @⟨d1, od1, hd1, hc1⟩ | @⟨d1, od1, hd1, hc1⟩ | @⟨d1, d2, od1, od2, hd1, hd2, hd3, hc1, hc2⟩ | @⟨d1, d2, od1, od2, hd1, hd2, hd3, hc1, hc2⟩
      all_goals
        (try (obtain ⟨cvs1, tt1, ho1, hv1⟩ := id hc1))
        (try (obtain ⟨cvs2, tt2, ho2, hv2⟩ := id hc2))
        simp only [AllNeN, AllLt, and_true] at oW lW
        simp only [List.cons_append, List.nil_append] at N6
        walk1
        k_steps
      · rename (Obj.data _ = Data.fields _) => hq1; rename (_[_]? = some _) => hq2; exact RunQ.mk (T' := [(201, _), (_, _)]) (by k_asm) (by k_asm) (by k_upd) (by k_upd) (.b (by omega) ⟨_, _, hq1, hq2⟩) (Off.cons (by first | exact off6 oW.1 oW.2.1 oW.2.2 lW | exact off6 oW.1.1 oW.2.1.1 oW.2.2.1 lW.1 | exact off6 oW.1.2 oW.2.1.2 oW.2.2.2 lW.2 | exact off6 oW.1.2.1 oW.2.1.2.1 oW.2.2.2.1 lW.2.1 | exact off6 oW.1.2.2 oW.2.1.2.2 oW.2.2.2.2 lW.2.2 | (simp only [AllNeN, and_true]; omega)) (Off.cons (by first | exact off6 oW.1 oW.2.1 oW.2.2 lW | exact off6 oW.1.1 oW.2.1.1 oW.2.2.1 lW.1 | exact off6 oW.1.2 oW.2.1.2 oW.2.2.2 lW.2 | exact off6 oW.1.2.1 oW.2.1.2.1 oW.2.2.2.1 lW.2.1 | exact off6 oW.1.2.2 oW.2.1.2.2 oW.2.2.2.2 lW.2.2 | (simp only [AllNeN, and_true]; omega)) .nil))
      · rename (Obj.data _ = Data.fields _) => hq1; rename (_[_]? = some _) => hq2; exact RunQ.mk (T' := [(201, _), (_, _), (_, _)]) (by k_asm) (by k_asm) (by k_upd) (by k_upd) (.ab hd1 (by omega) (by omega) hc1 ⟨_, _, hq1, hq2⟩) (Off.cons (by first | exact off6 oW.1 oW.2.1 oW.2.2 lW | exact off6 oW.1.1 oW.2.1.1 oW.2.2.1 lW.1 | exact off6 oW.1.2 oW.2.1.2 oW.2.2.2 lW.2 | exact off6 oW.1.2.1 oW.2.1.2.1 oW.2.2.2.1 lW.2.1 | exact off6 oW.1.2.2 oW.2.1.2.2 oW.2.2.2.2 lW.2.2 | (simp only [AllNeN, and_true]; omega)) (Off.cons (by first | exact off6 oW.1 oW.2.1 oW.2.2 lW | exact off6 oW.1.1 oW.2.1.1 oW.2.2.1 lW.1 | exact off6 oW.1.2 oW.2.1.2 oW.2.2.2 lW.2 | exact off6 oW.1.2.1 oW.2.1.2.1 oW.2.2.2.1 lW.2.1 | exact off6 oW.1.2.2 oW.2.1.2.2 oW.2.2.2.2 lW.2.2 | (simp only [AllNeN, and_true]; omega)) (Off.cons (by first | exact off6 oW.1 oW.2.1 oW.2.2 lW | exact off6 oW.1.1 oW.2.1.1 oW.2.2.1 lW.1 | exact off6 oW.1.2 oW.2.1.2 oW.2.2.2 lW.2 | exact off6 oW.1.2.1 oW.2.1.2.1 oW.2.2.2.1 lW.2.1 | exact off6 oW.1.2.2 oW.2.1.2.2 oW.2.2.2.2 lW.2.2 | (simp only [AllNeN, and_true]; omega)) .nil)))
      · exact RunQ.mk (T' := [(201, _), (_, _)]) (by k_asm) (by k_asm) (by k_upd) (by k_upd) (.b hd1 hc1) (Off.cons (by first | exact off6 oW.1 oW.2.1 oW.2.2 lW | exact off6 oW.1.1 oW.2.1.1 oW.2.2.1 lW.1 | exact off6 oW.1.2 oW.2.1.2 oW.2.2.2 lW.2 | exact off6 oW.1.2.1 oW.2.1.2.1 oW.2.2.2.1 lW.2.1 | exact off6 oW.1.2.2 oW.2.1.2.2 oW.2.2.2.2 lW.2.2 | (simp only [AllNeN, and_true]; omega)) (Off.cons (by first | exact off6 oW.1 oW.2.1 oW.2.2 lW | exact off6 oW.1.1 oW.2.1.1 oW.2.2.1 lW.1 | exact off6 oW.1.2 oW.2.1.2 oW.2.2.2 lW.2 | exact off6 oW.1.2.1 oW.2.1.2.1 oW.2.2.2.1 lW.2.1 | exact off6 oW.1.2.2 oW.2.1.2.2 oW.2.2.2.2 lW.2.2 | (simp only [AllNeN, and_true]; omega)) .nil))
      · exact RunQ.mk (T' := [(201, _), (_, _), (_, _)]) (by k_asm) (by k_asm) (by k_upd) (by k_upd) (.ab hd1 hd2 hd3 hc1 hc2) (Off.cons (by first | exact off6 oW.1 oW.2.1 oW.2.2 lW | exact off6 oW.1.1 oW.2.1.1 oW.2.2.1 lW.1 | exact off6 oW.1.2 oW.2.1.2 oW.2.2.2 lW.2 | exact off6 oW.1.2.1 oW.2.1.2.1 oW.2.2.2.1 lW.2.1 | exact off6 oW.1.2.2 oW.2.1.2.2 oW.2.2.2.2 lW.2.2 | (simp only [AllNeN, and_true]; omega)) (Off.cons (by first | exact off6 oW.1 oW.2.1 oW.2.2 lW | exact off6 oW.1.1 oW.2.1.1 oW.2.2.1 lW.1 | exact off6 oW.1.2 oW.2.1.2 oW.2.2.2 lW.2 | exact off6 oW.1.2.1 oW.2.1.2.1 oW.2.2.2.1 lW.2.1 | exact off6 oW.1.2.2 oW.2.1.2.2 oW.2.2.2.2 lW.2.2 | (simp only [AllNeN, and_true]; omega)) (Off.cons (by first | exact off6 oW.1 oW.2.1 oW.2.2 lW | exact off6 oW.1.1 oW.2.1.1 oW.2.2.1 lW.1 | exact off6 oW.1.2 oW.2.1.2 oW.2.2.2 lW.2 | exact off6 oW.1.2.1 oW.2.1.2.1 oW.2.2.2.1 lW.2.1 | exact off6 oW.1.2.2 oW.2.1.2.2 oW.2.2.2.2 lW.2.2 | (simp only [AllNeN, and_true]; omega)) .nil)))
      · exact RunQ.mk (T' := [(201, _), (_, _), (_, _)]) (by k_asm) (by k_asm) (by k_upd) (by k_upd) (.ba hd1 hd2 hd3 hc1 hc2) (Off.cons (by first | exact off6 oW.1 oW.2.1 oW.2.2 lW | exact off6 oW.1.1 oW.2.1.1 oW.2.2.1 lW.1 | exact off6 oW.1.2 oW.2.1.2 oW.2.2.2 lW.2 | exact off6 oW.1.2.1 oW.2.1.2.1 oW.2.2.2.1 lW.2.1 | exact off6 oW.1.2.2 oW.2.1.2.2 oW.2.2.2.2 lW.2.2 | (simp only [AllNeN, and_true]; omega)) (Off.cons (by first | exact off6 oW.1 oW.2.1 oW.2.2 lW | exact off6 oW.1.1 oW.2.1.1 oW.2.2.1 lW.1 | exact off6 oW.1.2 oW.2.1.2 oW.2.2.2 lW.2 | exact off6 oW.1.2.1 oW.2.1.2.1 oW.2.2.2.1 lW.2.1 | exact off6 oW.1.2.2 oW.2.1.2.2 oW.2.2.2.2 lW.2.2 | (simp only [AllNeN, and_true]; omega)) (Off.cons (by first | exact off6 oW.1 oW.2.1 oW.2.2 lW | exact off6 oW.1.1 oW.2.1.1 oW.2.2.1 lW.1 | exact off6 oW.1.2 oW.2.1.2 oW.2.2.2 lW.2 | exact off6 oW.1.2.1 oW.2.1.2.1 oW.2.2.2.1 lW.2.1 | exact off6 oW.1.2.2 oW.2.1.2.2 oW.2.2.2.2 lW.2.2 | (simp only [AllNeN, and_true]; omega)) .nil)))
    obtain ⟨T', t', h', tk', rfl, rfl, F7, N7, hT', hO⟩ := hq
    clear F6 N6 hT oW lW hWT hoff
    simp only [List.map_cons, List.map_nil] at hO
    simp only [List.cons_append, List.nil_append] at N7
    k_steps
    walk1
    k_steps
    · rename (KBw.bInts _ = sl rs a (a + _)) => hjunk
      clear hjunk
      (rename Fr _ _ _ _ => F8)
      (rename News _ _ _ _ => N8)
      obtain ⟨m3, hm3, F9⟩ := fr_abs F8
      obtain ⟨dt0, e1⟩ : ∃ t, m3 "due" = some (.int 0 t) := by rw [hm3]; exact ⟨_, rfl⟩
      have e2 : m3 "head" = some (.ref H) := by rw [hm3]; rfl
      have e3 : m3 "here" = some (.int a it) := by rw [hm3]; rfl
      have e4 : m3 "end" = some (.int (runTo figB rs a) t') := by rw [hm3]; rfl
      clear hm3 F8
      replace F9 := fr_names0 [(Str.ofString "due", .int 0 dt0), (Str.ofString "head", .ref H), (Str.ofString "here", .int a it), (Str.ofString "end", .int (runTo figB rs a) t')] ⟨e1, e2, e3, e4, trivial⟩ F9
      (with_unfolding_all refine' For_invVF F9 ?k1 ?k2 ?_; (case k1 => exact rfl); (case k2 => exact rfl))
      k_steps
      (rename Fr _ _ _ _ => F10)
      (rename News _ _ _ _ => N10)
      rename (KBw.bInts _ = sl rs a (runTo figB rs a)) => hb3
      obtain ⟨led, hled, N11⟩ := news_abs N10
      clear N10
      (try clear N8)
      (try clear F9)
      refine' iter_bytesN (fun i m nx => nx = led ∧ m "head" = some (.ref H) ∧ m "here" = some (.int a it) ∧ m "end" = some (.int (runTo figB rs a) t') ∧ ∃ t, m "due" = some (.int (numV ((sl rs a (runTo figB rs a)).take i)) t)) rfl F10 N11 ?hj ?turn ?done
      case hj => exact ⟨rfl, rfl, rfl, rfl, _, rfl⟩
      case turn =>
        rintro i n t m₁ nx h tk own hi hadr hoff ⟨rfl, f1, f2, f3, td, f4⟩ F12 N12
        clear F10 N11
        replace F12 := fr_names [(Str.ofString "due", .int (numV ((sl rs a (runTo figB rs a)).take i)) td), (Str.ofString "head", .ref H), (Str.ofString "here", .int a it), (Str.ofString "end", .int (runTo figB rs a) t')] ⟨f4, f1, f2, f3, trivial⟩ F12
        (with_reducible show wpAny _ _ _ _ _ _)
        k_steps
        have hta := take_at hb3 hi
        exact InvEndN.intro (by k_asm) (by k_asm) ⟨rfl, rfl, rfl, rfl, _, by rw [hta, numV_snoc]; rfl⟩ rfl (fun q hq => List.mem_append_left _ hq) (fun q hq => List.mem_append_right _ hq)
      case done =>
        rintro m₁ nx h tk ⟨rfl, f1, f2, f3, td, f4⟩ F12 N12
        clear F10 N11
        replace F12 := fr_names0 [(Str.ofString "due", .int (numV ((sl rs a (runTo figB rs a)).take _)) td), (Str.ofString "head", .ref H), (Str.ofString "here", .int a it), (Str.ofString "end", .int (runTo figB rs a) t')] ⟨f4, f1, f2, f3, trivial⟩ F12
        rw [hled] at N12
        clear hled
        dsimp only
        k_steps
        all_goals
          rename (_ = runTo figB (List.take _ _) _) => hj
          rw [← hrs] at hj
        · exfalso
          omega
        · have hnb := numV_bound (sl rs a (runTo figB rs a)) 20 (run_figs ha) (by unfold sl; rw [List.length_take]; omega)
          walk1
          k_steps
          exact deed_endT U7 (by k_asm) (by k_asm) (by k_upd) (fun q hq => by repeat (first | exact hq | apply List.Mem.tail)) (.int' (by rw [hj, ← hsv _ (by omega), List.take_of_length_le (by rw [← hb3, bInts_len]; exact Nat.le_refl _)]) (by rw [hj, ← hsv _ (by omega)]; exact num_log hnb.1 hnb.2)) hp4 (mkCur (by k_asm) hj rfl) (by omega) (by omega) hW hT' (own_off hO (by k_mem) (by k_mem) (by k_mem))
    · walk1
      k_steps
      exact deed_endT U7 (by k_asm) (by k_asm) (by k_upd) (fun q hq => by repeat (first | exact hq | apply List.Mem.tail)) .none hp4 (by k_asm) ha hae hW hT' (own_off hO (by k_mem) (by k_mem) (by k_mem))
    · rename (_ = runTo figB (List.take _ _) _) => hj
      rw [← hrs] at hj
      exfalso
      omega
    · walk1
      k_steps
      exact deed_endT U7 (by k_asm) (by k_asm) (by k_upd) (fun q hq => by repeat (first | exact hq | apply List.Mem.tail)) .none hp4 (by k_asm) ha hae hW hT' (own_off hO (by k_mem) (by k_mem) (by k_mem))
    · rename (_ = runTo figB (List.take _ _) _) => hj
      rw [← hrs] at hj
      exfalso
      omega
  · clear hp4
    iterate 9 (walk1; k_steps)
    (rename Fr _ _ _ _ => F6)
    (rename News _ _ _ _ => N6)
    obtain ⟨po5, cf5, cw5, co5, ea1, ea2, ea3, ea4⟩ := nm4 N6
    subst ea1; subst ea2; subst ea3; subst ea4
    obtain ⟨f, ft, hcf5, hf0, hf1⟩ : ∃ f t, cf5.data = .cell (some (.int f t)) ∧ -1 ≤ f ∧ f < 900 := ⟨_, _, by assumption, by omega, by omega⟩
    have hp5 : isPen (c + 10) po5 := isPen.le (by assumption) (by omega)
    refine LCt.Assign_ListComp_T (F₀ := F6) (by rfl) (by with_unfolding_all rfl) (by with_unfolding_all rfl) (by decide) (by rfl) (by decide) (by rfl) (by rfl) (by rfl) ?_
    k_steps
    rename IsRange _ _ _ _ _ _ _ _ => hR
    (rename Fr _ _ _ _ => F6)
    (rename News _ _ _ _ => N6)
    refine LCt.CompSrcT.range rfl F6 N6 hR (small_one (by omega) (by omega) (by omega) (by omega)) (rangeSize_nat _ _) (by rw [sizeLine_eq]; omega) ?_
    intro g'
    refine comp_invT (fun i ys nx => nx = [(P, po5), (L + 1 + 1 + 1, cf5), (L + 1 + 1, cw5), (L + 1, co5), (H, instObj 147 DX), (DX, dictOf [⟨z1, .str "data" t1, .bytes d u1⟩, ⟨z2, .str "at" t2, .int a u2⟩, ⟨z3, .str "end" t3, .int e u3⟩] 3)] ∧ IntsAre ys ((rangeKs 0 i).filter (fun k => decide (sl rs k (k + ws.length) = ws)))) ⟨rfl, .nil⟩ ?turn8 ?fin8
    case turn8 =>
      rintro i v I oI C oC D m₂ ys nx h tk E' hi ⟨tv, rfl⟩ hC hx ⟨rfl, hy⟩ F10 N10 hof hne
      (try clear N6)
      (try clear F6)
      (with_reducible show wpAny _ _ _ _ _ _)
      k_steps
      · rename (_ == _) = true => hq
        exact LCg.CompEnd.intro (by k_asm) (by k_asm) _ (fun p hp => hp) hof trivial ⟨rfl, spot_yes (by omega) hy hq⟩
      · rename (_ == _) = false => hq
        exact LCg.CompEnd.intro (by k_asm) (by k_asm) _ (fun p hp => hp) hof trivial ⟨rfl, spot_no (by omega) hy hq⟩
    case' fin8 =>
      rintro ys nx ⟨rfl, hI9⟩
      (try clear N6)
      (try clear F6)
      obtain ⟨pls, hpls2, hI9⟩ := il_abs hI9
      have hL8 := hI9.length
      have hpl : pls.length ≤ 1000 := by rw [hpls2]; exact Nat.le_trans (List.length_filter_le _ _) (by rw [rangeKs_length]; omega)
      k_steps
    (rename Fr _ _ _ _ => F7)
    (rename News _ _ _ _ => N7)
    refine LCt.Assign_ListComp_T (F₀ := F7) (by rfl) (by with_unfolding_all rfl) (by with_unfolding_all rfl) (by decide) (by rfl) (by decide) (by rfl) (by rfl) (by rfl) ?_
    k_steps
    (rename Fr _ _ _ _ => F8)
    (rename News _ _ _ _ => N8)
    obtain ⟨Dp, hDp⟩ := name1 N8
    subst hDp
    refine LCt.CompSrcT.ledger rfl F8 N8 (List.Mem.head _) (by rw [List.size_toArray, hL8, sizeLine_eq]; omega) ?_
    intro g'
    refine comp_invT (fun i zs nx => nx = [(Dp, LCg.lst ys), (P, po5), (L + 1 + 1 + 1, cf5), (L + 1 + 1, cw5), (L + 1, co5), (H, instObj 147 DX), (DX, dictOf [⟨z1, .str "data" t1, .bytes d u1⟩, ⟨z2, .str "at" t2, .int a u2⟩, ⟨z3, .str "end" t3, .int e u3⟩] 3)] ∧ IntsAre zs ((pls.take i).filter (fun k => decide (f ≤ k)))) ⟨rfl, .nil⟩ ?turn9 ?fin9
    case turn9 =>
      rintro i v I oI C oC D m₂ zs nx h tk E' hi hv hC hx ⟨rfl, hz⟩ F10 N10 hof hne
      obtain ⟨k, tv, rfl, hk⟩ := IntsAre.at hI9 i v (by simpa using hv)
      (try clear N8)
      (try clear F8)
      (try clear N7)
      (try clear F7)
      (with_reducible show wpAny _ _ _ _ _ _)
      k_steps
      · refine LCg.CompEnd.intro (by k_asm) (by k_asm) _ (fun p hp => hp) hof (by lcg_src) ⟨rfl, ?_⟩
        rw [List.take_add_one, hk, List.filter_append, filter_yes (by assumption)]
        exact ints_snoc _ _ hz
      · refine LCg.CompEnd.intro (by k_asm) (by k_asm) _ (fun p hp => hp) hof (by lcg_src) ⟨rfl, ?_⟩
        rw [List.take_add_one, hk, List.filter_append, filter_no (by omega), List.append_nil]
        exact hz
    case' fin9 =>
      rintro zs nx ⟨rfl, hz⟩
      rw [List.take_of_length_le (by rw [List.size_toArray, hL8]; exact Nat.le_refl _)] at hz
      (try clear N8)
      (try clear F8)
      (try clear N7)
      (try clear F7)
      obtain ⟨lz, hlz, hz2⟩ := il_abs hz
      have hlzl : lz.length ≤ 1000 := by rw [hlz]; exact Nat.le_trans (List.length_filter_le _ _) hpl
      clear hz
      k_steps
    rename FindR _ _ _ _ => hF
    rename LastR _ _ _ => hLa
    rw [← hrs] at hF hLa
    have hbF := hF.bnd
    have hbL := hLa.bnd
    have q1 := hF.one (spots_find (f := f))
    have q2 := hLa.one spots_last
    rw [← hpls2] at q1 q2
    rw [← hlz] at q1
    exact deed_end U (by k_asm) (by k_asm) (by k_upd) (.ints _ _ _ _ _ _ _ (.cons _ _ (.cons _ _ .nil)) (by rw [q1, q2]; exact .cons _ _ (.cons _ _ .nil)) (Nat.le_refl 2) (fun k hk => by
      rcases List.mem_cons.mp hk with rfl | hk
      · omega
      · rw [List.mem_singleton.mp hk]; omega)) hp5 hcu' ha hae hW hT hWT hoff
theorem isList_stays {g g' : Heap} {a : Addr} {vs : Array Value} (h : g.IsList a vs) (st : g.StaysIn g') : g'.IsList a vs := by
  obtain ⟨o, x, y, z⟩ := h
  exact ⟨o, st _ _ x, y, z⟩
/-- what the making of the head leaves -/
def HeadQ (g : Heap) (L P : Addr) (m : PySem.Str → Option Value) (ks : List Int) (a c : Int) (rest : Led) (s : Shared) (fl : Flow) (s₁ : Shared) : Prop :=
  ∃ H DX o po e sb st hh tk, fl = .next ∧ s₁ = { s with heap := hh, toks := tk } ∧ isCur ks a e o ∧ a ≤ e ∧ e ≤ ks.length ∧ isPen (c + 10) po ∧ KBw.bInts sb = ks.take e.toNat ∧ @Ne Nat P H ∧ @Ne Nat P DX ∧ @Ne Nat H DX ∧
    AllNeN H rest ∧ AllNeN DX rest ∧ Fr g L hh (fun y => if y = Str.ofString "head" then some (.ref H) else if y = Str.ofString "shorter" then some (.bytes sb st) else m y) ∧ News g L hh ((P, po) :: (H, instObj 147 DX) :: (DX, o) :: rest)
/-- what a turn of the law's loop ends in -/
def TurnF (h₀ : Heap) (L I : Addr) (oI : Obj) (J : (PySem.Str → Option Value) → Led → Prop) (s₁ : Shared) (Q : Flow → Shared → Prop) (f : Flow) (s₂ : Shared) : Prop :=
  match f with
  | .ret v => Q (.ret v) s₂
  | .brk => Q .next s₂
  | _ => ∃ h' tk m' nx, s₂ = { s₁ with heap := h', toks := tk } ∧ Fr h₀ L h' m' ∧ News h₀ L h' ((I, oI) :: nx) ∧ (∀ p ∈ nx, @Ne Nat p.1 I) ∧ J m' nx
section
variable {prog : Program} {w : World} {A : Around} {E : Value → Shared → Prop} {s : Shared} {env : Env} {h₀ : Heap} {x : PySem.Str} {body : List Stmt} {Q : Flow → Shared → Prop}
/-- a loop over a range by an invariant whose ledger may move -/
theorem iter_rangeF {r : Addr} {a₀ b₀ : Int} {t₀ u₀ v₀ : Tok} {n : Nat} {m₀ : PySem.Str → Option Value} {news : Led} (J : Nat → (PySem.Str → Option Value) → Led → Prop)
    (hh : A.handled = none) (hr : IsRange s.heap r a₀ b₀ 1 t₀ u₀ v₀) (hsmall : Builtin.Range.small a₀ b₀ 1 = true) (hn : Builtin.Range.rangeSize a₀ b₀ 1 = (n : Int)) (F : Fr h₀ env.locals s.heap m₀) (N : News h₀ env.locals s.heap news) (hj : J 0 m₀ news)
    (turn : ∀ i t m₁ nx I oI h tk, i < n → J i m₁ nx → (∀ p ∈ nx, @Ne Nat p.1 I) →
      Fr h₀ env.locals h (fun y => if y = x then some (.int (a₀ + (i : Int)) t) else m₁ y) → News h₀ env.locals h ((I, oI) :: nx) →
      wpAny (model prog w) A (execs body env) (TurnF h₀ env.locals I oI (J (i + 1)) { s with heap := h, toks := tk } Q) E { s with heap := h, toks := tk })
    (done : ∀ m₁ nx h tk, J n m₁ nx → Fr h₀ env.locals h m₁ → News h₀ env.locals h nx → Q .next { s with heap := h, toks := tk }) :
    wpAny (model prog w) A (pyIter (.ref r)) (fun it s₂ => LoopAtV prog w A h₀ env x body Q E it s₂) E s := by
  refine wpAny_pyIter_range hr hsmall ?_
  have W : Walks prog w A s.heap.objs.size [s.heap.objs.size] [s.heap.objs.size] n (fun i v => i < n ∧ ∃ t, v = .int (a₀ + i * 1) t)
      (fun i h => IsRangeIter h s.heap.objs.size (a₀ + (i : Nat) * 1) ((n : Int) - (i : Nat)) 1) := (Walks.range hh _ a₀ 1 n).bound
  refine ⟨s.heap.objs.size, [s.heap.objs.size], [s.heap.objs.size], n, _, _, m₀, news, J, rfl, W, ?_, ?_, ?_, ?_, F.push _, (fun p hp => ⟨Heap.get?_push_of_some _ (N p hp).1, (N p hp).2⟩), hj, ?_, ?_⟩
  · intro hm
    exact absurd F.ns.lt ((List.mem_singleton.mp hm) ▸ Nat.lt_irrefl _)
  · intro b hb
    rw [List.mem_singleton.mp hb]
    exact next_is_new F
  · intro p hp hI
    exact absurd (Heap.lt_size (N p hp).1) ((List.mem_singleton.mp hI) ▸ Nat.lt_irrefl _)
  · show IsRangeIter _ _ _ _ _
    rw [hn]
    simpa using Heap.get?_push_size _ rfl
  · rintro i v m₁ nx s₁ own ⟨hh', tk', rfl⟩ hin ⟨_, t, rfl⟩ hJ hoff hown hown2 hcov hst F₁ N₁
    obtain ⟨oI, hoI⟩ : ∃ oI, hh'.get? s.heap.objs.size = some oI := ⟨_, hst⟩
    have hIn : (s.heap.objs.size, oI) ∈ own := hcov _ (List.mem_singleton.mpr rfl) (next_is_new F) oI hoI
    have hne : ∀ p ∈ nx, @Ne Nat p.1 s.heap.objs.size := fun p hp e => hoff p hp (by rw [show p.1 = s.heap.objs.size from e]; exact List.mem_singleton.mpr rfl)
    have e1 : a₀ + (i : Int) * 1 = a₀ + (i : Int) := by omega
    rw [e1] at F₁
    refine wpAny_mono (turn i t m₁ nx s.heap.objs.size oI hh' tk' hin hJ hne F₁ (fun p hp => ?_)) (fun f s₂ p => ?_) fun _ _ e => e
    · rcases List.mem_cons.mp hp with rfl | hp
      · exact N₁ _ (List.mem_append_left _ hIn)
      · exact N₁ _ (List.mem_append_right _ hp)
    · have fin : (∃ h' tk m' nx, s₂ = { s with heap := h', toks := tk } ∧ Fr h₀ env.locals h' m' ∧ News h₀ env.locals h' ((s.heap.objs.size, oI) :: nx) ∧ (∀ p ∈ nx, @Ne Nat p.1 s.heap.objs.size) ∧ J (i + 1) m' nx) →
          LoopStepU h₀ env.locals [s.heap.objs.size] own (J (i + 1)) { s with heap := hh', toks := tk' } .next s₂ := by
        rintro ⟨h', tk, m', nx', rfl, F', N', hne', hJ'⟩
        refine ⟨rfl, h', tk, m', nx', rfl, F', fun p hp => ?_, fun p hp hq => hne' p hp (List.mem_singleton.mp hq), hJ'⟩
        rcases List.mem_append.mp hp with hp | hp
        · have h1 : p.1 = s.heap.objs.size := List.mem_singleton.mp (hown p hp)
          have h2 := hown2 p hp
          rw [h1] at h2
          have h3 : p.2 = oI := by rw [hoI] at h2; exact (Option.some.inj h2).symm
          have : p = (s.heap.objs.size, oI) := Prod.ext h1 h3
          rw [this]
          exact N' _ (.head _)
        · exact N' _ (.tail _ hp)
      cases f with
      | ret v => exact .ret p
      | brk => exact .brk p
      | next => exact .next (fin p)
      | cont => exact .cont (fin p)
  · rintro h' tk m' nx F' N' _ hJ
    exact done m' nx h' tk hJ F' N'
end
/-- a contract spent where the ledger has an unwritten part -/
theorem use_mem {pre : Heap → Prop} {f : Addr} {vs : List Value} {D : Nat} {small news rest : Led} {post : Value → Led → Prop} {w : World} {p : Program} {loose : List Str} {mean : ExcName → Option Value} {mg mb : Str → Option Value}
    {A₀ A : Around} {base h₀ : Heap} {outer : List Env} {env : Env} {L : Addr} {m : Str → Option Value} {s : Shared} {Q E : Value → Shared → Prop}
    (C : ConP pre f vs D small post) (B : Below A₀ base outer h₀) (F : Fr h₀ L s.heap m) (X : (hd.heap_39 w.params).In h₀) (N : News h₀ L s.heap news) (T : Top p loose mean mg mb h₀) (c1 : CodeHd base 191 187) (c2 : CodeHd base 203 201)
    (hA : A.frames = some (env :: outer)) (hh : A.handled = none) (hf : env.frame = some L) (hke : env.scope.kind = .function) (hdp : A.depth + D < recursionLimit) (hu : A.units + 16 * D < cLine) (hpre : ∀ g, h₀.StaysIn g → pre g)
    (p1 : ∀ q ∈ small, q ∈ news) (p2 : ∀ q ∈ rest, q ∈ news) (p3 : ∀ p ∈ rest, ∀ q ∈ small, p.1 ≠ q.1)
    (ret : ∀ r small' h' tk', Fr h₀ L h' m → News h₀ L h' (small' ++ rest) → (∀ q ∈ small', ∀ p ∈ rest, q.1 ≠ p.1) → post r small' → Q r { s with heap := h', toks := tk' }) :
    wpAny (model PySem.Challenge.rw_nn0114_01.row.prog w) A (call (.ref f) vs) Q E s := by
  have NS : News h₀ L s.heap small := fun q hq => N q (p1 q hq)
  obtain ⟨BG, st⟩ := ground2 (s := s) B F NS hA hf hke
  refine C w p loose mean mg mb A (env :: outer) base s Q E hh hdp hu BG (X.keeps st) (T.keeps st) c1 c2 (hpre _ st) (fun q hq => (NS q hq).1) fun r small' h' tk' k hs hp => ?_
  obtain ⟨oL, es, ep, hL, r3⟩ := F.ns
  have notIn : ∀ b, (∀ q ∈ small, b ≠ q.1) → b ∉ small.map (·.1) := fun b h q => by
    obtain ⟨x, hx, rfl⟩ := List.mem_map.mp q
    exact h x hx rfl
  have kL : (gh s.heap small).get? L = some oL := hideAll_get _ hL (notIn _ fun q hq e => (NS q hq).2.1 e.symm)
  have kR : ∀ q ∈ rest, (gh s.heap small).get? q.1 = some q.2 := fun q hq => hideAll_get _ (N q (p2 q hq)).1 (notIn _ fun x hx => p3 q hq x hx)
  refine ret r small' h' tk' ⟨⟨oL, es, ep, k _ _ kL, r3⟩, fun b o e => k b o (st b o e), F.above⟩ (fun q hq => ?_) (fun q hq x hx e => ?_) hp
  · rcases List.mem_append.mp hq with hq | hq
    · refine ⟨(hs q hq).1, fun e => ?_, ?_⟩
      · have := (hs q hq).2; rw [e, kL] at this; cases this
      · cases e : h₀.get? q.1 with
        | none => rfl
        | some o => have := (hs q hq).2; rw [st _ _ e] at this; cases this
    · exact ⟨k _ _ (kR q hq), (N q (p2 q hq)).2⟩
  · have := (hs q hq).2; rw [e, kR x hx] at this; cases this
section
theorem slot_bytes_repr : Slot "bytes" "__repr__" "bytes.__repr__" :=
  .of (owner := "bytes") (n := "__repr__") (by rw [typeLookup_type, builtinLookup_eq_fast]; kernel_rfl) (by decide +kernel) (by decide +kernel) (by decide +kernel)
    (by first | exact .inl (by decide +kernel) | exact .inr (by decide +kernel)) (by rw [isSubtype_type]; kernel_rfl)
theorem entry_bytes_repr : entryFor table "bytes.__repr__" = some Builtin.«bytes.__repr__» := entryFor_of_tree (by kernel_rfl)
theorem args_bytes_repr (a : Value) : argsOk "bytes.__repr__" ⟨[a], []⟩ := by
  unfold argsOk; rw [signature?_of (id := "bytes.__repr__") (n := ['_', '_', 'r', 'p', 'e', 'r', '_', '_']) (o := ['s', 'e', 't', 'y', 'b']) (by kernel_rfl) FB.owner_bytes]; kernel_rfl
open Builtin in
theorem literalAsked_eq {b : Array UInt8} (h : b.size ≤ 1000) : Bytes.literalAsked b = pure (Bytes.literal b) := by
  unfold Bytes.literalAsked
  rw [KBy.tooLong_not (n := 4 * b.size + 3 + 0) (by omega)]
  rfl
theorem foldl_app_size (g : UInt8 → Array Nat) (hg : ∀ c, (g c).size ≤ 4) : ∀ (l : List UInt8) (acc : Array Nat), (l.foldl (fun acc c => acc ++ g c) acc).size ≤ acc.size + 4 * l.length
  | [], acc => by simp
  | x :: r, acc => by
    have h1 := foldl_app_size g hg r (acc ++ g x)
    have h2 := hg x
    rw [Array.size_append] at h1
    rw [List.foldl_cons, List.length_cons]
    omega
theorem literal_len {b : Array UInt8} (h : b.size ≤ 1000) : (Builtin.Bytes.literal b).length ≤ sizeLine := by
  rw [sizeLine_eq]
  unfold Builtin.Bytes.literal
  show (Array.push (Array.foldl (fun acc c => acc ++ _) _ b) _).size ≤ _
  rw [Array.size_push, ← Array.foldl_toList]
  refine Nat.le_trans (Nat.succ_le_succ (foldl_app_size _ (fun c => ?_) _ _)) ?_
  · dsimp only
    (repeat' split) <;> exact Nat.le_of_ble_eq_true rfl
  · rw [Array.length_toList]
    show 2 + 4 * b.size + 1 ≤ _
    omega
theorem gives_bytes_repr {b : Array UInt8} {t : Tok} (h : b.size ≤ 1000) : Gives (Builtin.«bytes.__repr__» ⟨[.bytes b t], []⟩) (.str (Builtin.Bytes.literal b)) := by
  refine .of_wp fun M A E s Q hq => ?_
  show wpAny M A (Builtin.Bytes.payload (.bytes b t) >>= fun p => Builtin.Bytes.literalAsked p >>= fun x => retStr x) _ E s
  refine wpAny_bind (wpAny_of_eq (a := b) rfl ?_)
  refine wpAny_bind (wpAny_of_eq (literalAsked_eq h) ?_)
  exact wpAny_bind (wpAny_mkStr (wpAny_pure ⟨_, rfl, hq.2⟩) hq.1)
theorem repr_of_bytes {prog : Program} {w : World} {A : Around} {E : Value → Shared → Prop} {s : Shared} {b : Array UInt8} {t : Tok} {Q : Value → Shared → Prop} (hz : b.size ≤ 1000) (h : Q (.str (Builtin.Bytes.literal b) s.toks) { s with toks := s.toks + 1 }) :
    wpAny (model prog w) A (call (.builtin "repr") [.bytes b t]) Q E s :=
  call_repr_gives (typeIs_bytes s b t) slot_bytes_repr entry_bytes_repr (args_bytes_repr _) (gives_bytes_repr hz) h (hx := literal_len hz)
end
/-- a value of a ledger shows as a text -/
def Shows (v : Value) (ex : Led) (x : PySem.Str) : Prop :=
  ∀ (prog : Program) (w : World) (A : Around) (E : Value → Shared → Prop) (s : Shared) (Q : Value → Shared → Prop), A.guards = some [] → A.units + 4 < cLine → (∀ q ∈ ex, s.heap.get? q.1 = some q.2) →
    (∀ h' t tk, (∀ b o, s.heap.get? b = some o → h'.get? b = some o) → Q (.str x t) { s with heap := h', toks := tk }) → wpAny (model prog w) A (call (.builtin "repr") [v]) Q E s
theorem shows_list {l : Addr} {vs : Array Value} {n : Nat} {ds : List PyData} {ex : Led} (hm : (l, listOf vs n) ∈ ex) (hr : ∀ h : Heap, ReadsAll h vs.toList ds []) (hsh : (PyData.list ds).showable = true) (hdict : (PyData.list ds).hasDict = false) (hdep : (PyData.list ds).depth ≤ 2) (hz : (PyData.list ds).shown.length ≤ sizeLine) :
    Shows (.ref l) ex (PyData.list ds).shown := fun prog w A E s Q hg hu hs hQ =>
  repr_of_reads' (h₀ := s.heap) (.list (hs _ hm) rfl rfl (hr _)) hsh (fun h => by rw [hdict] at h; cases h) hg (by omega) (fun _ _ e => e) (fun h' u tk hk => hQ h' u tk hk) hz
theorem Same.shows {hv dv : Value} {ex : Led} (S : Same hv dv ex) : ∃ x, Shows hv ex x ∧ Shows dv ex x := by
  cases S with
  | int n t u h => exact ⟨_, fun prog w A E s Q hg hu hs hQ => P.repr_of_int h (hQ _ _ _ fun _ _ e => e), fun prog w A E s Q hg hu hs hQ => P.repr_of_int h (hQ _ _ _ fun _ _ e => e)⟩
  | bool b => exact ⟨_, fun prog w A E s Q hg hu hs hQ => P.repr_of_bool (hQ _ _ _ fun _ _ e => e), fun prog w A E s Q hg hu hs hQ => P.repr_of_bool (hQ _ _ _ fun _ _ e => e)⟩
  | none => exact ⟨_, fun prog w A E s Q hg hu hs hQ => P.repr_of_none (hQ _ _ _ fun _ _ e => e), fun prog w A E s Q hg hu hs hQ => P.repr_of_none (hQ _ _ _ fun _ _ e => e)⟩
  | bytes b t u h => exact ⟨_, fun prog w A E s Q hg hu hs hQ => repr_of_bytes h (hQ _ _ _ fun _ _ e => e), fun prog w A E s Q hg hu hs hQ => repr_of_bytes h (hQ _ _ _ fun _ _ e => e)⟩
  | «ints» l1 l2 vs ws ks n1 n2 h1 h2 h3 h4 =>
    refine ⟨(PyData.list (ks.map .int)).shown, shows_list (.head _) (fun h => h1.reads h) ?_ ?_ ?_ ?_, shows_list (.tail _ (.head _)) (fun h => h2.reads h) ?_ ?_ ?_ ?_⟩
    all_goals
      rcases ks with _ | ⟨a, _ | ⟨b, _ | ⟨c, r⟩⟩⟩
      · first | rfl | decide
      · first | rfl | exact Nat.le_of_ble_eq_true rfl | (have ha := h4 a (.head _); have la := small_log ha.1 ha.2; simp only [List.map_cons, List.map_nil]; first | (simp only [PyData.showable, PyData.showableAll, Bool.and_true, decide_eq_true_eq]; omega) | size_fits)
      · first | rfl | exact Nat.le_of_ble_eq_true rfl | (have ha := h4 a (.head _); have hb := h4 b (.tail _ (.head _)); have la := small_log ha.1 ha.2; have lb := small_log hb.1 hb.2; simp only [List.map_cons, List.map_nil]; first | (simp only [PyData.showable, PyData.showableAll, Bool.and_true, Bool.and_eq_true, decide_eq_true_eq]; omega) | size_fits)
      · simp only [List.length_cons] at h3; omega
  | bools l1 l2 a b n1 n2 =>
    refine ⟨(PyData.list [.bool a, .bool b]).shown, shows_list (.head _) (fun h => .cons (.bool a) (.cons (.bool b) .nil)) ?_ ?_ ?_ ?_, shows_list (.tail _ (.head _)) (fun h => .cons (.bool a) (.cons (.bool b) .nil)) ?_ ?_ ?_ ?_⟩
    all_goals first | rfl | exact Nat.le_of_ble_eq_true rfl | (cases a <;> cases b <;> decide)
theorem HeadQ.mk {g hh : Heap} {L P H DX : Addr} {m m' : PySem.Str → Option Value} {ks : List Int} {a c e : Int} {rest news : Led} {s : Shared} {o po : Obj} {sb : Array UInt8} {st : Tok} {tk : Nat} (F : Fr g L hh m') (N : News g L hh news) (hs : ∀ q ∈ (P, po) :: (H, instObj 147 DX) :: (DX, o) :: rest, q ∈ news)
    (hm : m' = fun y => if y = Str.ofString "head" then some (.ref H) else if y = Str.ofString "shorter" then some (.bytes sb st) else m y)
    (hc : isCur ks a e o) (h0 : a ≤ e) (h1 : e ≤ ks.length) (hp : isPen (c + 10) po) (hb : KBw.bInts sb = ks.take e.toNat) (h2 : @Ne Nat P H) (h3 : @Ne Nat P DX) (h4 : @Ne Nat H DX) (h5 : AllNeN H rest) (h6 : AllNeN DX rest) :
    HeadQ g L P m ks a c rest s .next { s with heap := hh, toks := tk } :=
  ⟨H, DX, o, po, e, sb, st, hh, tk, rfl, rfl, hc, h0, h1, hp, hb, h2, h3, h4, h5, h6, hm ▸ F, fun q hq => N q (hs q hq)⟩
theorem keepS {m : PySem.Str → Option Value} {v w : Option Value} (h : m (Str.ofString "shorter") = w) : (fun y => if y = Str.ofString "head" then v else m y) = fun y => if y = Str.ofString "head" then v else if y = Str.ofString "shorter" then w else m y := by
  funext y
  by_cases h1 : y = Str.ofString "head"
  · rw [if_pos h1, if_pos h1]
  · rw [if_neg h1, if_neg h1]
    by_cases h2 : y = Str.ofString "shorter"
    · rw [if_pos h2, h2, h]
    · rw [if_neg h2]
theorem mono_head {M : Model} {A : Around} {E : Value → Shared → Prop} {s : Shared} {t : Sem Flow} {Q : Flow → Shared → Prop} {g : Heap} {L P : Addr} {m : PySem.Str → Option Value} {ks : List Int} {a c : Int} {rest : Led} {po : Obj} (_ : Fr g L s.heap m) (_ : News g L s.heap ((P, po) :: rest))
    (h : wpAny M A t (HeadQ g L P m ks a c rest s) E s) (h2 : ∀ fl s₁, HeadQ g L P m ks a c rest s fl s₁ → Q fl s₁) : wpAny M A t Q E s :=
  wpAny_mono h h2 fun _ _ x => x
theorem kw59_lawlib : True := by
  k_with "stop" => (first | (with_reducible show wpAny _ _ (call (Value.ref 204) _) _ _ _) | (with_reducible show wpAny _ _ (call (Value.builtin "repr") _) _ _ _) | (with_reducible show TurnF _ _ _ _ _ _ _ _ _) | (with_reducible show wpAny _ _ (compareOp CmpOp.NotEq (Value.ref _) (Value.ref _)) _ _ _) | (with_reducible show LCg.CompSrc _ _ _ _ _ _ _ _ _ _ _ _ _ _))
  trivial
theorem fr_keep {g h h' : Heap} {L : Addr} {m : PySem.Str → Option Value} (F : Fr g L h m) (k : ∀ b o, h.get? b = some o → h'.get? b = some o) : Fr g L h' m := by
  obtain ⟨⟨oL, es, ep, hL, r3⟩, st, ab⟩ := F
  exact ⟨⟨oL, es, ep, k _ _ hL, r3⟩, fun b o e => k b o (st b o e), ab⟩
theorem news_keep {g h h' : Heap} {L : Addr} {news : Led} (N : News g L h news) (k : ∀ b o, h.get? b = some o → h'.get? b = some o) : News g L h' news :=
  fun q hq => ⟨k _ _ (N q hq).1, (N q hq).2⟩
theorem Shows.step {v : Value} {ex : Led} {x : PySem.Str} (S : Shows v ex x) {prog : Program} {w : World} {A : Around} {E : Value → Shared → Prop} {s : Shared} {Q : Value → Shared → Prop} {g : Heap} {L : Addr} {m : PySem.Str → Option Value} {news : Led}
    (F : Fr g L s.heap m) (N : News g L s.heap news) (hg : A.guards = some []) (hu : A.units + 4 < cLine) (hs : ∀ q ∈ ex, q ∈ news)
    (ret : ∀ h' t tk, Fr g L h' m → News g L h' news → Q (.str x t) { s with heap := h', toks := tk }) : wpAny (model prog w) A (call (.builtin "repr") [v]) Q E s :=
  S prog w A E s Q hg hu (fun q hq => (N q (hs q hq)).1) fun h' t tk k => ret h' t tk (fr_keep F k) (news_keep N k)
/-- the ledger behind a deed, written so that the walk reads it -/
theorem deed_led {g h : Heap} {L I C P H DX R : Addr} {oI cp oR oP oH oD : Obj} {ex W T : Led} (N : News g L h (((R, oR) :: (ex ++ [(P, oP), (H, oH), (DX, oD)])) ++ (W ++ T) ++ [(I, oI), (C, cp)])) :
    News g L h ((R, oR) :: (P, oP) :: (H, oH) :: (DX, oD) :: (C, cp) :: (I, oI) :: (ex ++ (W ++ T))) := fun q hq => N q (by
  simp only [List.mem_cons, List.mem_append, List.not_mem_nil, or_false] at hq ⊢
  rcases hq with h | h | h | h | h | h | h | h | h <;> simp [h])
theorem ints_ne_self (x : List Int) : (x != x) = false := by simp
theorem str_ne_self (x : PySem.Str) : (x != x) = false := by simp
theorem mem_rest {I C : Addr} {oI cp : Obj} {l : Led} : ∀ q ∈ [(I, oI), (C, cp)], q ∈ (I, oI) :: (C, cp) :: l := fun q hq => by
  simp only [List.mem_cons, List.not_mem_nil, or_false] at hq ⊢
  rcases hq with h | h <;> simp [h]
theorem mem_small {I C P H DX : Addr} {oI cp o1 o2 o3 : Obj} {l : Led} : ∀ q ∈ [(P, o1), (H, o2), (DX, o3)] ++ l, q ∈ (I, oI) :: (C, cp) :: (P, o1) :: (H, o2) :: (DX, o3) :: l := fun q hq => by
  simp only [List.mem_cons, List.mem_append, List.not_mem_nil, or_false] at hq ⊢
  rcases hq with (h | h | h) | h <;> simp [h]
theorem ne_rest {I C P H DX : Addr} {oI cp o1 o2 o3 : Obj} {l A : Led} (hI : ∀ p ∈ (C, cp) :: (P, o1) :: (H, o2) :: (DX, o3) :: l, @Ne Nat p.1 I) (hP : @Ne Nat P C) (hH : @Ne Nat H C) (hD : @Ne Nat DX C) (hl : Off l ((C, cp) :: A)) :
    ∀ p ∈ [(I, oI), (C, cp)], ∀ q ∈ [(P, o1), (H, o2), (DX, o3)] ++ l, p.1 ≠ q.1 := fun p hp q hq e => by
  rcases List.mem_cons.mp hp with rfl | hp
  · exact hI q (by
      simp only [List.mem_cons, List.mem_append, List.not_mem_nil, or_false] at hq ⊢
      rcases hq with (h | h | h) | h <;> simp [h]) e.symm
  · rw [List.mem_singleton.mp hp] at e
    rcases List.mem_append.mp hq with hq | hq
    · simp only [List.mem_cons, List.not_mem_nil, or_false] at hq
      rcases hq with rfl | rfl | rfl
      · exact hP e.symm
      · exact hH e.symm
      · exact hD e.symm
    · exact hl q hq (C, cp) (.head _) e.symm
theorem turn_led {g h : Heap} {L R I C P H DX : Addr} {oR oI cp oP oH oD : Obj} {ex W T : Led} (N : News g L h ((R, oR) :: (P, oP) :: (H, oH) :: (DX, oD) :: (C, cp) :: (I, oI) :: (ex ++ (W ++ T)))) : News g L h ((I, oI) :: (C, cp) :: (P, oP) :: (H, oH) :: (DX, oD) :: (W ++ T)) := fun q hq => N q (by
  simp only [List.mem_cons, List.mem_append] at hq ⊢
  rcases hq with h | h | h | h | h | h | h <;> simp [h])
theorem turn_ne {R I C P H DX : Addr} {oR oI cp oP oH oD : Obj} {ex W T : Led} (A : ∀ q ∈ ((R, oR) :: (ex ++ [(P, oP), (H, oH), (DX, oD)])) ++ (W ++ T), ∀ p ∈ [(I, oI), (C, cp)], q.1 ≠ p.1) (hIC : @Ne Nat C I) : ∀ p ∈ (C, cp) :: (P, oP) :: (H, oH) :: (DX, oD) :: (W ++ T), @Ne Nat p.1 I := fun p hp => by
  rcases List.mem_cons.mp hp with rfl | hp
  · exact hIC
  · refine A p ?_ (I, oI) (.head _)
    simp only [List.mem_cons, List.mem_append, List.not_mem_nil, or_false] at hp ⊢
    rcases hp with h | h | h | h | h <;> simp [h]
theorem turn_off {I C : Addr} {oI cp : Obj} {U W T : Led} (A : ∀ q ∈ U ++ (W ++ T), ∀ p ∈ [(I, oI), (C, cp)], q.1 ≠ p.1) : Off (W ++ T) [(C, cp)] := fun q hq p hp => by
  rw [List.mem_singleton.mp hp]
  exact A q (List.mem_append_right _ hq) (C, cp) (.tail _ (.head _))
theorem WT.tab {W : Led} (h : WT W) : ∃ ps, ((187, tabObj ps) : Addr × Obj) ∈ W := by
  cases h with
  | no => exact ⟨_, .head _⟩
  | yes _ _ => exact ⟨_, .head _⟩
theorem TT.tab {T : Led} (h : TT T) : ∃ ps, ((201, tabObj ps) : Addr × Obj) ∈ T := by
  cases h with
  | no => exact ⟨_, .head _⟩
  | a _ _ => exact ⟨_, .head _⟩
  | b _ _ => exact ⟨_, .head _⟩
  | ab _ _ _ _ _ => exact ⟨_, .head _⟩
  | ba _ _ _ _ _ => exact ⟨_, .head _⟩
theorem end_led {g h : Heap} {L C P H DX : Addr} {cp oP oH oD : Obj} {W T : Led} {p1 p2 : Array Value} (N : News g L h ((C, cp) :: (P, oP) :: (H, oH) :: (DX, oD) :: (W ++ T))) (h1 : ((187, tabObj p1) : Addr × Obj) ∈ W) (h2 : ((201, tabObj p2) : Addr × Obj) ∈ T) :
    News g L h [(P, oP), (C, cp), (187, tabObj p1), (201, tabObj p2)] := fun q hq => N q (by
  simp only [List.mem_cons, List.mem_append, List.not_mem_nil, or_false] at hq ⊢
  rcases hq with h | h | h | h
  · simp [h]
  · simp [h]
  · subst h; simp [h1]
  · subst h; simp [h2])
section
variable {prog : Program} {w : World} {A : Around} {E : Value → Shared → Prop} {s : Shared} {h₀ : Heap} {L l b : Addr} {news : Led} {xs ys : Array Value} {n k : Nat} {Q : Value → Shared → Prop}
/-- two lists of the ledger with the same items: they differ not -/
theorem same_ne (N : News h₀ L s.heap news) (m1 : (l, listOf xs n) ∈ news) (m2 : (b, listOf ys k) ∈ news) (hu : A.units < cLine) (e : xs = ys) (h : Q (.bool false) s) : wpAny (model prog w) A (compareOp .NotEq (.ref l) (.ref b)) Q E s := by
  subst e
  refine PySem.SeqAt.RcNeAt.lists (e := fun _ => true) ⟨_, (N _ m1).1, rfl, n, rfl⟩ ⟨_, (N _ m2).1, rfl, k, rfl⟩ rfl hu (fun j h1 h2 => PySem.SeqAt.EqAt.same _) prog w E Q ?_
  have : (!(List.range xs.size).all fun _ => true) = false := by simp
  rw [this]
  exact h
end
theorem fin_led {g h : Heap} {L a : Addr} {o : Obj} {p1 p2 : Array Value} {l : Led} (N : News g L h ((a, o) :: l)) (h1 : ((187, tabObj p1) : Addr × Obj) ∈ l) (h2 : ((201, tabObj p2) : Addr × Obj) ∈ l) : News g L h [(a, o), (187, tabObj p1), (201, tabObj p2)] := fun q hq => N q (by
  simp only [List.mem_cons, List.not_mem_nil, or_false] at hq ⊢
  rcases hq with h | h | h
  · simp [h]
  · subst h; simp [h1]
  · subst h; simp [h2])
theorem tests_a {c : Int} (h0 : 0 ≤ c) (h1 : 48 ≤ c) : (#[.bool (whiteB c), .bool (delimB c), .bool (regB c), .bool (figB c)] : Array Value) = #[.bool (whiteB c), .bool (delimB c), .bool (reg2B c), .bool (decide (c ≤ 57))] := by
  have e1 : regB c = reg2B c := reg_eq h0
  have e2 : figB c = decide (c ≤ 57) := by unfold figB; rw [decide_eq_true h1, Bool.true_and]
  rw [e1, e2]
theorem tests_b {c : Int} (h0 : 0 ≤ c) (h1 : ¬ 48 ≤ c) : (#[.bool (whiteB c), .bool (delimB c), .bool (regB c), .bool (figB c)] : Array Value) = #[.bool (whiteB c), .bool (delimB c), .bool (reg2B c), .bool (decide (48 ≤ c))] := by
  have e1 : regB c = reg2B c := reg_eq h0
  have e2 : figB c = decide (48 ≤ c) := by unfold figB; rw [decide_eq_false h1, Bool.false_and]
  rw [e1, e2]
theorem tests_c {c : Int} (h0 : ¬ 0 ≤ c) : (#[.bool (whiteB c), .bool (delimB c), .bool (regB c), .bool (figB c)] : Array Value) = #[.bool (whiteB c), .bool (delimB c), .bool (decide (0 ≤ c)), .bool (decide (48 ≤ c))] := by
  have e1 : regB c = decide (0 ≤ c) := by unfold regB; rw [decide_eq_false h0, Bool.false_and]
  have e2 : figB c = decide (48 ≤ c) := by unfold figB; rw [decide_eq_false (by omega), Bool.false_and]
  rw [e1, e2]
theorem law_post (as : List WData) : PySem.Challenge.rw_nn0114_01.row.claim.post as (.bool true) as = true := by
  refine postW_of (X := true) (by rfl) ?_ rfl
  show WTm.value [] (.eq .res (.lit (.bool true))) _ = _
  rw [w_eq_bool (k := true) (l := true) (by simp [WTm.value]) (by simp [WTm.value])]
  rfl
set_option rowWalk.seconds 0 in
set_option maxHeartbeats 4000000 in
theorem law_holds : PySem.Challenge.rw_nn0114_01.Holds := hd (by
  w_strict (k_go0; (all_goals try k_fold); k_steps)
  (rename Fr _ _ _ _ => F1)
  (rename News _ _ _ _ => N1)
  obtain ⟨P, hP⟩ := name1 N1
  subst hP
  obtain ⟨po, cp, tb1, tb2, ea1, ea2, ea3, ea4⟩ := nm4 N1
  subst ea1; subst ea2; subst ea3; subst ea4
  have hcp : cp.data = .cell (some (.ref P)) := by assumption
  have hp1 : isPen 102 po := isPen.le (by assumption) (by omega)
  obtain ⟨m1, hm1, F2⟩ := fr_abs F1
  obtain ⟨b, bt, ks, a, it, eo, es, ea, hb, hkz, ha0, ha1⟩ : ∃ b bt ks a it, m1 (Str.ofString "octets") = some (.bytes b bt) ∧ m1 (Str.ofString "shorter") = some (.bytes b bt) ∧ m1 (Str.ofString "here") = some (.int a it) ∧ KBw.bInts b = ks ∧ ks.length ≤ 50 ∧ 0 ≤ a ∧ a ≤ ks.length := by
    rw [hm1]
    exact ⟨_, _, _, _, _, rfl, rfl, rfl, by assumption, by assumption, by assumption, by omega⟩
  clear hm1 F1
  replace F2 := fr_names0 [(Str.ofString "octets", .bytes b bt), (Str.ofString "shorter", .bytes b bt), (Str.ofString "here", .int a it)] ⟨eo, es, ea, trivial⟩ F2
  refine mono_head (ks := ks) (a := a) (c := 104) F2 N1 ?mk (fun fl s₁ hq => ?after)
  case mk =>
    walk1
    k_steps
    iterate 4 (all_goals (try (walk1; k_steps)))
    · rename (KBw.bInts _ = List.take _ ks) => hb9
      exact HeadQ.mk (by k_asm) (by k_asm) (by k_upd) rfl (mkCur hb rfl (by first | rfl | ((try simp only [List.length_take]); (repeat' split) <;> omega))) (by omega) (by omega) (isPen.le (by k_asm) (by omega)) hb9 (by omega) (by omega) (by omega) (by simp only [AllNeN, and_true]; omega) (by simp only [AllNeN, and_true]; omega)
    · exact HeadQ.mk (e := ks.length) (by k_asm) (by k_asm) (by k_upd) (keepS rfl) (mkCur hb rfl (by first | rfl | ((try simp only [List.length_take]); (repeat' split) <;> omega))) (by omega) (by omega) (isPen.le (by k_asm) (by omega)) (by rw [hb]; simp) (by omega) (by omega) (by omega) (by simp only [AllNeN, and_true]; omega) (by simp only [AllNeN, and_true]; omega)
    · exact HeadQ.mk (e := ks.length) (by k_asm) (by k_asm) (by k_upd) (keepS rfl) (mkCur hb rfl (by first | rfl | ((try simp only [List.length_take]); (repeat' split) <;> omega))) (by omega) (by omega) (isPen.le (by k_asm) (by omega)) (by rw [hb]; simp) (by omega) (by omega) (by omega) (by simp only [AllNeN, and_true]; omega) (by simp only [AllNeN, and_true]; omega)
  case after =>
    obtain ⟨C, hC⟩ := name2 N1
    have hPC : @Ne Nat P C := by
      have hC' := (show @Eq Nat C _ from hC)
      omega
    have hP1 : @Ne Nat P 187 := by omega
    have hP2 : @Ne Nat P 201 := by omega
    obtain ⟨H, DX, o, po2, e, sb, st, hh, tk2, rfl, rfl, hcu, hae, hek, hp2, hsb, hPH, hPD, hHD, hHr, hDr, F3, N3⟩ := hq
    clear F2 N1
    have hHC : @Ne Nat H C := by
      have hC' := (show @Eq Nat C _ from hC)
      simp only [AllNeN, and_true] at hHr
      omega
    have hDC : @Ne Nat DX C := by
      have hC' := (show @Eq Nat C _ from hC)
      simp only [AllNeN, and_true] at hDr
      omega
    k_steps
    (rename Fr _ _ _ _ => F4)
    (with_unfolding_all refine' For_invVF F4 ?k1 ?k2 ?_; (case k1 => exact rfl); (case k2 => exact rfl))
    k_steps
    rename IsRange _ _ _ _ _ _ _ _ => hR
    (rename Fr _ _ _ _ => F5)
    (rename News _ _ _ _ => N5)
    rw [← hC] at N5
    refine' iter_rangeF (n := 14) (fun i m nx => ∃ W T po o a' it', nx = (C, cp) :: (P, po) :: (H, instObj 147 DX) :: (DX, o) :: (W ++ T) ∧ isPen (114 + 10 * i) po ∧ isCur ks a' e o ∧ 0 ≤ a' ∧ a' ≤ e ∧ WT W ∧ TT T ∧ Off T W ∧ Off (W ++ T) [(P, po), (H, instObj 147 DX), (DX, o)] ∧ Off (W ++ T) [(C, cp)] ∧
      m (Str.ofString "octets") = some (.bytes b bt) ∧ m (Str.ofString "shorter") = some (.bytes sb st) ∧ m (Str.ofString "head") = some (.ref H) ∧ m (Str.ofString "here") = some (.int a' it')) rfl hR ?hs ?hn F5 (news := (C, cp) :: (P, po2) :: (H, instObj 147 DX) :: (DX, o) :: ([(187, tabObj #[])] ++ [(201, tabObj #[])])) ?hN ?hj ?turn ?done
    case hs => exact small_one (by omega) (by omega) (by omega) (by omega)
    case hn => exact rangeSize_nat _ _
    case hN =>
      intro q hq
      refine N5 q ?_
      simp only [List.mem_cons, List.mem_append, List.mem_nil_iff, List.not_mem_nil, or_false] at hq ⊢
      rcases hq with h | h | h | h | h | h <;> simp [h]
    case hj =>
      have hC' := (show @Eq Nat C _ from hC)
      have hx1 : AllNeN 187 [(P, po2), (H, instObj 147 DX), (DX, o)] ∧ AllNeN 201 [(P, po2), (H, instObj 147 DX), (DX, o)] := by
        simp only [AllNeN, and_true] at hHr hDr ⊢
        omega
      have hx2 : AllNeN 187 [(C, cp)] ∧ AllNeN 201 [(C, cp)] := by
        simp only [AllNeN, and_true]
        omega
      exact ⟨_, _, po2, o, a, it, rfl, isPen.le hp2 (by omega), hcu, ha0, hae, .no, .no, Off.cons (by simp only [AllNeN, and_true]; omega) .nil, Off.cons hx1.1 (Off.cons hx1.2 .nil), Off.cons hx2.1 (Off.cons hx2.2 .nil), rfl, rfl, rfl, rfl⟩
    case turn =>
      rintro i t m₁ nx I oI h tk hi ⟨W, T, po, o, a', it', rfl, hp, hcu, ha0', hae', hW, hT, hWT, hoff, hoC, n1, n2, n3, n4⟩ hI F6 N6
      clear F5 N5
      subst hC
      replace F6 := fr_names [(Str.ofString "octets", .bytes b bt), (Str.ofString "shorter", .bytes sb st), (Str.ofString "head", .ref H), (Str.ofString "here", .int a' it')] ⟨n1, n2, n3, n4, trivial⟩ F6
      (with_reducible show wpAny _ _ _ _ _ _)
      k_steps
      have hIC := hI _ (.head _)
      refine' use_mem (law_deed hp (by omega) hcu ha0' hae' hek (by omega) hsb hPH hPD hHD hW hT hWT hoff) ?B F6 ?X N6 ?T ?c1 ?c2 ?hA ?hh ?hf ?hk ?hd ?hu ?pre mem_small mem_rest (ne_rest hI hPC hHC hDC hoC) ?ret
      case B => k_asm
      case X => k_asm
      case T => k_asm
      case c1 => k_asm
      case c2 => k_asm
      case hA => exact rfl
      case hh => exact rfl
      case hf => exact rfl
      case hk => exact rfl
      case hd => k_room
      case hu => first | k_units | (with_unfolding_all exact Nat.le_of_ble_eq_true rfl)
      case pre => exact fun _ _ => trivial
      rintro _ _ h8 tk8 F8 N8 A8' ⟨R, hv, dv, g, gt, n, ex, po8, o8, W8, T8, rfl, rfl, hS, hp8, hcu8, hg0, hge, hW8, hT8, hWT8, hoff8⟩
      clear F6 N6 hcu hoff hWT hp
      have N9 := deed_led N8
      clear N8
      k_steps
      obtain ⟨x, hx1, hx2⟩ := hS.shows
      walk1
      k_steps
      (rename Fr _ _ _ _ => F10)
      (rename News _ _ _ _ => N10)
      refine' hx1.step F10 N10 ?hg ?hu ?hs ?_
      case hg => exact rfl
      case hu => first | k_units | (with_unfolding_all exact Nat.le_of_ble_eq_true rfl)
      case hs => exact fun q hq => .tail _ (.tail _ (.tail _ (.tail _ (.tail _ (.tail _ (List.mem_append_left _ hq))))))
      intro h11 t11 tk11 F11 N11
      clear F10 N10
      k_steps
      (rename Fr _ _ _ _ => F12)
      (rename News _ _ _ _ => N12)
      refine' hx2.step F12 N12 ?hg ?hu ?hs ?_
      case hg => exact rfl
      case hu => first | k_units | (with_unfolding_all exact Nat.le_of_ble_eq_true rfl)
      case hs => exact fun q hq => .tail _ (.tail _ (.tail _ (.tail _ (.tail _ (.tail _ (List.mem_append_left _ hq))))))
      intro h13 t13 tk13 F13 N13
      clear F12 N12
      k_steps
      · rename (x != x) = true => hq9
        rw [str_ne_self] at hq9
        exact Bool.noConfusion hq9
      (rename Fr _ _ _ _ => F14)
      (rename News _ _ _ _ => N14)
      obtain ⟨z1, z2, z3, t1, t2, t3, u1, u2, u3, xa, xe, d, hox, hks, hxa, hya⟩ := hcu8
      have hcu9 : isCur ks g e o8 := ⟨z1, z2, z3, t1, t2, t3, u1, u2, u3, xa, xe, d, hox, hks, hxa, hya⟩
      have hdb := bInts_inj (hks.trans hb.symm)
      subst hox
      subst hxa
      subst hya
      subst hdb
      k_steps
      (rename Fr _ _ _ _ => F16)
      (rename News _ _ _ _ => N16)
      exact ⟨_, _, _, _, rfl, F16, turn_led N16, turn_ne A8' hIC, _, _, _, _, _, _, rfl, isPen.le hp8 (by omega), hcu9, hg0, hge, hW8, hT8, hWT8, hoff8, turn_off A8', rfl, rfl, rfl, rfl⟩
    case done =>
      rintro m₁ nx h tk ⟨W, T, po, o, a', it', rfl, hp, hcu, ha0', hae', hW, hT, hWT, hoff, hoC, n1, n2, n3, n4⟩ F6 N6
      clear F5 N5
      subst hC
      replace F6 := fr_names0 [(Str.ofString "octets", .bytes b bt)] ⟨n1, trivial⟩ F6
      obtain ⟨p1, hp1⟩ := hW.tab
      obtain ⟨p2, hp2⟩ := hT.tab
      have N7 := end_led N6 hp1 hp2
      clear hp1 hp2 hoff hoC hWT
      clear N6
      k_steps
      (rename Fr _ _ _ _ => F8)
      (with_unfolding_all refine' For_invVF F8 ?k1 ?k2 ?_; (case k1 => exact rfl); (case k2 => exact rfl))
      k_steps
      refine LCg.ListComp_U (F₀ := by k_asm) (by with_unfolding_all rfl) (by decide) (by rfl) (by decide) (by rfl) ?_
      k_steps
      rename IsRange _ _ _ _ _ _ _ _ => hR2
      (rename Fr _ _ _ _ => F9)
      (rename News _ _ _ _ => N9)
      obtain ⟨Q1, hQ1⟩ := name1 N9
      subst hQ1
      refine LCg.CompSrc.range rfl F9 N9 hR2 (small_one (by omega) (by omega) (by omega) (by omega)) (rangeSize_nat _ _) (by rw [sizeLine_eq]; omega) ?_
      intro g'
      refine comp_inv (fun i ys nx => ∃ o' ks, nx = [(Q1, _), (P, o'), (_, cp), (187, tabObj p1), (201, tabObj p2)] ∧ IntsAre ys ks ∧ (∀ k ∈ ks, 0 ≤ k ∧ k < 256) ∧ ks.length ≤ i ∧ isPen (300 + i) o') ⟨_, [], rfl, .nil, (fun k hk => nomatch hk), Nat.le_refl _, isPen.le hp (by omega)⟩ ?cturn ?cfin
      case cturn =>
        rintro i v I oI C oC D m₂ ys nx h tk E' hi ⟨tv, rfl⟩ hC hx ⟨o', ks2, rfl, hys, hk2, hl2, hpi⟩ F10 N10 hof hne
        clear F9 N9
        have hof2 := hof
        simp only [LCg.Off3, and_true] at hof2
        obtain ⟨⟨_, _, _⟩, ⟨_, _, _⟩, ⟨_, _, _⟩, ⟨_, _, _⟩, _, _, _⟩ := hof2
        obtain ⟨_, _, _⟩ := hne
        (with_reducible show wpAny _ _ _ _ _ _)
        k_steps
        refine LCg.CompEnd.intro (by k_asm) (by k_asm) [(Q1, _), (P, _), (_, cp), (187, tabObj p1), (201, tabObj p2)] (by k_upd) (by exact hof) trivial ⟨_, ks2 ++ [_], rfl, ints_snoc _ _ hys, ?_, ?_, isPen.le (by k_asm) (by omega)⟩
        · intro k hk
          rcases List.mem_append.mp hk with hk | hk
          · exact hk2 k hk
          · rw [List.mem_singleton.mp hk]
            exact ⟨by assumption, by assumption⟩
        · rw [List.length_append, List.length_singleton]
          omega
      case cfin =>
        rintro ys nx ⟨o', ks2, rfl, hys, hk2, hl2, hpi⟩
        have hysl := hys.length
        clear F9 N9
        k_steps
        (rename Fr _ _ _ _ => F11)
        (rename News _ _ _ _ => N11)
        refine iter_listC (fun i m => True) rfl (.head _) (by k_asm) F11 (fin_led N11 (by k_mem) (by k_mem)) trivial ?lturn ?ldone
        case lturn =>
          rintro i c tc m₁ h tk own hc ha _ F12 N12
          clear F11 N11
          (with_reducible show wpAny _ _ _ _ _ _)
          k_steps
          walk1
          k_steps
          · (rename News _ _ _ _ => N13)
            refine' same_ne N13 ?m1 (.head _) ?hu1 (tests_a (c := c) (by k_asm) (by k_asm)) ?_
            case m1 => k_mem
            case hu1 => first | k_units | (with_unfolding_all exact Nat.le_of_ble_eq_true rfl)
            k_steps
            exact InvEndN.intro (by k_asm) (by k_asm) ⟨rfl, trivial⟩ rfl (by k_upd) (fun q hq => by repeat (first | exact hq | apply List.Mem.tail))
          · (rename News _ _ _ _ => N13)
            refine' same_ne N13 ?m1 (.head _) ?hu1 (tests_b (c := c) (by k_asm) (by k_asm)) ?_
            case m1 => k_mem
            case hu1 => first | k_units | (with_unfolding_all exact Nat.le_of_ble_eq_true rfl)
            k_steps
            exact InvEndN.intro (by k_asm) (by k_asm) ⟨rfl, trivial⟩ rfl (by k_upd) (fun q hq => by repeat (first | exact hq | apply List.Mem.tail))
          · (rename News _ _ _ _ => N13)
            refine' same_ne N13 ?m1 (.head _) ?hu1 (tests_c (c := c) (by k_asm)) ?_
            case m1 => k_mem
            case hu1 => first | k_units | (with_unfolding_all exact Nat.le_of_ble_eq_true rfl)
            k_steps
            exact InvEndN.intro (by k_asm) (by k_asm) ⟨rfl, trivial⟩ rfl (by k_upd) (fun q hq => by repeat (first | exact hq | apply List.Mem.tail))
        case ldone =>
          rintro m₁ h tk _ F12 N12
          clear F11 N11
          dsimp only
          iterate 4 (first | (k_unfold; (try dsimp only)) | walk1 | (dsimp only; walk1))
          · refine goodW_bool F12 ?hg ?hn ?hp
            case hg => exact (by assumption)
            case hn => exact fun _ => rfl
            case hp => exact law_post _
          · exact ⟨GrownAt.of N12 (.tail _ (.head _)), GrownAt.of N12 (.tail _ (.tail _ (.head _))), trivial⟩)

end Mine
theorem PySem.Challenge.cw_nn0114_01_holds : PySem.Challenge.rw_nn0114_01.Holds :=
  Mine.law_holds
