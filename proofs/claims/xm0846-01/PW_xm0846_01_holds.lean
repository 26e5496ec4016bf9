import PyProof.Rows.All
import Wide.All
import OpenK.AllK
import Wide.FinOn
import Lean
import PySem.Challenge.RW_xm0846_01
open PySem PySem.W PySem.Calls PyProof.Rows
set_option Elab.async false
set_option rowWalk.seconds 0
set_option linter.unusedVariables false
set_option linter.unusedSimpArgs false
set_option compiler.extract_closed false
namespace Mine
/-- the top's run over the heap as a tree, by the library's quick twins -/
noncomputable def topRunT (p : Program) (w : World) (n₀ : Nat) (ann : Option Value) : Nat → SharedT → Thread → Option SharedT
  | 0, _, _ => none
  | n + 1, s, t => match through t with
    | true => some s
    | false => match PySem.W.Fast.tw6613529449190102663 n₀ ann t with
      | false => none
      | true => match PySem.W.Fast.tw10156331382660048174 (PySem.W.Fast.tw11892475500146522536 PySem.W.Fast.tw14364793385576792824) p w s t with
        | some x => topRunT p w n₀ ann n x.1 x.2
        | none => none
theorem topRunT_of {p : Program} {w : World} {n₀ : Nat} {ann : Option Value} : ∀ {n : Nat} {s r : SharedT} {t : Thread}, topRunT p w n₀ ann n s t = some r → topRun treeTable p w n₀ ann n s.abs t = some r.abs := by
  intro n
  induction n with
  | zero => intro s r t h; cases h
  | succ n ih =>
    intro s r t h
    unfold topRunT at h
    unfold topRun
    rw [← PySem.W.Fast.te6613529449190102663, ← PySem.W.Fast.te10156331382660048174, ← PySem.W.Fast.te11892475500146522536, ← PySem.W.Fast.te14364793385576792824] at h
    cases ht : through t with
    | true => rw [ht] at h; cases h; rfl
    | false =>
      rw [ht] at h
      cases hk : stepOk n₀ ann t with
      | false => rw [hk] at h; cases h
      | true =>
        rw [hk] at h
        cases hs : stepT (denote treeTable) p w s t with
        | none => rw [hs] at h; cases h
        | some x => rw [hs] at h; simp only [stepT_spec hs]; exact ih h
noncomputable def treeOf : Nat → BT → List Obj → BT
  | _, t, [] => t
  | i, t, o :: r => treeOf (i + 1) (t.ins i o) r
/-- what is seen behind the top's run, the opening taken as the library has it, the run over a tree -/
theorem left_tree {p q : Program} {loose : List Str} {Xt : Shared → Bool} {α : Type} {Yf : Shared → α} {Ya : World → α} {N : Nat} {g0 : Bool} {n₀ : Nat}
    (e : opening p = plainProg p.main.scope.names) (hN : Nat.ble 600 N = true) (f : ∀ s, fenceModules? p s = some s)
    (size : ∀ w : World, ((boot_heap w.params).isNs mainGlobals, (boot_heap w.params).objs.size) = (true, n₀))
    (flat : ∀ w : World, absHeap (treeOf 0 .nil (boot_heap w.params).objs.toList) n₀ (boot_heap w.params).life = boot_heap w.params)
    (h : ∀ (w : World) (os : OsState), (topRunT p w n₀ ((boot_heap w.params).nsMap mainGlobals "__annotations__") N ⟨treeOf 0 .nil (boot_heap w.params).objs.toList, n₀, (boot_heap w.params).life, Array.mk [], boot_drawn, boot_toks, os⟩ (topStub p)).map (fun r =>
        (staticsOk (importedModules p.main.body) (boot_heap w.params) r.abs.heap && namesBound p r.abs.heap && gensDone r.abs && laidKept (boot_heap w.params) r.abs.heap, PySem.W.Fast.tw4187177175401517315 q loose (importedModules p.main.body) Xt g0 r.abs, Yf r.abs)) = some (true, openGood q loose, Ya w)) :
    LeftO p q loose Xt Yf Ya N g0 := fun w => by
  obtain ⟨⟨hp, gs, d, k, os⟩, e1, e2⟩ := Option.map_eq_some_iff.mp (boot_open e hN f w)
  obtain ⟨rfl, rfl, rfl, rfl⟩ : hp = boot_heap w.params ∧ gs = Array.mk [] ∧ d = boot_drawn ∧ k = boot_toks := by simpa using e2
  have h' := h w os
  rw [← PySem.W.Fast.te4187177175401517315] at h'
  obtain ⟨r, r1, r2⟩ := Option.map_eq_some_iff.mp h'
  obtain ⟨z1, z2⟩ : _ ∧ _ := by simpa only [Prod.mk.injEq] using size w
  obtain ⟨l1, l2, l3⟩ : _ ∧ _ ∧ _ := by simpa only [Prod.mk.injEq] using r2
  have r3 := topRunT_of r1
  have r4 : (⟨treeOf 0 .nil (boot_heap w.params).objs.toList, n₀, (boot_heap w.params).life, Array.mk [], boot_drawn, boot_toks, os⟩ : SharedT).abs = ⟨boot_heap w.params, Array.mk [], boot_drawn, boot_toks, os⟩ := by
    show Shared.mk (absHeap _ _ _) _ _ _ _ = _
    rw [flat w]
  rw [r4] at r3
  have t : topFrom treeTable p w N ⟨boot_heap w.params, Array.mk [], boot_drawn, boot_toks, os⟩ = some r.abs := by
    unfold topFrom
    dsimp only
    rw [z1, z2, r3]
    show (match staticsOk (importedModules p.main.body) (boot_heap w.params) r.abs.heap && namesBound p r.abs.heap && gensDone r.abs && laidKept (boot_heap w.params) r.abs.heap with | true => _ | false => _) = _
    rw [l1]
  unfold openEnds
  rw [e1]
  show (topFrom treeTable p w N _).map _ = _
  rw [t]
  exact congrArg some (Prod.ext l2 l3)
/-- the text's statements that the view keeps: all but the three that name a module -/
def seenIn : List Nat := [1, 2, 3, 5, 6, 7, 8, 9, 11, 12, 13, 14, 15, 16, 17, 18, 19, 20, 21, 22, 23]
set_option maxRecDepth 100000 in
theorem law_said : PySem.Challenge.rw_xm0846_01.wellSaid = true := by
  delta OpenLaw.wellSaid OpenRow.wellSaid OpenRow.partSaid looksOpen
  repeat' with_reducible refine look_both ?_ ?_
  all_goals decide +kernel
section head
local macro_rules | `(tactic| o_law) => `(tactic| refine holds_law law_said fun _ => ?_)
set_option hygiene false in
local macro_rules | `(tactic| o_head $H) => `(tactic| (
  apply holds_open (q := view PySem.Challenge.pw_xm0846_01 seenIn) (loose := []) (Xt := fun s => xlAt (view PySem.Challenge.pw_xm0846_01 seenIn) [] s && recOk (RowW.records (OpenRow.toRowW PySem.Challenge.rw_xm0846_01.row)) s) (XP := XL (view PySem.Challenge.pw_xm0846_01 seenIn) []) (Yf := Hook.obs $H) (Ya := Hook.val $H) (YP := Hook.says $H) (N := 4330) (hY := Hook.of $H) (hYk := Hook.keeps $H) (hX := fun s e => xl_of s (Bool.and_eq_true_iff.mp e).1) (hXk := XL.keeps) (hdef := by rfl) (hp := by rfl) (hk := by rfl) (hRf := fun s e => recFacts_of (Bool.and_eq_true_iff.mp e).2) (hwr := by rfl) (k1 := by first | assumption | decide +kernel) (ok := by decide +kernel) (hb := ⟨rfl, rfl, rfl, rfl, rfl, by decide +kernel⟩)
  case left => exact left_tree (n₀ := 11) (by kernel_rfl) (by decide) (fun _ => by kernel_rfl) (fun _ => by kernel_rfl) (fun _ => by kernel_rfl) (fun _ _ => by kernel_rfl)
  all_goals (rename_i sd; clear sd)))
set_option maxRecDepth 100000 in
set_option maxHeartbeats 80000000 in
open_top hd for PySem.Challenge.rw_xm0846_01
end head
theorem top_off : True := by
  w_top off
  trivial
/-- an entry under a written name -/
noncomputable abbrev en (P : Params) (k : String) (t : Tok) (v : Value) : DictEntry := ⟨PyData.keyHash P (Str.ofString k), .str (Str.ofString k) t, v⟩
/-- the dict of an Inflights -/
noncomputable abbrev rgD (P : Params) (kr : Nat → Tok) (size most start held octets : Int) (t0 t1 t2 t3 t4 : Tok) (rl : Addr) : Obj :=
  dictOf [en P "size" (kr 0) (.int size t0), en P "max_octets" (kr 1) (.int most t1), en P "start" (kr 2) (.int start t2), en P "held" (kr 3) (.int held t3), en P "octets" (kr 4) (.int octets t4), en P "ring" (kr 5) (.ref rl)] 6
/-- the dict of a Progress -/
noncomputable abbrev prD (P : Params) (kp : Nat → Tok) (mt up st pd : Int) (flow : Bool) (t0 t1 t2 t3 : Tok) (rg : Addr) (ln : Bool) : Obj :=
  dictOf [en P "match" (kp 0) (.int mt t0), en P "upto" (kp 1) (.int up t1), en P "state" (kp 2) (.int st t2), en P "pending_snapshot" (kp 3) (.int pd t3), en P "recent_active" (kp 4) (.bool false), en P "flow_paused" (kp 5) (.bool flow), en P "inflights" (kp 6) (.ref rg), en P "learner" (kp 7) (.bool ln)] 8
/-- a pair of ints as the ledger bears it -/
noncomputable abbrev tup2 (i : Int) (ti : Tok) (o : Int) (tt : Tok) (n : Nat) : Obj := { cls := .type "tuple", data := .seq #[.int i ti, .int o tt] n }
inductive Row (tl : List (Addr × Obj)) : Value → Int × Int → Prop
  | mk {a : Addr} {i o : Int} {ti tt : Tok} {n : Nat} : (a, tup2 i ti o tt n) ∈ tl → Row tl (.ref a) (i, o)
inductive Rows (tl : List (Addr × Obj)) : List Value → List (Int × Int) → Prop
  | nil : Rows tl [] []
  | cons {v : Value} {r : Int × Int} {vs : List Value} {rs : List (Int × Int)} : Row tl v r → Rows tl vs rs → Rows tl (v :: vs) (r :: rs)
theorem Row.mono {tl tl' : List (Addr × Obj)} {v : Value} {r : Int × Int} (h : Row tl v r) (hs : ∀ p ∈ tl, p ∈ tl') : Row tl' v r := by
  cases h with
  | mk h => exact .mk (hs _ h)
theorem Rows.mono {tl tl' : List (Addr × Obj)} {vs : List Value} {rs : List (Int × Int)} (h : Rows tl vs rs) (hs : ∀ p ∈ tl, p ∈ tl') : Rows tl' vs rs := by
  induction h with
  | nil => exact .nil
  | cons h _ ih => exact .cons (h.mono hs) ih
theorem Rows.length {tl : List (Addr × Obj)} {vs : List Value} {rs : List (Int × Int)} (h : Rows tl vs rs) : vs.length = rs.length := by
  induction h with
  | nil => rfl
  | cons _ _ ih => simp [ih]
theorem Rows.append {tl : List (Addr × Obj)} {vs ws : List Value} {rs qs : List (Int × Int)} (h : Rows tl vs rs) (k : Rows tl ws qs) : Rows tl (vs ++ ws) (rs ++ qs) := by
  induction h with
  | nil => exact k
  | cons h _ ih => exact .cons h ih
theorem Rows.get {tl : List (Addr × Obj)} {vs : List Value} {rs : List (Int × Int)} (h : Rows tl vs rs) : ∀ {k : Nat} {r : Int × Int}, rs[k]? = some r → ∃ v, vs[k]? = some v ∧ Row tl v r := by
  induction h with
  | nil => intro k r e; simp at e
  | cons h _ ih =>
    intro k r e
    cases k with
    | zero => simp at e; subst e; exact ⟨_, rfl, h⟩
    | succ k => simp at e; simpa using ih e
theorem Rows.set {tl : List (Addr × Obj)} {vs : List Value} {rs : List (Int × Int)} (h : Rows tl vs rs) {v : Value} {r : Int × Int} (hv : Row tl v r) : ∀ (k : Nat), Rows tl (vs.set k v) (rs.set k r) := by
  induction h with
  | nil => intro k; simpa using Rows.nil
  | cons h hr ih =>
    intro k
    cases k with
    | zero => simpa using Rows.cons hv hr
    | succ k => simpa using Rows.cons h (ih k)
theorem ret_bool {R : Result → Shared → Prop} {b b' : Bool} {st : Shared} (h : R (.ok (.ret (.bool b))) st) (e : b' = b) : R (.ok (.ret (.bool b'))) st := e ▸ h
theorem ret_int {R : Result → Shared → Prop} {b b' : Int} {t : Tok} {st : Shared} (h : R (.ok (.ret (.int b t))) st) (e : b' = b) : R (.ok (.ret (.int b' t))) st := e ▸ h
/-- the ledger of the law's run -/
noncomputable abbrev LED (bk drg rg rl dpr pr sl : Addr) (bo ro lo po so : Obj) (tl : List (Addr × Obj)) : List (Addr × Obj) :=
  (bk, bo) :: (drg, ro) :: (rg, instObj 124 drg) :: (rl, lo) :: (dpr, po) :: (pr, instObj 208 dpr) :: (sl, so) :: tl
theorem newsC {h₀ h : Heap} {L a : Addr} {o : Obj} {news rest : List (Addr × Obj)} (N : News h₀ L h news) (hm : (a, o) ∈ news) (r : News h₀ L h rest) : News h₀ L h ((a, o) :: rest) := fun p hp => by
  rcases List.mem_cons.mp hp with rfl | hp
  · exact N _ hm
  · exact r p hp
theorem newsT {h₀ h : Heap} {L : Addr} {news tl : List (Addr × Obj)} (N : News h₀ L h news) (hm : ∀ p ∈ tl, p ∈ news) : News h₀ L h tl := fun p hp => N p (hm p hp)
abbrev ordA (bk drg rg rl dpr pr sl : Nat) : Prop := bk < drg ∧ drg < rg ∧ rg < rl ∧ rl < dpr ∧ dpr < pr ∧ sl ≠ bk ∧ sl ≠ drg ∧ sl ≠ rg ∧ sl ≠ rl ∧ sl ≠ dpr ∧ sl ≠ pr
noncomputable abbrev placeOf (size start k : Int) : Int := if size ≤ start + k then start + k - size else start + k
/-- what is under way, as the ring bears it -/
noncomputable def win (ring : List (Int × Int)) (size start : Int) (n : Nat) : List (Int × Int) := (List.range n).map fun (i : Nat) => ring.getD (placeOf size start (i : Int)).toNat (0, 0)
theorem win_succ (ring : List (Int × Int)) (size start : Int) (n : Nat) : win ring size start (n + 1) = win ring size start n ++ [ring.getD (placeOf size start (n : Int)).toNat (0, 0)] := by
  unfold win; rw [List.range_succ, List.map_append]; rfl
theorem win_length (ring : List (Int × Int)) (size start : Int) (n : Nat) : (win ring size start n).length = n := by simp [win]

set_option genInjectivity false in
set_option genSizeOfSpec false in
/-- the letters of the contracts, bundled -/
structure D where
  prog : Program
  w : World
  p : Program
  loose : List Str
  mean : ExcName → Option Value
  mg : Str → Option Value
  mb : Str → Option Value
  dp : Nat
  un : Nat
  gd : Option (List Code)
  cn : Str
  cs : Scope
  a : Addr
  ccd : Value
  cl : List (Str × Addr)
  outer : List Env
  A₀ : Around
  base : Heap
  h₀ : Heap
  L : Addr
  m : Str → Option Value
  s : Shared
  R : Result → Shared → Prop
  bk : Addr
  drg : Addr
  rg : Addr
  rl : Addr
  dpr : Addr
  pr : Addr
  sl : Addr
  bo : Obj
  po : Obj
  so : Obj
  kr : Nat → Tok
  size : Int
  most : Int
  start : Int
  held : Int
  octets : Int
  t0 : Tok
  t1 : Tok
  t2 : Tok
  t3 : Tok
  t4 : Tok
  rv : List Value
  rn : Nat
  ring : List (Int × Int)
  tl : List (Addr × Obj)
  index : Int
  oc : Int
  P : Int
  ti : Tok
  tt : Tok
  ro : Obj
  lo : Obj
  mt : Int
  up : Int
  st : Int
  pd : Int
  wt : Int
  run : Int
  pk : Int
  sc : Int
  pa : Bool
  ln : Bool
  t5 : Tok
  t6 : Tok
  t7 : Tok
  t8 : Tok
  t9 : Tok
  st' : Int
  up' : Int
  pd' : Int
  u1 : Tok
  u2 : Tok
  u3 : Tok
  sv : List Value
  sn : Nat
  sent : List (Int × Int)
  kp : Nat → Tok
  flow : Bool
  p0 : Tok
  p1 : Tok
  p2 : Tok
  p3 : Tok
  b0 : Tok
  b1 : Tok
  b2 : Tok
  b3 : Tok
  b4 : Tok
  b5 : Tok
  b6 : Tok
  b7 : Tok
  b8 : Tok
  b9 : Tok
  count : Int
  last : Int
  u0 : Tok
  oct : Int
  many : Int
  y : Int
  um : Tok
  uy : Tok
  n : Int
  un9 : Tok
  x : Int
  ux : Tok
  ui : Tok
noncomputable def d0 : D := { prog := default, w := aWorld 1, p := default, loose := default, mean := fun _ => none, mg := fun _ => none, mb := fun _ => none, dp := default, un := default, gd := default, cn := default, cs := default, a := default, ccd := default, cl := default, outer := default, A₀ := callerA, base := default, h₀ := default, L := default, m := fun _ => none, s := (start default).1, R := fun _ _ => True, bk := default, drg := default, rg := default, rl := default, dpr := default, pr := default, sl := default, bo := default, po := default, so := default, kr := fun _ => 0, size := default, most := default, start := default, held := default, octets := default, t0 := default, t1 := default, t2 := default, t3 := default, t4 := default, rv := default, rn := default, ring := default, tl := default, index := default, oc := default, P := default, ti := default, tt := default, ro := default, lo := default, mt := default, up := default, st := default, pd := default, wt := default, run := default, pk := default, sc := default, pa := default, ln := default, t5 := default, t6 := default, t7 := default, t8 := default, t9 := default, st' := default, up' := default, pd' := default, u1 := default, u2 := default, u3 := default, sv := default, sn := default, sent := default, kp := fun _ => 0, flow := default, p0 := default, p1 := default, p2 := default, p3 := default, b0 := default, b1 := default, b2 := default, b3 := default, b4 := default, b5 := default, b6 := default, b7 := default, b8 := default, b9 := default, count := default, last := default, u0 := default, oct := default, many := default, y := default, um := default, uy := default, n := default, un9 := default, x := default, ux := default, ui := default }
theorem allOf {P : D → Prop} (h : P (Classical.epsilon (h := ⟨d0⟩) fun d => ¬ P d)) (d : D) : P d :=
  Classical.byContradiction fun n => Classical.epsilon_spec (p := fun d => ¬ P d) ⟨d, n⟩ h

section
variable {prog : Program} {w : World} {A : Around} {E : Value → Shared → Prop} {s : Shared} {h₀ : Heap} {L D : Addr} {m : Str → Option Value} {news news' tl : List (Addr × Obj)} {vs : List Value} {rs : List (Int × Int)} {n : Nat} {k : Int} {u : Tok}
theorem led_len {Q : Value → Shared → Prop} (N : News h₀ L s.heap news) (hm : (D, listOf vs.toArray n) ∈ news) (hz : vs.length < 9223372036854775808) (h : Q (.int vs.length (s.toks + 1)) { s with toks := s.toks + 1 + 1 }) : wpAny (model prog w) A (call (.builtin "len") [.ref D]) Q E s := by
  have e : vs.toArray.size = vs.length := List.size_toArray
  exact call_len_list (PySem.IsL.isList (n := n) (N _ hm).1) (by rw [e]; omega) (by rw [e]; exact h)
theorem led_sub {value slice : PySem.Expr} {Q : Value → Shared → Prop} (N : News h₀ L s.heap news) (hm : (D, listOf vs.toArray n) ∈ news) (RR : Rows tl vs rs) (h0 : 0 ≤ k) (h1 : k < rs.length) (hfit : k < 2 ^ 63)
    (h : ∀ a ti tt nn, (a, tup2 (rs.getD k.toNat (0, 0)).1 ti (rs.getD k.toNat (0, 0)).2 tt nn) ∈ tl → vs[k.toNat]? = some (.ref a) → Q (.ref a) s)
    (hs : subscripted slice false (.ref D) (.int k u) = operate [.ref D, .int k u] (getItem (.ref D) (.int k u)) := by with_unfolding_all rfl) :
    wpAny (model prog w) A (subscriptTail value slice (.ref D) (.int k u)) Q E s := by
  have hk : k.toNat < rs.length := by omega
  have e : rs[k.toNat]? = some (rs.getD k.toNat (0, 0)) := by simp [List.getD, hk]
  obtain ⟨v, hv, hr⟩ := RR.get e
  generalize rs.getD k.toNat (0, 0) = r at hr h
  cases hr with
  | @mk a i o ti tt nn hm' =>
    have L1 := PySem.IsL.isList (n := n) (N _ hm).1
    exact tail_any L1.typeIs slot_list_getitem.lookup (wpAny_getItem_list L1 h0 hfit (by simpa using hv) (h a ti tt nn hm' hv)) hs
theorem led_set {v : Value} {Q : Unit → Shared → Prop} (F : Fr h₀ L s.heap m) (N : News h₀ L s.heap news) (U : Upd D (listOf vs.toArray n) (listOf (vs.set k.toNat v).toArray n) news news') (h0 : 0 ≤ k) (h1 : k < vs.length) (hfit : k < 2 ^ 63)
    (h : ∀ h', Fr h₀ L h' m → News h₀ L h' news' → Q () { s with heap := h' }) :
    wpAny (model prog w) A (setItem (.ref D) (.int k u) v) Q E s := by
  obtain ⟨pre, post, rfl, rfl, a, b⟩ := U.split
  have z := N (D, listOf vs.toArray n) (List.mem_append.mpr (.inr (.head _)))
  refine ki_setAt z.1 h0 hfit (by rw [List.size_toArray]; exact h1) (h _ (F.change (Heap.SameBut.update ..) z.2.1 z.2.2) (ki_turn _ N a b ?_ ?_))
  · show vs.toArray.setIfInBounds k.toNat v = (vs.set k.toNat v).toArray
    apply Array.toList_inj.mp
    simp
  · simp
theorem led_append {x : Value} {Q : Value → Shared → Prop} (F : Fr h₀ L s.heap m) (N : News h₀ L s.heap news) (U : Upd D (listOf vs.toArray n) (listOf (vs ++ [x]).toArray (n + 1)) news news') (hsz : vs.length ≤ 16777216)
    (h : ∀ h', Fr h₀ L h' m → News h₀ L h' news' → Q .none { s with heap := h' }) : wpAny (model prog w) A (call (.builtin "list.append") [.ref D, x]) Q E s := by
  obtain ⟨pre, post, rfl, rfl, a, b⟩ := U.split
  have z := N (D, listOf vs.toArray n) (List.mem_append.mpr (.inr (.head _)))
  refine append_at (hsz := by rw [List.size_toArray, PySem.sizeLine_eq]; exact hsz) z.1 fun h' hs ho' => h h' (F.change hs z.2.1 z.2.2) (news_set N a b hs ?_)
  rw [ho']
  simp
end
/-- the walk stands still here -/
def Halt (P : Prop) : Prop := P
theorem Halt.mk {P : Prop} (h : Halt P) : P := h
theorem Halt.out {P : Prop} (h : P) : Halt P := h
theorem know {h₀ h : Heap} {L : Addr} {m : Str → Option Value} (F : Fr h₀ L h m) (x : Str) (v : Value) (e : m x = some v) : Fr h₀ L h (fun y => if y = x then some v else m y) := by
  have q : (fun y => if y = x then some v else m y) = m := by
    funext y
    split
    · next h => rw [h, e]
    · rfl
  rw [q]
  exact F
theorem offCons {a : Addr} {o : Obj} {tl : List (Addr × Obj)} {adr : List Addr} (h : OwnOff tl adr) (ha : ∀ b ∈ adr, a ≠ b) : OwnOff ((a, o) :: tl) adr := by
  intro p hp b hb
  rcases List.mem_cons.mp hp with rfl | hp
  · exact ha b hb
  · exact h p hp b hb
theorem knowI {h₀ h : Heap} {L : Addr} {m : Str → Option Value} (F : Fr h₀ L h m) (x : Str) {v W : Int} {t : Tok} (e : m x = some (.int v t)) (hv : v = W) : Fr h₀ L h (fun y => if y = x then some (.int W t) else m y) := know F x _ (hv ▸ e)
theorem repl_snoc {α : Type} (x : List α) (z : α) {a b c : Nat} (e : a = b + 1 - c) (h : c ≤ b) : x ++ List.replicate a z = (x ++ List.replicate (b - c) z) ++ [z] := by
  have : a = (b - c) + 1 := by omega
  rw [this, List.replicate_succ', List.append_assoc]
theorem offNe {a : Nat} {bk drg rg rl dpr pr sl : Addr} (h1 : a ≠ bk) (h2 : a ≠ drg) (h3 : a ≠ rg) (h4 : a ≠ rl) (h5 : a ≠ dpr) (h6 : a ≠ pr) (h7 : a ≠ sl) : ∀ b ∈ [bk, drg, rg, rl, dpr, pr, sl], a ≠ b := by
  intro b hb
  simp only [List.mem_cons, List.not_mem_nil, or_false] at hb
  rcases hb with rfl | rfl | rfl | rfl | rfl | rfl | rfl <;> assumption
theorem led_pull {h₀ h : Heap} {L bk drg rg rl dpr pr sl : Addr} {bo ro lo po so : Obj} {x : Addr × Obj} {tl : List (Addr × Obj)} (N : News h₀ L h (x :: LED bk drg rg rl dpr pr sl bo ro lo po so tl)) : News h₀ L h (LED bk drg rg rl dpr pr sl bo ro lo po so (x :: tl)) := by
  intro p hp
  refine N p ?_
  simp only [LED, List.mem_cons] at hp ⊢
  rcases hp with h | h | h | h | h | h | h | h | h <;> simp [h]
theorem led_drop {h₀ h : Heap} {L : Addr} {x : Addr × Obj} {l : List (Addr × Obj)} (N : News h₀ L h (x :: l)) : News h₀ L h l := fun p hp => N p (.tail _ hp)
def WhilePost (h₀ : Heap) (L : Addr) (s : Shared) (J : Nat → (Str → Option Value) → List (Addr × Obj) → Prop) (n : Nat) (Q : Flow → Shared → Prop) (f : Flow) (s₃ : Shared) : Prop :=
  match f with
  | .ret v => Q (.ret v) s₃
  | .brk => Q .next s₃
  | _ => WhileStep h₀ L s J n .next s₃
section
variable {prog : Program} {w : World} {A : Around} {E : Value → Shared → Prop} {Q : Flow → Shared → Prop} {s : Shared} {env : Env} {h₀ : Heap} {L : Addr}
theorem While_ret {test : PySem.Expr} {body : List Stmt} {pos : Pos} {m : Str → Option Value} {news : List (Addr × Obj)} (J : Nat → (Str → Option Value) → List (Addr × Obj) → Prop) {n₀ : Nat}
    (F : Fr h₀ L s.heap m) (N : News h₀ L s.heap news) (hJ : J n₀ m news)
    (turn : ∀ n m₁ news₁ h₁ tk₁, Fr h₀ L h₁ m₁ → News h₀ L h₁ news₁ → J n m₁ news₁ →
      wpAny (model prog w) A (isTrue test env (eval test env)) (fun b s₂ =>
        if b = true then wpAny (model prog w) A (execs body env) (WhilePost h₀ L s J n Q) E s₂ else Q .next s₂) E { s with heap := h₁, toks := tk₁ })
    (hE : PassesOwn (model prog w) A env E := by passes_own) :
    wpAny (model prog w) A (exec (.While test body [] pos) env) Q E s := by
  have all : ∀ k n, n < k → ∀ m₁ news₁ h₁ tk₁, Fr h₀ L h₁ m₁ → News h₀ L h₁ news₁ → J n m₁ news₁ → WhlRest prog w A E env test body [] Q 0 { s with heap := h₁, toks := tk₁ } := by
    intro k
    induction k with
    | zero => intro n h; exact absurd h (Nat.not_lt_zero _)
    | succ k ih =>
      intro n hn m₁ news₁ h₁ tk₁ F₁ N₁ J₁
      have step : WhileStep h₀ L s J n .next = fun s₃ => WhileStep h₀ L s J n .next s₃ := rfl
      have next : ∀ s₃, WhileStep h₀ L s J n .next s₃ → WhlRest prog w A E env test body [] Q 0 s₃ := by
        rintro s₃ ⟨_, h', tk, m₂, news₂, n', rfl, F₂, N₂, hlt, J₂⟩
        exact ih n' (by omega) m₂ news₂ h' tk F₂ N₂ J₂
      refine whl_turn (k := 0) hE (wpAny_mono (turn n m₁ news₁ h₁ tk₁ F₁ N₁ J₁) (fun b s₂ h₂ => ?_) fun _ _ x => x)
      cases b with
      | false =>
        simp only [Bool.false_eq_true, if_false] at h₂
        exact WhlIf.no rfl (wpAny_execs_nil h₂)
      | true =>
        simp only [if_true] at h₂
        refine WhlIf.yes rfl (wpAny_mono h₂ (fun f s₃ h₃ => ?_) fun _ _ x => x)
        cases f with
        | ret v => exact h₃
        | brk => exact h₃
        | next => exact next s₃ h₃
        | cont => exact next s₃ h₃
  exact whl_start 0 (all (n₀ + 1) n₀ (Nat.lt_succ_self _) m news s.heap s.toks F N hJ)
end
theorem isTup2 {h₀ h : Heap} {L a : Addr} {news : List (Addr × Obj)} {i o : Int} {ti tt : Tok} {n : Nat} (N : News h₀ L h news) (hm : (a, tup2 i ti o tt n) ∈ news) : IsTup h a #[.int i ti, .int o tt] := N.isTup hm
/-- the tail has grown by new things alone -/
def Ext (tl tl' : List (Addr × Obj)) : Prop := ∃ new, tl' = new ++ tl ∧ OwnOff new (tl.map (·.1))
theorem Ext.refl (tl : List (Addr × Obj)) : Ext tl tl := ⟨[], rfl, fun _ h => nomatch h⟩
theorem Ext.trans {t1 t2 t3 : List (Addr × Obj)} (h : Ext t1 t2) (k : Ext t2 t3) : Ext t1 t3 := by
  obtain ⟨n1, rfl, o1⟩ := h
  obtain ⟨n2, rfl, o2⟩ := k
  refine ⟨n2 ++ n1, by simp, fun p hp b hb => ?_⟩
  rcases List.mem_append.mp hp with hp | hp
  · exact o2 p hp b (by rw [List.map_append]; exact List.mem_append_right _ hb)
  · exact o1 p hp b hb
theorem Ext.sub {t1 t2 : List (Addr × Obj)} (h : Ext t1 t2) : ∀ p ∈ t1, p ∈ t2 := by
  obtain ⟨n1, rfl, o1⟩ := h
  exact fun p hp => List.mem_append_right _ hp
theorem allLt_ne {D : Nat} : ∀ {tl : List (Addr × Obj)}, AllLt D tl → ∀ b ∈ tl.map (·.1), D ≠ b
  | [], _, b, hb => nomatch hb
  | p :: r, h, b, hb => by
    obtain ⟨h1, h2⟩ := h
    rcases List.mem_cons.mp hb with rfl | hb
    · exact Nat.ne_of_gt h1
    · exact allLt_ne h2 b hb
theorem ext_cons0 {D : Addr} {o : Obj} {tl : List (Addr × Obj)} (h : AllLt D tl) : Ext tl ((D, o) :: tl) := ⟨[(D, o)], rfl, fun p hp b hb => by
  rw [List.mem_singleton.mp hp]
  exact allLt_ne h b hb⟩
theorem ext_cons7 {D : Addr} {o : Obj} {tl : List (Addr × Obj)} {a b c d e f g : Prop} (h : a ∧ b ∧ c ∧ d ∧ e ∧ f ∧ g ∧ AllLt D tl) : Ext tl ((D, o) :: tl) := ext_cons0 h.2.2.2.2.2.2.2
theorem ext_cons8 {D : Addr} {o : Obj} {tl : List (Addr × Obj)} {a b c d e f g i : Prop} (h : a ∧ b ∧ c ∧ d ∧ e ∧ f ∧ g ∧ i ∧ AllLt D tl) : Ext tl ((D, o) :: tl) := ext_cons0 h.2.2.2.2.2.2.2.2
theorem ext_cons9 {D : Addr} {o : Obj} {tl : List (Addr × Obj)} {a b c d e f g i j : Prop} (h : a ∧ b ∧ c ∧ d ∧ e ∧ f ∧ g ∧ i ∧ j ∧ AllLt D tl) : Ext tl ((D, o) :: tl) := ext_cons0 h.2.2.2.2.2.2.2.2.2
section
variable {prog : Program} {w : World} {A : Around} {E : Value → Shared → Prop} {s : Shared} {h₀ : Heap} {L : Addr} {m : Str → Option Value} {news : List (Addr × Obj)}
theorem min2 {a b : Int} {t u : Tok} {Q : Value → Shared → Prop} (hh : A.handled = none) (F : Fr h₀ L s.heap m) (N : News h₀ L s.heap news)
    (h : ∀ h' tk t', Fr h₀ L h' m → News h₀ L h' news → Q (.int (min a b) t') { s with heap := h', toks := tk }) : wpAny (model prog w) A (call (.builtin "min") [.int a t, .int b u]) Q E s :=
  min_two_N hh F N fun h' tk F' N' => by
    have q := h h' tk (if b < a then u else t) F' N'
    rwa [show min a b = if b < a then b else a from by split <;> omega] at q
theorem max2 {a b : Int} {t u : Tok} {Q : Value → Shared → Prop} (hh : A.handled = none) (F : Fr h₀ L s.heap m) (N : News h₀ L s.heap news)
    (h : ∀ h' tk t', Fr h₀ L h' m → News h₀ L h' news → Q (.int (max a b) t') { s with heap := h', toks := tk }) : wpAny (model prog w) A (call (.builtin "max") [.int a t, .int b u]) Q E s :=
  max_two_N hh F N fun h' tk F' N' => by
    have q := h h' tk (if b > a then u else t) F' N'
    rwa [show max a b = if b > a then b else a from by split <;> omega] at q
end
theorem iteT {c : Prop} [Decidable c] {a b : Prop} (h : c) (k : a) : if c then a else b := by rw [if_pos h]; exact k
theorem iteF {c : Prop} [Decidable c] {a b : Prop} (h : ¬ c) (k : b) : if c then a else b := by rw [if_neg h]; exact k
theorem neAll {d : Nat} {r : List (Addr × Obj)} {adr : List Addr} (H : OwnOff r adr) (hd : d ∈ adr) : ∀ p ∈ r, p.1 ≠ d := fun p hp => H p hp d hd
theorem neCons {a d : Nat} {o : Obj} {r : List (Addr × Obj)} (h : a ≠ d) (H : ∀ p ∈ r, p.1 ≠ d) : ∀ p ∈ (a, o) :: r, p.1 ≠ d := fun p hp => by
  rcases List.mem_cons.mp hp with rfl | hp
  · exact h
  · exact H p hp
theorem ordSl {a0 a1 a2 a3 a4 a5 a6 x : Nat} (h : ordA a0 a1 a2 a3 a4 a5 a6) (h0 : x ≠ a0) (h1 : x ≠ a1) (h2 : x ≠ a2) (h3 : x ≠ a3) (h4 : x ≠ a4) (h5 : x ≠ a5) : ordA a0 a1 a2 a3 a4 a5 x := ⟨h.1, h.2.1, h.2.2.1, h.2.2.2.1, h.2.2.2.2.1, h0, h1, h2, h3, h4, h5⟩
theorem upd1 {a0 a1 a2 a3 a4 a5 a6 : Nat} {o0 o1 o2 o3 o4 o5 o6 o' : Obj} {tl : List (Addr × Obj)} (h : ordA a0 a1 a2 a3 a4 a5 a6) (H : OwnOff tl [a0, a1, a2, a3, a4, a5, a6]) : Upd a1 o1 o' ((a0, o0) :: (a1, o1) :: (a2, o2) :: (a3, o3) :: (a4, o4) :: (a5, o5) :: (a6, o6) :: tl) ((a0, o0) :: (a1, o') :: (a2, o2) :: (a3, o3) :: (a4, o4) :: (a5, o5) :: (a6, o6) :: tl) := .tail (Nat.ne_of_lt h.1) (.head (neCons (Nat.ne_of_gt h.2.1) (neCons (Nat.ne_of_gt (Nat.lt_trans h.2.1 h.2.2.1)) (neCons (Nat.ne_of_gt (Nat.lt_trans (Nat.lt_trans h.2.1 h.2.2.1) h.2.2.2.1)) (neCons (Nat.ne_of_gt (Nat.lt_trans (Nat.lt_trans (Nat.lt_trans h.2.1 h.2.2.1) h.2.2.2.1) h.2.2.2.2.1)) (neCons (h.2.2.2.2.2.2.1) (neAll H (by simp))))))))
theorem upd3 {a0 a1 a2 a3 a4 a5 a6 : Nat} {o0 o1 o2 o3 o4 o5 o6 o' : Obj} {tl : List (Addr × Obj)} (h : ordA a0 a1 a2 a3 a4 a5 a6) (H : OwnOff tl [a0, a1, a2, a3, a4, a5, a6]) : Upd a3 o3 o' ((a0, o0) :: (a1, o1) :: (a2, o2) :: (a3, o3) :: (a4, o4) :: (a5, o5) :: (a6, o6) :: tl) ((a0, o0) :: (a1, o1) :: (a2, o2) :: (a3, o') :: (a4, o4) :: (a5, o5) :: (a6, o6) :: tl) := .tail (Nat.ne_of_lt (Nat.lt_trans (Nat.lt_trans h.1 h.2.1) h.2.2.1)) (.tail (Nat.ne_of_lt (Nat.lt_trans h.2.1 h.2.2.1)) (.tail (Nat.ne_of_lt h.2.2.1) (.head (neCons (Nat.ne_of_gt h.2.2.2.1) (neCons (Nat.ne_of_gt (Nat.lt_trans h.2.2.2.1 h.2.2.2.2.1)) (neCons (h.2.2.2.2.2.2.2.2.1) (neAll H (by simp))))))))
theorem upd4 {a0 a1 a2 a3 a4 a5 a6 : Nat} {o0 o1 o2 o3 o4 o5 o6 o' : Obj} {tl : List (Addr × Obj)} (h : ordA a0 a1 a2 a3 a4 a5 a6) (H : OwnOff tl [a0, a1, a2, a3, a4, a5, a6]) : Upd a4 o4 o' ((a0, o0) :: (a1, o1) :: (a2, o2) :: (a3, o3) :: (a4, o4) :: (a5, o5) :: (a6, o6) :: tl) ((a0, o0) :: (a1, o1) :: (a2, o2) :: (a3, o3) :: (a4, o') :: (a5, o5) :: (a6, o6) :: tl) := .tail (Nat.ne_of_lt (Nat.lt_trans (Nat.lt_trans (Nat.lt_trans h.1 h.2.1) h.2.2.1) h.2.2.2.1)) (.tail (Nat.ne_of_lt (Nat.lt_trans (Nat.lt_trans h.2.1 h.2.2.1) h.2.2.2.1)) (.tail (Nat.ne_of_lt (Nat.lt_trans h.2.2.1 h.2.2.2.1)) (.tail (Nat.ne_of_lt h.2.2.2.1) (.head (neCons (Nat.ne_of_gt h.2.2.2.2.1) (neCons (h.2.2.2.2.2.2.2.2.2.1) (neAll H (by simp))))))))
theorem upd6 {a0 a1 a2 a3 a4 a5 a6 : Nat} {o0 o1 o2 o3 o4 o5 o6 o' : Obj} {tl : List (Addr × Obj)} (h : ordA a0 a1 a2 a3 a4 a5 a6) (H : OwnOff tl [a0, a1, a2, a3, a4, a5, a6]) : Upd a6 o6 o' ((a0, o0) :: (a1, o1) :: (a2, o2) :: (a3, o3) :: (a4, o4) :: (a5, o5) :: (a6, o6) :: tl) ((a0, o0) :: (a1, o1) :: (a2, o2) :: (a3, o3) :: (a4, o4) :: (a5, o5) :: (a6, o') :: tl) := .tail (Ne.symm h.2.2.2.2.2.1) (.tail (Ne.symm h.2.2.2.2.2.2.1) (.tail (Ne.symm h.2.2.2.2.2.2.2.1) (.tail (Ne.symm h.2.2.2.2.2.2.2.2.1) (.tail (Ne.symm h.2.2.2.2.2.2.2.2.2.1) (.tail (Ne.symm h.2.2.2.2.2.2.2.2.2.2) (.head (neAll H (by simp))))))))
theorem updF0 {a0 a1 a2 a3 a4 a5 a6 : Nat} {o0 o1 o2 o3 o4 o5 o6 : Obj} {tl : List (Addr × Obj)} (h : ordA a0 a1 a2 a3 a4 a5 a6) (H : OwnOff tl [a0, a1, a2, a3, a4, a5, a6]) : UpdF a0 o0 ((a0, o0) :: (a1, o1) :: (a2, o2) :: (a3, o3) :: (a4, o4) :: (a5, o5) :: (a6, o6) :: tl) (fun o9 => (a0, o9) :: (a1, o1) :: (a2, o2) :: (a3, o3) :: (a4, o4) :: (a5, o5) :: (a6, o6) :: tl) := .head (neCons (Nat.ne_of_gt h.1) (neCons (Nat.ne_of_gt (Nat.lt_trans h.1 h.2.1)) (neCons (Nat.ne_of_gt (Nat.lt_trans (Nat.lt_trans h.1 h.2.1) h.2.2.1)) (neCons (Nat.ne_of_gt (Nat.lt_trans (Nat.lt_trans (Nat.lt_trans h.1 h.2.1) h.2.2.1) h.2.2.2.1)) (neCons (Nat.ne_of_gt (Nat.lt_trans (Nat.lt_trans (Nat.lt_trans (Nat.lt_trans h.1 h.2.1) h.2.2.1) h.2.2.2.1) h.2.2.2.2.1)) (neCons (h.2.2.2.2.2.1) (neAll H (by simp))))))))

section
variable {prog : Program} {w : World} {A : Around} {E : Value → Shared → Prop} {s : Shared} {env : Env} {h₀ : Heap} {x : Str} {body : List Stmt} {Q : Flow → Shared → Prop}
/-- a for over a range by ones, any invariant over the turn's number, the frame and the ledger -/
theorem range_inv {r : Addr} {a₀ b₀ : Int} {t₀ u₀ v₀ : Tok} {n : Nat} {m₀ : Str → Option Value} {news : List (Addr × Obj)} (J : Nat → (Str → Option Value) → List (Addr × Obj) → Prop)
    (hh : A.handled = none) (hr : IsRange s.heap r a₀ b₀ 1 t₀ u₀ v₀) (hsmall : Builtin.Range.small a₀ b₀ 1 = true) (hsz : Builtin.Range.rangeSize a₀ b₀ 1 = (n : Int))
    (F : Fr h₀ env.locals s.heap m₀) (N : News h₀ env.locals s.heap news) (hj : J 0 m₀ news)
    (turn : ∀ i t m₁ nx h tk own, i < n → OwnOff own (nx.map (·.1)) → J i m₁ nx → Fr h₀ env.locals h (fun y => if y = x then some (.int (a₀ + (i : Int)) t) else m₁ y) → News h₀ env.locals h (nx ++ own) →
      wpAny (model prog w) A (execs body env) (InvPostG h₀ env.locals (J (i + 1)) own { s with heap := h, toks := tk } Q) E { s with heap := h, toks := tk })
    (done : ∀ m₁ nx h tk, J n m₁ nx → Fr h₀ env.locals h m₁ → News h₀ env.locals h nx → Q .next { s with heap := h, toks := tk }) :
    wpAny (model prog w) A (pyIter (.ref r)) (fun it s₂ => LoopAtV prog w A h₀ env x body Q E it s₂) E s := by
  refine wpAny_pyIter_range hr hsmall ?_
  have one : ∀ b, b ∈ [s.heap.objs.size] → b = s.heap.objs.size := fun b hb => List.mem_singleton.mp hb
  have W : Walks prog w A s.heap.objs.size [s.heap.objs.size] [s.heap.objs.size] n (fun i v => i < n ∧ ∃ t, v = .int (a₀ + i * 1) t)
      (fun i h => IsRangeIter h s.heap.objs.size (a₀ + (i : Nat) * 1) ((n : Int) - (i : Nat)) 1) := (Walks.range hh _ a₀ 1 n).bound
  refine kdr_loop J W (fun _ h => h) (fun _ h => h) (fun i h hi b hb => ⟨_, one b hb ▸ hi⟩) (fun hm => absurd F.ns.lt ((one _ hm) ▸ Nat.lt_irrefl _)) (fun b hb => one b hb ▸ next_is_new F)
    (fun p hp hI => absurd (Heap.lt_size (N p hp).1) ((one _ hI) ▸ Nat.lt_irrefl _)) (by show IsRangeIter _ _ _ _ _; rw [hsz]; simpa using Heap.get?_push_size _ rfl) (F.push _)
    (fun p hp => ⟨Heap.get?_push_of_some _ (N p hp).1, (N p hp).2⟩) hj ?_ done
  rintro i v m₁ nx h tk own hi ⟨_, t, rfl⟩ hoff hJ F₁ N₁
  have e1 : a₀ + (i : Int) * 1 = a₀ + (i : Int) := by omega
  rw [e1] at F₁
  exact turn i t m₁ nx h tk own hi hoff hJ F₁ N₁
end
theorem name_head {h₀ h : Heap} {L l : Addr} {o : Obj} {r : List (Addr × Obj)} (_ : News h₀ L h ((l, o) :: r)) : ∃ l9, l9 = l := ⟨_, rfl⟩
theorem own_off {own tl : List (Addr × Obj)} {adr nx : List Addr} (h1 : OwnOff tl adr) (h2 : OwnOff own nx) (hs : ∀ b ∈ adr, b ∈ nx) : OwnOff (tl ++ own) adr := by
  intro p hp b hb
  rcases List.mem_append.mp hp with hp | hp
  · exact h1 p hp b hb
  · exact h2 p hp b (hs b hb)
theorem allLt_off {l : Addr} {bk drg rg rl dpr pr sl : Addr} {bo ro lo po so : Obj} {tl : List (Addr × Obj)} (h : AllLt l (LED bk drg rg rl dpr pr sl bo ro lo po so tl)) (o : OwnOff tl [bk, drg, rg, rl, dpr, pr, sl]) : OwnOff tl [l, bk, drg, rg, rl, dpr, pr, sl] := by
  intro p hp b hb
  rcases List.mem_cons.mp hb with rfl | hb
  · have q := allLt_ne (h.2.2.2.2.2.2.2 : AllLt b tl) p.1 (List.mem_map_of_mem hp)
    exact fun e => q e.symm
  · exact o p hp b hb
section
variable {bk drg rg rl dpr pr sl : Addr} {bo ro lo po so : Obj} {tl own : List (Addr × Obj)} {x : Addr × Obj}
theorem led_own0 : ∀ p ∈ LED bk drg rg rl dpr pr sl bo ro lo po so tl, p ∈ LED bk drg rg rl dpr pr sl bo ro lo po so (tl ++ own) := by
  intro p hp
  have : LED bk drg rg rl dpr pr sl bo ro lo po so (tl ++ own) = LED bk drg rg rl dpr pr sl bo ro lo po so tl ++ own := rfl
  rw [this]
  exact List.mem_append_left _ hp
theorem led_ownR0 : ∀ p ∈ own, p ∈ LED bk drg rg rl dpr pr sl bo ro lo po so (tl ++ own) := by
  intro p hp
  have : LED bk drg rg rl dpr pr sl bo ro lo po so (tl ++ own) = LED bk drg rg rl dpr pr sl bo ro lo po so tl ++ own := rfl
  rw [this]
  exact List.mem_append_right _ hp
theorem led_own1 : ∀ p ∈ x :: LED bk drg rg rl dpr pr sl bo ro lo po so tl, p ∈ x :: LED bk drg rg rl dpr pr sl bo ro lo po so (tl ++ own) := by
  intro p hp
  rcases List.mem_cons.mp hp with rfl | hp
  · exact .head _
  · exact .tail _ (led_own0 p hp)
theorem led_ownR1 : ∀ p ∈ own, p ∈ x :: LED bk drg rg rl dpr pr sl bo ro lo po so (tl ++ own) := fun p hp => .tail _ (led_ownR0 p hp)
end
theorem led_drop3 {h₀ h : Heap} {L : Addr} {x y z : Addr × Obj} {l : List (Addr × Obj)} (N : News h₀ L h (x :: y :: z :: l)) : News h₀ L h (x :: y :: l) := fun p hp => by
  refine N p ?_
  simp only [List.mem_cons] at hp ⊢
  rcases hp with h | h | h
  · exact .inl h
  · exact .inr (.inl h)
  · exact .inr (.inr (.inr h))
theorem led_new {h₀ h : Heap} {L bk drg rg rl dpr pr sl l : Addr} {bo ro lo po so o : Obj} {tl : List (Addr × Obj)} (N : News h₀ L h ((l, o) :: LED bk drg rg rl dpr pr sl bo ro lo po so tl)) : News h₀ L h (LED bk drg rg rl dpr pr l bo ro lo po o tl) := by
  intro p hp
  refine N p ?_
  simp only [LED, List.mem_cons] at hp ⊢
  rcases hp with h | h | h | h | h | h | h | h <;> simp [h]
theorem off_new {bk drg rg rl dpr pr sl l : Addr} {tl : List (Addr × Obj)} (O : OwnOff tl [bk, drg, rg, rl, dpr, pr, sl]) (h : AllLt l tl) : OwnOff tl [bk, drg, rg, rl, dpr, pr, l] := by
  intro p hp b hb
  have q := allLt_ne h p.1 (List.mem_map_of_mem hp)
  simp only [List.mem_cons, List.not_mem_nil, or_false] at hb
  rcases hb with rfl | rfl | rfl | rfl | rfl | rfl | rfl
  · exact O p hp _ (by simp)
  · exact O p hp _ (by simp)
  · exact O p hp _ (by simp)
  · exact O p hp _ (by simp)
  · exact O p hp _ (by simp)
  · exact O p hp _ (by simp)
  · exact fun e => q e.symm
theorem off_new7 {bk drg rg rl dpr pr sl l : Addr} {tl : List (Addr × Obj)} {a b c d e f g : Prop} (O : OwnOff tl [bk, drg, rg, rl, dpr, pr, sl]) (h : a ∧ b ∧ c ∧ d ∧ e ∧ f ∧ g ∧ AllLt l tl) : OwnOff tl [bk, drg, rg, rl, dpr, pr, l] := off_new O h.2.2.2.2.2.2.2
theorem led_pull2 {h₀ h : Heap} {L bk drg rg rl dpr pr sl : Addr} {bo ro lo po so : Obj} {x y : Addr × Obj} {tl : List (Addr × Obj)} (N : News h₀ L h (x :: y :: LED bk drg rg rl dpr pr sl bo ro lo po so tl)) : News h₀ L h (LED bk drg rg rl dpr pr sl bo ro lo po so (x :: y :: tl)) := by
  intro p hp
  refine N p ?_
  simp only [LED, List.mem_cons] at hp ⊢
  rcases hp with h | h | h | h | h | h | h | h | h | h <;> simp [h]
noncomputable def isTup (p : Addr × Obj) : Bool := p.2.cls == .type "tuple"
section
variable {prog : Program} {w : World} {A : Around} {E : Value → Shared → Prop} {s : Shared} {env : Env} {h₀ : Heap} {x : Str} {body : List Stmt} {Q : Flow → Shared → Prop}
/-- as range_inv; what the loop itself holds is no tuple -/
theorem range_inv2 {r : Addr} {a₀ b₀ : Int} {t₀ u₀ v₀ : Tok} {n : Nat} {m₀ : Str → Option Value} {news : List (Addr × Obj)} (J : Nat → (Str → Option Value) → List (Addr × Obj) → Prop)
    (hh : A.handled = none) (hr : IsRange s.heap r a₀ b₀ 1 t₀ u₀ v₀) (hsmall : Builtin.Range.small a₀ b₀ 1 = true) (hsz : Builtin.Range.rangeSize a₀ b₀ 1 = (n : Int))
    (F : Fr h₀ env.locals s.heap m₀) (N : News h₀ env.locals s.heap news) (hj : J 0 m₀ news)
    (turn : ∀ i t m₁ nx h tk own, i < n → (∀ p ∈ own, isTup p = false) → OwnOff own (nx.map (·.1)) → J i m₁ nx → Fr h₀ env.locals h (fun y => if y = x then some (.int (a₀ + (i : Int)) t) else m₁ y) → News h₀ env.locals h (nx ++ own) →
      wpAny (model prog w) A (execs body env) (InvPostG h₀ env.locals (J (i + 1)) own { s with heap := h, toks := tk } Q) E { s with heap := h, toks := tk })
    (done : ∀ m₁ nx h tk, J n m₁ nx → Fr h₀ env.locals h m₁ → News h₀ env.locals h nx → Q .next { s with heap := h, toks := tk }) :
    wpAny (model prog w) A (pyIter (.ref r)) (fun it s₂ => LoopAtV prog w A h₀ env x body Q E it s₂) E s := by
  refine wpAny_pyIter_range hr hsmall ?_
  have one : ∀ b, b ∈ [s.heap.objs.size] → b = s.heap.objs.size := fun b hb => List.mem_singleton.mp hb
  have W : Walks prog w A s.heap.objs.size [s.heap.objs.size] [s.heap.objs.size] n (fun i v => i < n ∧ ∃ t, v = .int (a₀ + i * 1) t)
      (fun i h => IsRangeIter h s.heap.objs.size (a₀ + (i : Nat) * 1) ((n : Int) - (i : Nat)) 1) := (Walks.range hh _ a₀ 1 n).bound
  refine ⟨_, _, _, n, _, _, m₀, news, J, rfl, W, (fun hm => absurd F.ns.lt ((one _ hm) ▸ Nat.lt_irrefl _)), (fun b hb => one b hb ▸ next_is_new F), (fun p hp hI => absurd (Heap.lt_size (N p hp).1) ((one _ hI) ▸ Nat.lt_irrefl _)),
    (by show IsRangeIter _ _ _ _ _; rw [hsz]; simpa using Heap.get?_push_size _ rfl), F.push _, (fun p hp => ⟨Heap.get?_push_of_some _ (N p hp).1, (N p hp).2⟩), hj, ?_, ?_⟩
  · rintro i v m₁ nx s₁ own ⟨h, tk, rfl⟩ hi ⟨_, t, rfl⟩ hJ hoff hown hget hmem hst F₁ N₁
    have e1 : a₀ + (i : Int) * 1 = a₀ + (i : Int) := by omega
    rw [e1] at F₁
    have hnt : ∀ p ∈ own, isTup p = false := by
      intro p hp
      have h1 := hget p hp
      rw [one _ (hown p hp)] at h1
      have h2 : h.get? s.heap.objs.size = _ := hst
      rw [h2] at h1
      rw [isTup, ← Option.some.inj h1]
      rfl
    have hsep : OwnOff own (nx.map (·.1)) := by
      intro p hp b hb e
      obtain ⟨q, hq, rfl⟩ := List.mem_map.mp hb
      exact hoff q hq (e ▸ hown p hp)
    have N₂ : News h₀ env.locals h (nx ++ own) := fun p hp => N₁ p ((List.mem_append.mp hp).elim (fun q => List.mem_append_right _ q) fun q => List.mem_append_left _ q)
    refine wpAny_mono (turn i t m₁ nx h tk own hi hnt hsep hJ F₁ N₂) (fun f s₂ k => ?_) fun _ _ e => e
    have fin : InvEndG h₀ env.locals (J (i + 1)) own { s with heap := h, toks := tk } s₂ → LoopStepU h₀ env.locals [s.heap.objs.size] own (J (i + 1)) { s with heap := h, toks := tk } .next s₂ := by
      rintro ⟨h', tk', m', news', nx', e, F', N', hn, ho, ha, hm⟩
      refine ⟨rfl, h', tk', m', nx', e, F', fun p hp => N' p ((List.mem_append.mp hp).elim (ho p) (hn p)), fun p hp hq => ?_, hm⟩
      exact ha _ (hmem _ (.head _) (next_is_new F) _ hst) p.1 (List.mem_map_of_mem hp) (one _ hq).symm
    cases f with
    | ret v => exact .ret k
    | brk => exact .brk k
    | next => exact .next (fin k)
    | cont => exact .cont (fin k)
  · rintro h' tk m' news' F' N' _ hJ
    exact done m' news' h' tk hJ F' N'
end
theorem Rows.filter {T : List (Addr × Obj)} {vs : List Value} {rs : List (Int × Int)} (h : Rows T vs rs) : Rows (T.filter isTup) vs rs := by
  induction h with
  | nil => exact .nil
  | cons h _ ih =>
    refine .cons ?_ ih
    cases h with
    | mk hm => exact .mk (List.mem_filter.mpr ⟨hm, rfl⟩)
theorem own_tidy {h₀ h : Heap} {L bk drg rg rl dpr pr sl : Addr} {bo ro lo po so : Obj} {T own : List (Addr × Obj)} (N : News h₀ L h (LED bk drg rg rl dpr pr sl bo ro lo po so T)) (S : ∀ p ∈ own, p ∈ T) (hnt : ∀ p ∈ own, isTup p = false)
    (O : OwnOff T [bk, drg, rg, rl, dpr, pr, sl]) : OwnOff own ((LED bk drg rg rl dpr pr sl bo ro lo po so (T.filter isTup)).map (·.1)) := by
  intro p hp b hb
  simp only [LED, List.map_cons, List.mem_cons] at hb
  have o := O p (S p hp)
  have in_T : ∀ q ∈ T, q ∈ LED bk drg rg rl dpr pr sl bo ro lo po so T := fun q hq => by simp [LED, hq]
  rcases hb with h | h | h | h | h | h | h | h
  · exact h ▸ o bk (by simp)
  · exact h ▸ o drg (by simp)
  · exact h ▸ o rg (by simp)
  · exact h ▸ o rl (by simp)
  · exact h ▸ o dpr (by simp)
  · exact h ▸ o pr (by simp)
  · exact h ▸ o sl (by simp)
  · obtain ⟨q, hq, rfl⟩ := List.mem_map.mp h
    obtain ⟨hq, ht⟩ := List.mem_filter.mp hq
    intro e
    have h1 := (N p (in_T p (S p hp))).1
    have h2 := (N q (in_T q hq)).1
    rw [e, h2] at h1
    have h3 := hnt p hp
    rw [isTup, ← Option.some.inj h1] at h3
    rw [isTup] at ht
    rw [ht] at h3
    cases h3
theorem own_off7 {own tl : List (Addr × Obj)} {bk drg rg rl dpr pr sl : Addr} {bo ro lo po so : Obj} (h1 : OwnOff tl [bk, drg, rg, rl, dpr, pr, sl]) (h2 : OwnOff own ((LED bk drg rg rl dpr pr sl bo ro lo po so tl).map (·.1))) : OwnOff (tl ++ own) [bk, drg, rg, rl, dpr, pr, sl] :=
  own_off h1 h2 (by
    intro b hb
    simp only [List.mem_cons, List.not_mem_nil, or_false] at hb
    simp only [LED, List.map_cons, List.mem_cons]
    rcases hb with h | h | h | h | h | h | h <;> simp [h])
theorem turn_nil {h₀ h₂ h : Heap} {L : Addr} {m : Str → Option Value} (T : KtsTurn [] h₀ h₂) (F : Fr h₂ L h m) : Fr h₀ L h m := ⟨F.ns, fun b o e => F.keep b o (T.other b o e (by simp)), T.size ▸ F.above⟩
theorem turn_nilN {h₀ h₂ h : Heap} {L : Addr} {news : List (Addr × Obj)} (T : KtsTurn [] h₀ h₂) (N : News h₂ L h news) : News h₀ L h news := fun p hp => ⟨(N p hp).1, (N p hp).2.1, by
  cases q : h₀.get? p.1 with
  | none => rfl
  | some o => have := T.other _ _ q (by simp); rw [(N p hp).2.2] at this; cases this⟩
noncomputable def tidy (T tl : List (Addr × Obj)) : List (Addr × Obj) := T.filter isTup ++ tl
theorem tidy_sub {T tl : List (Addr × Obj)} (h : ∀ p ∈ tl, p ∈ T) : ∀ p ∈ tidy T tl, p ∈ T := fun p hp => (List.mem_append.mp hp).elim (fun q => (List.mem_filter.mp q).1) (h p)
theorem tidy_has {T tl : List (Addr × Obj)} : ∀ p ∈ tl, p ∈ tidy T tl := fun p hp => List.mem_append_right _ hp
theorem tidy_rows {T tl : List (Addr × Obj)} {vs : List Value} {rs : List (Int × Int)} (h : Rows T vs rs) : Rows (tidy T tl) vs rs := h.filter.mono fun p hp => List.mem_append_left _ hp
theorem tidy_off {T tl : List (Addr × Obj)} {adr : List Addr} (h : ∀ p ∈ tl, p ∈ T) (O : OwnOff T adr) : OwnOff (tidy T tl) adr := fun p hp b hb => O p (tidy_sub h p hp) b hb
theorem inv_end2 {h₀ h' : Heap} {L bk drg rg rl dpr pr sl : Addr} {bo ro lo po so : Obj} {T own tl nx : List (Addr × Obj)} {m' : Str → Option Value} {J : (Str → Option Value) → List (Addr × Obj) → Prop} {s₁ : Shared} {tk : Nat}
    (F : Fr h₀ L h' m') (N : News h₀ L h' (LED bk drg rg rl dpr pr sl bo ro lo po so T)) (S : ∀ p ∈ own, p ∈ T) (hnt : ∀ p ∈ own, isTup p = false) (O : OwnOff T [bk, drg, rg, rl, dpr, pr, sl])
    (S0 : ∀ p ∈ tl, p ∈ T) (hoff : OwnOff own (nx.map (·.1))) (h0 : ∀ p ∈ tl, p ∈ nx)
    (hj : J m' (LED bk drg rg rl dpr pr sl bo ro lo po so (tidy T tl))) : InvEndG h₀ L J own s₁ { s₁ with heap := h', toks := tk } := by
  refine InvEndG.intro F N hj ?_ (fun p hp => ?_) (fun p hp => by simp [LED, S p hp])
  · intro p hp b hb
    have q := own_tidy N S hnt O p hp b
    simp only [LED, List.map_cons, List.mem_cons, tidy, List.map_append, List.mem_append] at hb q
    rcases hb with h | h | h | h | h | h | h | h | h
    · exact q (by simp [h])
    · exact q (by simp [h])
    · exact q (by simp [h])
    · exact q (by simp [h])
    · exact q (by simp [h])
    · exact q (by simp [h])
    · exact q (by simp [h])
    · exact q (by simp [h])
    · obtain ⟨r, hr, rfl⟩ := List.mem_map.mp h
      exact hoff p hp _ (List.mem_map_of_mem (h0 r hr))
  · have q := tidy_sub S0 p
    simp only [LED, List.mem_cons] at hp ⊢
    rcases hp with h | h | h | h | h | h | h | h
    · simp [h]
    · simp [h]
    · simp [h]
    · simp [h]
    · simp [h]
    · simp [h]
    · simp [h]
    · simp [q h]
theorem pull_tail {h₀ h : Heap} {L bk drg rg rl dpr pr sl : Addr} {bo ro lo po so : Obj} {x : Addr × Obj} {tl : List (Addr × Obj)} (N : News h₀ L h (x :: LED bk drg rg rl dpr pr sl bo ro lo po so tl)) :
    ∃ T, News h₀ L h (LED bk drg rg rl dpr pr sl bo ro lo po so T) ∧ x ∈ T ∧ (∀ p ∈ tl, p ∈ T) ∧ ∀ p ∈ T, p = x ∨ p ∈ tl :=
  ⟨x :: tl, led_pull N, .head _, fun p hp => .tail _ hp, fun p hp => List.mem_cons.mp hp⟩
theorem ext_name {a b : List (Addr × Obj)} (_ : Ext a b) : ∃ t, t = b := ⟨_, rfl⟩
theorem off_new1 {bk drg rg rl dpr pr sl l : Addr} {tl : List (Addr × Obj)} (O : OwnOff tl [bk, drg, rg, rl, dpr, pr, sl]) (h : LCg.Off1 l tl) : OwnOff tl [bk, drg, rg, rl, dpr, pr, l] := by
  have q : ∀ {r : List (Addr × Obj)}, LCg.Off1 l r → ∀ p ∈ r, p.1 ≠ l := by
    intro r
    induction r with
    | nil => intro _ p hp; cases hp
    | cons a r ih =>
      intro h p hp
      rcases List.mem_cons.mp hp with rfl | hp
      · exact h.1
      · exact ih h.2 p hp
  intro p hp b hb
  simp only [List.mem_cons, List.not_mem_nil, or_false] at hb
  rcases hb with rfl | rfl | rfl | rfl | rfl | rfl | rfl
  · exact O p hp _ (by simp)
  · exact O p hp _ (by simp)
  · exact O p hp _ (by simp)
  · exact O p hp _ (by simp)
  · exact O p hp _ (by simp)
  · exact O p hp _ (by simp)
  · exact q h p hp
theorem name_headN {h₀ h : Heap} {L : Addr} {l : Nat} {o : Obj} {r : List (Addr × Obj)} (_ : News h₀ L h ((l, o) :: r)) : ∃ l9 : Nat, @Eq Nat l9 l := ⟨_, rfl⟩
theorem filt_yes {α : Type} {l : List α} {p : α → Bool} {i : Nat} {r : α} (h : l[i]? = some r) (hp : p r = true) : (l.take (i + 1)).filter p = (l.take i).filter p ++ [r] := by
  rw [List.take_add_one, h, List.filter_append]; simp [hp]
theorem filt_no {α : Type} {l : List α} {p : α → Bool} {i : Nat} {r : α} (h : l[i]? = some r) (hp : p r = false) : (l.take (i + 1)).filter p = (l.take i).filter p := by
  rw [List.take_add_one, h, List.filter_append]; simp [hp]
theorem map_snoc {α β : Type} {l : List α} {f : α → β} {i : Nat} {r : α} (h : l[i]? = some r) : (l.take (i + 1)).map f = (l.take i).map f ++ [f r] := by
  rw [List.take_add_one, h, List.map_append]; simp
theorem ints_snoc {vs : List Value} {ns : List Int} {i : Int} {t : Tok} (h : IntsAre vs ns) : IntsAre (vs ++ [.int i t]) (ns ++ [i]) := by
  induction h with
  | nil => exact .cons _ _ .nil
  | cons i t _ ih => exact .cons _ _ ih
theorem row_at {T : List (Addr × Obj)} {vs : List Value} {rs : List (Int × Int)} (R : Rows T vs rs) {i : Nat} {v : Value} (h : vs.toArray[i]? = some v) : ∃ r, rs[i]? = some r ∧ Row T v r := by
  have h' : vs[i]? = some v := by simpa using h
  have hi : i < vs.length := by
    rcases Nat.lt_or_ge i vs.length with q | q
    · exact q
    · rw [List.getElem?_eq_none q] at h'; cases h'
  have hi2 : i < rs.length := R.length ▸ hi
  obtain ⟨v', hv, hr⟩ := R.get (k := i) (r := rs[i]) (by simp [hi2])
  rw [h'] at hv
  cases hv
  exact ⟨_, by simp [hi2], hr⟩

/-- the pairs of the law's book -/
noncomputable def bkV (size most mt up st pd : Int) (pa ln : Bool) (sl : Addr) (wt run pk sc : Int) (t0 t1 t2 t3 t4 t5 t6 t7 t8 t9 : Tok) : List (Str × Value) :=
  [(Str.ofString "size", .int size t0), (Str.ofString "most", .int most t1), (Str.ofString "match", .int mt t2), (Str.ofString "upto", .int up t3), (Str.ofString "state", .int st t4), (Str.ofString "pending", .int pd t5), (Str.ofString "paused", .bool pa), (Str.ofString "learner", .bool ln), (Str.ofString "sent", .ref sl), (Str.ofString "weight", .int wt t6), (Str.ofString "run", .int run t7), (Str.ofString "peak", .int pk t8), (Str.ofString "scale", .int sc t9)]
section
variable {size most mt up st pd wt run pk sc : Int} {pa ln : Bool} {sl : Addr} {t0 t1 t2 t3 t4 t5 t6 t7 t8 t9 : Tok}
theorem bkV_size : valueAt (bkV size most mt up st pd pa ln sl wt run pk sc t0 t1 t2 t3 t4 t5 t6 t7 t8 t9) (Str.ofString "size") = some (.int size t0) := by rfl
theorem bkV_most : valueAt (bkV size most mt up st pd pa ln sl wt run pk sc t0 t1 t2 t3 t4 t5 t6 t7 t8 t9) (Str.ofString "most") = some (.int most t1) := by rfl
theorem bkV_match : valueAt (bkV size most mt up st pd pa ln sl wt run pk sc t0 t1 t2 t3 t4 t5 t6 t7 t8 t9) (Str.ofString "match") = some (.int mt t2) := by rfl
theorem bkV_upto : valueAt (bkV size most mt up st pd pa ln sl wt run pk sc t0 t1 t2 t3 t4 t5 t6 t7 t8 t9) (Str.ofString "upto") = some (.int up t3) := by rfl
theorem bkV_state : valueAt (bkV size most mt up st pd pa ln sl wt run pk sc t0 t1 t2 t3 t4 t5 t6 t7 t8 t9) (Str.ofString "state") = some (.int st t4) := by rfl
theorem bkV_pending : valueAt (bkV size most mt up st pd pa ln sl wt run pk sc t0 t1 t2 t3 t4 t5 t6 t7 t8 t9) (Str.ofString "pending") = some (.int pd t5) := by rfl
theorem bkV_paused : valueAt (bkV size most mt up st pd pa ln sl wt run pk sc t0 t1 t2 t3 t4 t5 t6 t7 t8 t9) (Str.ofString "paused") = some (.bool pa) := by rfl
theorem bkV_learner : valueAt (bkV size most mt up st pd pa ln sl wt run pk sc t0 t1 t2 t3 t4 t5 t6 t7 t8 t9) (Str.ofString "learner") = some (.bool ln) := by rfl
theorem bkV_sent : valueAt (bkV size most mt up st pd pa ln sl wt run pk sc t0 t1 t2 t3 t4 t5 t6 t7 t8 t9) (Str.ofString "sent") = some (.ref sl) := by rfl
theorem bkV_weight : valueAt (bkV size most mt up st pd pa ln sl wt run pk sc t0 t1 t2 t3 t4 t5 t6 t7 t8 t9) (Str.ofString "weight") = some (.int wt t6) := by rfl
theorem bkV_run : valueAt (bkV size most mt up st pd pa ln sl wt run pk sc t0 t1 t2 t3 t4 t5 t6 t7 t8 t9) (Str.ofString "run") = some (.int run t7) := by rfl
theorem bkV_peak : valueAt (bkV size most mt up st pd pa ln sl wt run pk sc t0 t1 t2 t3 t4 t5 t6 t7 t8 t9) (Str.ofString "peak") = some (.int pk t8) := by rfl
theorem bkV_scale : valueAt (bkV size most mt up st pd pa ln sl wt run pk sc t0 t1 t2 t3 t4 t5 t6 t7 t8 t9) (Str.ofString "scale") = some (.int sc t9) := by rfl
theorem bkS_match {v : Int} {t : Tok} : stored (bkV size most mt up st pd pa ln sl wt run pk sc t0 t1 t2 t3 t4 t5 t6 t7 t8 t9) (Str.ofString "match") (.int v t) = bkV size most v up st pd pa ln sl wt run pk sc t0 t1 t t3 t4 t5 t6 t7 t8 t9 := by rfl
theorem bkS_upto {v : Int} {t : Tok} : stored (bkV size most mt up st pd pa ln sl wt run pk sc t0 t1 t2 t3 t4 t5 t6 t7 t8 t9) (Str.ofString "upto") (.int v t) = bkV size most mt v st pd pa ln sl wt run pk sc t0 t1 t2 t t4 t5 t6 t7 t8 t9 := by rfl
theorem bkS_state {v : Int} {t : Tok} : stored (bkV size most mt up st pd pa ln sl wt run pk sc t0 t1 t2 t3 t4 t5 t6 t7 t8 t9) (Str.ofString "state") (.int v t) = bkV size most mt up v pd pa ln sl wt run pk sc t0 t1 t2 t3 t t5 t6 t7 t8 t9 := by rfl
theorem bkS_pending {v : Int} {t : Tok} : stored (bkV size most mt up st pd pa ln sl wt run pk sc t0 t1 t2 t3 t4 t5 t6 t7 t8 t9) (Str.ofString "pending") (.int v t) = bkV size most mt up st v pa ln sl wt run pk sc t0 t1 t2 t3 t4 t t6 t7 t8 t9 := by rfl
theorem bkS_weight {v : Int} {t : Tok} : stored (bkV size most mt up st pd pa ln sl wt run pk sc t0 t1 t2 t3 t4 t5 t6 t7 t8 t9) (Str.ofString "weight") (.int v t) = bkV size most mt up st pd pa ln sl v run pk sc t0 t1 t2 t3 t4 t5 t t7 t8 t9 := by rfl
theorem bkS_run {v : Int} {t : Tok} : stored (bkV size most mt up st pd pa ln sl wt run pk sc t0 t1 t2 t3 t4 t5 t6 t7 t8 t9) (Str.ofString "run") (.int v t) = bkV size most mt up st pd pa ln sl wt v pk sc t0 t1 t2 t3 t4 t5 t6 t t8 t9 := by rfl
theorem bkS_peak {v : Int} {t : Tok} : stored (bkV size most mt up st pd pa ln sl wt run pk sc t0 t1 t2 t3 t4 t5 t6 t7 t8 t9) (Str.ofString "peak") (.int v t) = bkV size most mt up st pd pa ln sl wt run v sc t0 t1 t2 t3 t4 t5 t6 t7 t t9 := by rfl
theorem bkS_paused {v : Bool} : stored (bkV size most mt up st pd pa ln sl wt run pk sc t0 t1 t2 t3 t4 t5 t6 t7 t8 t9) (Str.ofString "paused") (.bool v) = bkV size most mt up st pd v ln sl wt run pk sc t0 t1 t2 t3 t4 t5 t6 t7 t8 t9 := by rfl
theorem bkS_sent {v : Addr} : stored (bkV size most mt up st pd pa ln sl wt run pk sc t0 t1 t2 t3 t4 t5 t6 t7 t8 t9) (Str.ofString "sent") (.ref v) = bkV size most mt up st pd pa ln v wt run pk sc t0 t1 t2 t3 t4 t5 t6 t7 t8 t9 := by rfl
theorem bkV_length : (bkV size most mt up st pd pa ln sl wt run pk sc t0 t1 t2 t3 t4 t5 t6 t7 t8 t9).length ≤ sizeLine := by rw [sizeLine_eq]; exact Nat.le_of_ble_eq_true rfl
end
section
variable {prog : Program} {w : World} {A : Around} {E : Value → Shared → Prop} {s : Shared} {h₀ : Heap} {L d : Addr} {m : Str → Option Value} {news : List (Addr × Obj)} {g : Obj → List (Addr × Obj)} {o : Obj} {kvs kvs' : List (Str × Value)} {k : Str} {tk : Tok} {v : Value}
theorem bk_get {Q : Value → Shared → Prop} (N : News h₀ L s.heap news) (hp : (d, o) ∈ news) (hd : o.IsDictOf (PySem.strKind prog w) kvs) (hl : valueAt kvs k = some v) (h : Q v { s with toks := s.toks + 1 }) :
    wpAny (model prog w) A (getItem (.ref d) (.str k tk)) Q E s := wpAny_getItem_of (strKind_is _ _ _ _) (kda_dict N hp hd).mapOf hl h
theorem bk_set {Q : Unit → Shared → Prop} (F : Fr h₀ L s.heap m) (N : News h₀ L s.heap news) (U : UpdF d o news g) (hd : o.IsDictOf (PySem.strKind prog w) kvs) (hsz : kvs.length ≤ sizeLine) (e : stored kvs k v = kvs')
    (h : ∀ h' o', Fr h₀ L h' m → News h₀ L h' (g o') → o'.IsDictOf (PySem.strKind prog w) kvs' → Q () { s with heap := h', toks := s.toks + 1 }) : wpAny (model prog w) A (setItem (.ref d) (.str k tk) v) Q E s :=
  kda_set F N U hd (strKind_is _ _ _ _) hsz (e ▸ h)
end
theorem dict_flow {prog : Program} {w : World} {bo : Obj} {size most mt up st pd wt run pk sc : Int} {f1 f2 ln : Bool} {sl : Addr} {t0 t1 t2 t3 t4 t5 t6 t7 t8 t9 : Tok}
    (h : bo.IsDictOf (PySem.strKind prog w) (bkV size most mt up st pd f1 ln sl wt run pk sc t0 t1 t2 t3 t4 t5 t6 t7 t8 t9)) (e : f1 = f2) :
    bo.IsDictOf (PySem.strKind prog w) (bkV size most mt up st pd f2 ln sl wt run pk sc t0 t1 t2 t3 t4 t5 t6 t7 t8 t9) := e ▸ h

noncomputable def rowDat (rs : List (Int × Int)) : List PyData := rs.map fun r => .tuple [.int r.1, .int r.2]
noncomputable def rowData (mt up st pd : Int) (flow ln : Bool) (size most oct : Int) (rs : List (Int × Int)) : PyData :=
  .tuple [.int mt, .int up, .int st, .int pd, .bool false, .bool flow, .bool ln, .tuple [.int size, .int most, .int oct, .tuple (rowDat rs)]]
theorem rowDat_lay (rs : List (Int × Int)) : PyData.canLayAll0 (rowDat rs) = true := by
  induction rs with
  | nil => rfl
  | cons r rs ih => simpa [rowDat, PyData.canLayAll0, PyData.canLay0] using ih
theorem rowDat_depth (rs : List (Int × Int)) : PyData.depthAll (rowDat rs) ≤ 1 := by
  induction rs with
  | nil => simp [rowDat, PyData.depthAll]
  | cons r rs ih =>
    simp only [rowDat, List.map_cons, PyData.depthAll, PyData.depth] at ih ⊢
    omega
theorem rowDat_eqv (rs : List (Int × Int)) : PyData.eqvAll (rowDat rs) (rowDat rs) = true := by
  induction rs with
  | nil => rfl
  | cons r rs ih => simpa [rowDat, PyData.eqvAll, PyData.eqv] using ih
theorem rowData_shaped (mt up st pd : Int) (flow ln : Bool) (size most oct : Int) (rs : List (Int × Int)) : PySem.SeqAt.shaped (rowData mt up st pd flow ln size most oct rs) = true := by
  have h := rowDat_depth rs
  simp only [PySem.SeqAt.shaped, rowData, PyData.canLay0, PyData.canLayAll0, rowDat_lay, PyData.depth, PyData.depthAll, Bool.and_true, Bool.and_self, Bool.true_and, decide_eq_true_eq]
  simp only [Nat.zero_max, Nat.max_zero]
  omega
theorem rowData_eqv (mt up st pd : Int) (flow ln : Bool) (size most oct : Int) (rs : List (Int × Int)) : PyData.eqv (rowData mt up st pd flow ln size most oct rs) (rowData mt up st pd flow ln size most oct rs) = true := by
  simp [rowData, PyData.eqv, PyData.eqvAll, rowDat_eqv]
section
variable {prog : Program} {w : World} {A : Around} {E : Value → Shared → Prop} {s : Shared} {h₀ h : Heap} {L : Addr} {news tl : List (Addr × Obj)}
theorem rows_read (N : News h₀ L h news) (hs : ∀ p ∈ tl, p ∈ news) {vs : List Value} {rs : List (Int × Int)} (RS : Rows tl vs rs) : ∃ as, ReadsAll h vs (rowDat rs) as := by
  induction RS with
  | nil => exact ⟨_, .nil⟩
  | @cons v r vs rs hv _ ih =>
    obtain ⟨as, q⟩ := ih
    cases hv with
    | mk hm => exact ⟨_, .cons (.tuple (N.get (hs _ hm)) rfl rfl (.cons (.int _ _) (.cons (.int _ _) .nil))) q⟩
theorem row_read (N : News h₀ L h news) (hs : ∀ p ∈ tl, p ∈ news) {G D c : Addr} {mt up st pd size most oct : Int} {flow ln : Bool} {p0 p1 p2 p3 t0 t1 t2 : Tok} {k1 k2 k3 : Nat} {vs : List Value} {rs : List (Int × Int)} (RS : Rows tl vs rs)
    (g1 : (G, ({ cls := .type "tuple", data := .seq #[.int mt p0, .int up p1, .int st p2, .int pd p3, .bool false, .bool flow, .bool ln, .ref D] k1 } : Obj)) ∈ news)
    (g2 : (D, ({ cls := .type "tuple", data := .seq #[.int size t0, .int most t1, .int oct t2, .ref c] k2 } : Obj)) ∈ news)
    (g3 : (c, ({ cls := .type "tuple", data := .seq vs.toArray k3 } : Obj)) ∈ news) : ∃ as, Reads h (.ref G) (rowData mt up st pd flow ln size most oct rs) as := by
  obtain ⟨as, q⟩ := rows_read N hs RS
  exact ⟨_, .tuple (N.get g1) rfl rfl (.cons (.int _ _) (.cons (.int _ _) (.cons (.int _ _) (.cons (.int _ _) (.cons (.bool _) (.cons (.bool _) (.cons (.bool _) (.cons
    (.tuple (N.get g2) rfl rfl (.cons (.int _ _) (.cons (.int _ _) (.cons (.int _ _) (.cons (.tuple (N.get g3) rfl rfl q) .nil))))) .nil))))))))⟩
theorem led_ne {Q : Value → Shared → Prop} (N : News h₀ L s.heap news) {G D c G' D' c' : Addr} {mt up st pd size most oct : Int} {flow ln : Bool} {p0 p1 p2 p3 t0 t1 t2 p0' p1' p2' p3' t0' t1' t2' : Tok} {k1 k2 k3 k1' k2' k3' : Nat} {vs vs' : List Value} {rs : List (Int × Int)}
    (g1 : (G, ({ cls := .type "tuple", data := .seq #[.int mt p0, .int up p1, .int st p2, .int pd p3, .bool false, .bool flow, .bool ln, .ref D] k1 } : Obj)) ∈ news)
    (g2 : (D, ({ cls := .type "tuple", data := .seq #[.int size t0, .int most t1, .int oct t2, .ref c] k2 } : Obj)) ∈ news)
    (g3 : (c, ({ cls := .type "tuple", data := .seq vs.toArray k3 } : Obj)) ∈ news)
    (f1 : (G', ({ cls := .type "tuple", data := .seq #[.int mt p0', .int up p1', .int st p2', .int pd p3', .bool false, .bool flow, .bool ln, .ref D'] k1' } : Obj)) ∈ news)
    (f2 : (D', ({ cls := .type "tuple", data := .seq #[.int size t0', .int most t1', .int oct t2', .ref c'] k2' } : Obj)) ∈ news)
    (f3 : (c', ({ cls := .type "tuple", data := .seq vs'.toArray k3' } : Obj)) ∈ news)
    {tl' : List (Addr × Obj)} (RS' : Rows tl' vs' rs) (RS : Rows tl vs rs) (hs' : ∀ p ∈ tl', p ∈ news) (hs : ∀ p ∈ tl, p ∈ news) (hu : A.units + 64 < cLine) (k : Q (.bool false) s) : wpAny (model prog w) A (compareOp .NotEq (.ref G) (.ref G')) Q E s := by
  obtain ⟨as, q⟩ := row_read N hs RS g1 g2 g3
  obtain ⟨bs, q'⟩ := row_read N hs' RS' f1 f2 f3
  refine ne_dataH q q' (rowData_shaped ..) (rowData_shaped ..) hu ?_
  rw [rowData_eqv]
  exact k
end

section
open PyProof.Rows.LCg PyProof.Rows.LCt
variable {prog : Program} {w : World} {A : Around} {s : Shared} {h₀ : Heap} {L : Addr} {m : Str → Option Value} {env : Env} {ct elt : PySem.Expr} {x : Str} {scope : Scope} {cl : List (Str × Addr)} {S : List (Addr × Obj) → Prop} {P : Nat → Value → Prop} {Fin : List Value → List (Addr × Obj) → Prop} {news : List (Addr × Obj)} {n : Nat}
theorem compT_ind (J : Nat → List Value → Prop) (fin : ∀ ys, J n ys → Fin ys news)
    (step : ∀ i ys v I oI C oC D m₂ h tk (E' : Value → Shared → Prop), i < n → J i ys → P i v → NsObj oC m₂ → m₂ x = some v → Fr h₀ L h m → News h₀ L h ((I, oI) :: (C, oC) :: (D, lst ys) :: news) → Off3 I C D news → ((@Ne Nat I C) ∧ (@Ne Nat I D) ∧ (@Ne Nat C D)) →
      wpAny (model prog w) A (isTrue ct (compEnvC scope cl C env) (eval ct (compEnvC scope cl C env))) (fun ok s' => if ok = true then
        wpAny (model prog w) A (eval elt (compEnvC scope cl C env)) (CompEnd h₀ L m { s with heap := h, toks := tk } I oI C oC D (lst ys) S (fun y news' => news' = news ∧ J (i + 1) (ys ++ [y]))) E' s'
        else CompEnd h₀ L m { s with heap := h, toks := tk } I oI C oC D (lst ys) S (fun _ news' => news' = news ∧ J (i + 1) ys) Value.none s') E' { s with heap := h, toks := tk }) :
    ∀ k i ys, i + k = n → J i ys → CompRestT prog w A h₀ L m env ct elt x scope cl s S P Fin k i ys news := by
  intro k
  induction k with
  | zero =>
    intro i ys e hj
    exact CompRestT.zero (fin ys ((show i = n by omega) ▸ hj))
  | succ k ih =>
    intro i ys e hj
    refine CompRestT.succ fun v I oI C oC D m₂ h tk E' hP hC hx F N off ne => ?_
    refine wpAny_mono (step i ys v I oI C oC D m₂ h tk E' (by omega) hj hP hC hx F N off ne) (fun ok s' q => ?_) fun _ _ z => z
    cases ok with
    | true =>
      simp only [if_true] at q ⊢
      refine wpAny_mono q (fun y s'' c => ?_) fun _ _ z => z
      obtain ⟨h', tk', news', e', F', N', off', hS, rfl, hj'⟩ := c
      exact ⟨h', tk', _, e', F', N', off', hS, ih (i + 1) _ (by omega) hj'⟩
    | false =>
      simp only [Bool.false_eq_true, if_false] at q ⊢
      obtain ⟨h', tk', news', e', F', N', off', hS, rfl, hj'⟩ := q
      exact ⟨h', tk', _, e', F', N', off', hS, ih (i + 1) _ (by omega) hj'⟩
theorem compU_ind (J : Nat → List Value → Prop) (fin : ∀ ys, J n ys → Fin ys news)
    (step : ∀ i ys v I oI C oC D m₂ h tk (E' : Value → Shared → Prop), i < n → J i ys → P i v → NsObj oC m₂ → m₂ x = some v → Fr h₀ L h m → News h₀ L h ((I, oI) :: (C, oC) :: (D, lst ys) :: news) → Off3 I C D news → ((@Ne Nat I C) ∧ (@Ne Nat I D) ∧ (@Ne Nat C D)) →
      wpAny (model prog w) A (eval elt (compEnvC scope cl C env)) (CompEnd h₀ L m { s with heap := h, toks := tk } I oI C oC D (lst ys) S (fun y news' => news' = news ∧ J (i + 1) (ys ++ [y]))) E' { s with heap := h, toks := tk }) :
    ∀ k i ys, i + k = n → J i ys → CompRest prog w A h₀ L m env elt x scope cl s S P Fin k i ys news := by
  intro k
  induction k with
  | zero =>
    intro i ys e hj
    exact CompRest.zero (fin ys ((show i = n by omega) ▸ hj))
  | succ k ih =>
    intro i ys e hj
    refine CompRest.succ fun v I oI C oC D m₂ h tk E' hP hC hx F N off ne => ?_
    refine wpAny_mono (step i ys v I oI C oC D m₂ h tk E' (by omega) hj hP hC hx F N off ne) (fun y s'' c => ?_) fun _ _ z => z
    obtain ⟨h', tk', news', e', F', N', off', hS, rfl, hj'⟩ := c
    exact ⟨h', tk', _, e', F', N', off', hS, ih (i + 1) _ (by omega) hj'⟩
end

local macro_rules | `(tactic| walk_at "my enter") => `(tactic| ((have hk9 : PySem.ScopeKind.function = PySem.ScopeKind.function := rfl); ktr_enter; (try clear hk9)))
local macro_rules | `(tactic| walk_at "call ref") => `(tactic| (k_here; refine wpAny_call ?_; k_dflt (walk_at "my enter")))
local macro_rules | `(tactic| walk_at "my fits") => `(tactic| first | with_reducible assumption | omega | ((simp only [List.length_append, List.length_set, List.length_cons, List.length_nil]); omega))
local macro_rules | `(tactic| walk_at "call builtin:len") => `(tactic| (k_here; (with_reducible show wpAny _ _ (call (Value.builtin "len") [Value.ref _]) _ _ _); k_dflt (refine' led_len ?k1 ?k2 ?k3 ?_; (case k1 => k_asm); (case k2 => k_mem); (case k3 => walk_at "my fits"))))
local macro_rules | `(tactic| walk_at "subscriptTail") => `(tactic| (k_here; (with_reducible show wpAny _ _ (subscriptTail _ _ (Value.ref _) (Value.int _ _)) _ _ _); k_dflt (refine' led_sub ?k1 ?k2 ?k3 ?k4 ?k5 ?k6 ?_ ?k7; (case k1 => k_asm); (case k2 => k_mem); (case k3 => with_reducible assumption); (case k4 => walk_at "my fits"); (case k5 => walk_at "my fits"); (case k6 => walk_at "my fits"); (case k7 => with_unfolding_all rfl); k_whole); intro a9 ti9 tt9 nn9 hm9 hv9))
local macro_rules | `(tactic| walk_at "setItem ref int") => `(tactic| (k_here; (with_reducible show wpAny _ _ (setItem (Value.ref _) (Value.int _ _) _) _ _ _); k_dflt (refine' led_set ?k1 ?k2 ?k3 ?k5 ?k6 ?k7 ?_; (case k1 => k_asm); (case k2 => k_asm); (case k3 => k_upd); (case k5 => walk_at "my fits"); (case k6 => walk_at "my fits"); (case k7 => walk_at "my fits"); k_whole); intro h' F' N'; (try k_sweep)))
local macro_rules | `(tactic| walk_at "call builtin:list.append") => `(tactic| (k_here; (with_reducible show wpAny _ _ (call (Value.builtin _) [Value.ref _, _]) _ _ _); k_dflt (refine' led_append ?k1 ?k2 ?k3 ?k4 ?_; (case k1 => k_asm); (case k2 => k_asm); (case k3 => k_upd); (case k4 => walk_at "my fits"); k_whole); intro h' F' N'; (try k_sweep)))
local macro_rules | `(tactic| walk_at "exec While") => `(tactic| (k_here; refine Halt.mk ?_))
local macro_rules | `(tactic| walk_at "pyIter ref") => `(tactic| (k_here; refine Halt.mk ?_))
local macro_rules | `(tactic| walk_at "my sub1") => `(tactic| first | assumption | (refine List.Mem.tail _ ?_; walk_at "my sub1"))
local macro_rules | `(tactic| walk_at "my sub") => `(tactic| (intro p9 hp9; walk_at "my sub1"))
local macro_rules | `(tactic| walk_at "my news1") => `(tactic| first | exact newsT (by k_asm) (by walk_at "my sub") | (refine newsC (by k_asm) (by k_mem) ?_; walk_at "my news1"))
local macro_rules | `(tactic| walk_at "my news") => `(tactic| ((try dsimp only [LED]); walk_at "my news1"))
local macro_rules | `(tactic| walk_at "my off") => `(tactic| (refine offCons (by assumption) (offNe ?_ ?_ ?_ ?_ ?_ ?_ ?_) <;> walk_at "my ne"))
local macro_rules | `(tactic| walk_at "my N") => `(tactic| first | k_asm | exact led_drop (by k_asm) | exact led_drop (led_drop (by k_asm)) | exact led_drop (led_drop (led_drop (by k_asm))) | exact led_new (by k_asm) | exact led_new (led_drop (by k_asm)) | exact led_new (led_drop (led_drop (by k_asm))))
local macro_rules | `(tactic| walk_at "assign Tuple") => `(tactic| (k_here; (with_reducible show wpAny _ _ (assign (Expr.Tuple _ _ _) _ (Value.ref _)) _ _ _); k_dflt (refine' unpackN_ ?k1 ?k2 ?k3 ?k4 ?k5 ?k6 ?_; (case k1 => k_asm); (case k2 => k_asm); (case k3 => exact isTup2 (by k_asm) (by k_mem)); (case k4 => exact rfl); (case k5 => exact rfl); (case k6 => exact rfl); k_whole); intro h' F' N'; (try k_sweep)))
local macro_rules | `(tactic| k_mem) => `(tactic| assumption)
local macro_rules | `(tactic| walk_at "WhilePost") => `(tactic| (dsimp only [WhilePost]))
local macro_rules | `(tactic| walk_at "my ext") => `(tactic| first | exact Ext.refl _ | exact ext_cons7 (by assumption) | exact ext_cons8 (by assumption) | exact ext_cons9 (by assumption) | assumption | exact Ext.trans (by assumption) (ext_cons7 (by assumption)) | exact Ext.trans (by assumption) (ext_cons8 (by assumption)) | exact Ext.trans (by assumption) (ext_cons9 (by assumption)))
local macro_rules | `(tactic| walk_at "call type:tuple") => `(tactic| (k_here; (with_reducible show wpAny _ _ (call (Value.type _) [Value.ref _]) _ _ _); k_dflt (refine' kde_tupleOf ?k1 ?k2 ?k3 ?k4 ?k5 ?_; (case k1 => k_asm); (case k2 => k_asm); (case k3 => exact News.isList (by k_asm) (by k_mem)); (case k4 => (simp only [List.size_toArray]; omega)); (case k5 => exact List.toList_toArray); k_whole); intro D' h' F' N' l1; (try k_lt l1); (try k_sweep)))
local macro_rules | `(tactic| walk_at "my bool") => `(tactic| first | rfl | ((try rw [Bool.eq_iff_iff]); (try simp only [Bool.or_eq_true, Bool.and_eq_true, Bool.not_eq_true', Bool.not_eq_true, decide_eq_true_eq, decide_eq_false_iff_not, bne_iff_ne, ne_eq, Bool.false_eq_true, eq_self, true_iff, iff_true, false_iff, iff_false]); omega) | (simp_all; done) | (simp_all; omega))
local macro_rules | `(tactic| walk_at "call builtin:min") => `(tactic| (k_here; (with_reducible show wpAny _ _ (call (Value.builtin "min") [Value.int _ _, Value.int _ _]) _ _ _); k_dflt (refine' min2 ?k0 ?k1 ?k2 ?_; (case k0 => exact rfl); (case k1 => k_asm); (case k2 => k_asm); k_whole); intro h' tk' t' F' N'; (try k_sweep)))
local macro_rules | `(tactic| walk_at "call builtin:max") => `(tactic| (k_here; (with_reducible show wpAny _ _ (call (Value.builtin "max") [Value.int _ _, Value.int _ _]) _ _ _); k_dflt (refine' max2 ?k0 ?k1 ?k2 ?_; (case k0 => exact rfl); (case k1 => k_asm); (case k2 => k_asm); k_whole); intro h' tk' t' F' N'; (try k_sweep)))
local macro_rules | `(tactic| walk_at "my enterS") => `(tactic| (refine' code_defS ?k1 ?k2 ?k3 ?k4 ?k5 ?XB ?TB ?D ?T0 ?kA ?k6 ?k7 ?k8 ?k9 ?kB ?_ ?cK ?c2 ?c3 ?c4 ?c5; (case kA => exact rfl); (case k2 => k_asm); (case k1 => k_asm); (case XB => assumption); (case TB => assumption); (case D => assumption); (case T0 => exact KtsTurn.refl); (case k3 => k_asm); (case k4 => k_asm); (case k5 => k_asm); (case k6 => k_is); (case k7 => k_is); (case k8 => ktr_room); (case k9 => exact BindsTo.of_eq rfl); (case kB => exact locs rfl); (case cK => first | exact rfl | assumption); (case c2 => exact rfl); (case c3 => exact rfl); (case c4 => exact rfl); (case c5 => decide); k_whole; intro g' L' h' FG' F' N' B' X' T' D'; (try dsimp only); (try k_fold)))
local macro_rules | `(tactic| walk_at "my enterC") => `(tactic| (refine' code_defC ?k1 ?k2 ?k3 ?k4 ?k5 ?kA ?kF ?kK ?k6 ?k7 ?k8 ?k9 ?kB ?kD ?_ ?c2 ?c3 ?c4; (case kA => exact rfl); (case kF => exact rfl); (case kK => first | exact rfl | assumption); (case k1 => k_asm); (case k2 => k_asm); (case k3 => k_asm); (case k4 => k_asm); (case k5 => k_asm); (case k6 => k_is); (case k7 => k_is); (case k8 => ktr_room); (case k9 => exact BindsTo.of_eq rfl); (case kB => exact rfl); (case kD => decide +kernel); (case c2 => exact rfl); (case c3 => exact rfl); (case c4 => exact rfl); k_whole; intro g' L' h' tk' cells' FG' F' N' Y' B' X' T' l1; (try k_lt l1); k_cells Y'; (try simp only [List.cons_append, List.nil_append] at N'); (try dsimp only); (try k_fold)))
local macro_rules | `(tactic| walk_at "callWith ref") => `(tactic| (k_here; (with_reducible show wpAny _ _ (callWith _ (Value.ref _) _ (backTo _ (starEach [] _)) []) _ _ _); k_dflt (refine' callWith_K0 ?k1 ?k2 ?_; (case k1 => first | (with_reducible assumption) | (refine' Frag.In.keeps ?kx (Fr.keep ?kf); (case kf => with_reducible assumption); (case kx => with_reducible assumption)) | k_in); (case k2 => k_is); k_whole)))
local macro_rules | `(tactic| walk_at "my stdn") => `(tactic| ((iterate 4 k_asm); (first | exact rfl | assumption); rotate_left; assumption; rotate_right; walk_at "my N"))
local macro_rules | `(tactic| walk_at "my stds") => `(tactic| ((iterate 4 k_asm); (first | exact rfl | assumption); (iterate 3 assumption); rotate_left; assumption; rotate_right; walk_at "my N"))
local macro_rules | `(tactic| walk_at "my end") => `(tactic| ((try dsimp only); (try ((rename News _ _ _ _ => N9); dsimp only [LED] at N9)); (try k_sweep); (try k_fold)))
local macro_rules | `(tactic| walk_at "my win") => `(tactic| ((rename Rows _ _ _ => R9); have e9 := Rows.length R9; rw [win_length] at e9))
local macro_rules | `(tactic| walk_at "my len") => `(tactic| ((rename Rows _ _ _ => R9); have e9 := Rows.length R9; simp only [List.length_append, List.length_cons, List.length_nil] at e9))
local macro_rules | `(tactic| walk_at "my allt") => `(tactic| (try ((rename AllLt _ _ => l9); simp only [AllLt] at l9)))
local macro_rules | `(tactic| walk_at "my std0") => `(tactic| ((iterate 4 k_asm); (first | exact rfl | assumption); k_asm))
local macro_rules | `(tactic| walk_at "my pick") => `(tactic| ((rename (_ : Nat) < _ ∧ _ => L9); first | exact Nat.ne_of_gt (And.left L9) | exact Nat.ne_of_lt (And.left L9) | exact Nat.ne_of_gt (And.right L9) | exact Nat.ne_of_lt (And.right L9) | (replace L9 := And.right L9; walk_at "my pick")))
local macro_rules | `(tactic| walk_at "my ne") => `(tactic| first | with_reducible assumption | with_reducible walk_at "my pick" | with_reducible walk_at "my pickn" | exact Nat.ne_of_lt (by with_reducible assumption) | exact Nat.ne_of_gt (by with_reducible assumption) | exact Ne.symm (by with_reducible assumption) | omega)
local macro_rules | `(tactic| walk_at "my pickn") => `(tactic| ((rename (@Ne Nat _ _) ∧ _ => L9); first | exact And.left L9 | exact Ne.symm (And.left L9) | exact And.right L9 | exact Ne.symm (And.right L9) | (replace L9 := And.right L9; walk_at "my pickn")))
local macro_rules | `(tactic| walk_at "my ord") => `(tactic| (refine ordSl (by assumption) ?_ ?_ ?_ ?_ ?_ ?_ <;> walk_at "my ne"))
local macro_rules | `(tactic| k_ne) => `(tactic| (refine neN ?_; (try dsimp only); walk_at "my ne"))
local macro_rules | `(tactic| k_upd) => `(tactic| first | ((first | refine upd1 ?_ ?_ | refine upd3 ?_ ?_ | refine upd4 ?_ ?_ | refine upd6 ?_ ?_) <;> with_reducible assumption) | (refine' Upd.head ?_; k_all) | (refine' Upd.tail ?_ ?_; k_ne; k_upd))
local macro_rules | `(tactic| k_updF) => `(tactic| first | ((first | refine updF0 ?_ ?_) <;> with_reducible assumption) | (refine' UpdF.head ?_; k_all) | (refine' UpdF.tail ?_ ?_; k_ne; k_updF))
local macro_rules | `(tactic| walk_at "my turn") => `(tactic| ((rename KtsTurn _ _ _ => K9); (rename Fr _ _ _ _ => F9); (rename News _ _ _ _ => N9); (rename Below _ _ _ _ => B9); (rename Frag.In _ _ => X9); (rename Top _ _ _ _ _ _ => T9); (rename KtsDicts _ _ => D9); k_dflt (replace F9 := turn_nil K9 F9); k_dflt (replace N9 := turn_nilN K9 N9); clear X9 T9 B9 D9 K9))
local macro_rules | `(tactic| walk_at "ite") => `(tactic| (k_here; k_whole; first | (refine ite_pos (by with_reducible assumption) ?_) | (refine ite_neg (by with_reducible assumption) ?_) | (refine ite_isFalse (by with_reducible assumption) ?_) | (refine ite_pos (by k_dec) ?_) | (refine ite_neg (by k_dec) ?_)))
section
variable {prog : Program} {w : World} {p : Program} {loose : List Str} {mean : ExcName → Option Value} {mg mb : Str → Option Value}
  {dp un : Nat} {gd : Option (List Code)} {cn : Str} {cs : Scope} {a : Addr} {ccd : Value} {cl : List (Str × Addr)} {outer : List Env} {A₀ : Around} {base h₀ : Heap} {L : Addr} {m : Str → Option Value} {s : Shared} {R : Result → Shared → Prop}
  (B : Below A₀ base outer h₀) (F : Fr h₀ L s.heap m) (X : (hd.heap_1 w.params).In h₀) (T : Top p loose mean mg mb h₀) (hk : cs.kind = .function)
include B F X T hk
set_option maxRecDepth 100000 in
set_option maxHeartbeats 4000000 in
theorem full_spec {rg drg rl : Addr} {news : List (Addr × Obj)} {kr : Nat → Tok} {size most start held octets : Int} {t0 t1 t2 t3 t4 : Tok} (N : News h₀ L s.heap news)
    (m1 : (rg, instObj 124 drg) ∈ news) (m2 : (drg, rgD w.params kr size most start held octets t0 t1 t2 t3 t4 rl) ∈ news)
    (hdp : dp + 1 < recursionLimit) (hun : un + 8 < cLine)
    (ret : ∀ h' tk', Fr h₀ L h' m → News h₀ L h' news →
      R (.ok (.ret (.bool (decide (size ≤ held) || (decide (most ≠ 0) && decide (most ≤ octets)))))) { s with heap := h', toks := tk' }) :
    codeAny (model prog w) (ktrTop dp un gd cn cs L a ccd cl outer) (.call (.ref 93) ⟨[.ref rg], []⟩) R s := by
  k_dflt ktr_enter
  k_steps
  all_goals exact ret_bool (ret _ _ (by k_asm) (by k_asm)) (by first | (simp_all; done) | (simp_all; omega))
end

noncomputable def freeRun (size index : Int) : Nat → List (Int × Int) → Int → Int → List (Int × Int) × Int × Int × Int
  | 0, ring, _, oc => (ring, 0, 0, oc)
  | n + 1, ring, start, oc =>
    if index < (ring.getD start.toNat (0, 0)).1 then (ring, start, (n : Int) + 1, oc)
    else freeRun size index n (ring.set start.toNat (0, 0)) (if size ≤ start + 1 then 0 else start + 1) (oc - (ring.getD start.toNat (0, 0)).2)
theorem freeRun_stop {size index start oc held : Int} {n : Nat} {ring : List (Int × Int)} (hn : held = (n : Int)) (h0 : 0 < held) (h : index < (ring.getD start.toNat (0, 0)).1) : freeRun size index n ring start oc = (ring, start, held, oc) := by
  subst hn
  cases n with
  | zero => omega
  | succ n => simp only [freeRun, if_pos h]; simp
theorem freeRun_nil {size index start oc held : Int} {n : Nat} {ring : List (Int × Int)} (hn : held = (n : Int)) (h0 : ¬ 0 < held) : freeRun size index n ring start oc = (ring, 0, held, oc) := by
  subst hn
  cases n with
  | zero => rfl
  | succ n => omega
theorem freeRun_step {size index start oc held st : Int} {n : Nat} {ring : List (Int × Int)} (hn : held = (n : Int)) (h0 : 0 < held) (h : ¬ index < (ring.getD start.toNat (0, 0)).1) (hs : st = if size ≤ start + 1 then 0 else start + 1) :
    freeRun size index (n - 1) (ring.set start.toNat (0, 0)) st (oc - (ring.getD start.toNat (0, 0)).2) = freeRun size index n ring start oc := by
  subst hs hn
  cases n with
  | zero => omega
  | succ n => simp only [freeRun, if_neg h]; simp
namespace Gfree_spec
def PP (d : D) : Prop :=
  let prog := d.prog
  let w := d.w
  let p := d.p
  let loose := d.loose
  let mean := d.mean
  let mg := d.mg
  let mb := d.mb
  let dp := d.dp
  let un := d.un
  let gd := d.gd
  let cn := d.cn
  let cs := d.cs
  let a := d.a
  let ccd := d.ccd
  let cl := d.cl
  let outer := d.outer
  let A₀ := d.A₀
  let base := d.base
  let h₀ := d.h₀
  let L := d.L
  let m := d.m
  let s := d.s
  let R := d.R
  let bk := d.bk
  let drg := d.drg
  let rg := d.rg
  let rl := d.rl
  let dpr := d.dpr
  let pr := d.pr
  let sl := d.sl
  let bo := d.bo
  let po := d.po
  let so := d.so
  let kr := d.kr
  let size := d.size
  let most := d.most
  let start := d.start
  let held := d.held
  let octets := d.octets
  let t0 := d.t0
  let t1 := d.t1
  let t2 := d.t2
  let t3 := d.t3
  let t4 := d.t4
  let rv := d.rv
  let rn := d.rn
  let ring := d.ring
  let tl := d.tl
  let index := d.index
  let ti := d.ti
  ∀ (B : Below A₀ base outer h₀) (F : Fr h₀ L s.heap m) (X : (hd.heap_1 w.params).In h₀) (T : Top p loose mean mg mb h₀) (hk : cs.kind = .function) (N : News h₀ L s.heap (LED bk drg rg rl dpr pr sl bo (rgD w.params kr size most start held octets t0 t1 t2 t3 t4 rl) (listOf rv.toArray rn) po so tl)) (ORD : ordA bk drg rg rl dpr pr sl) (OFF : OwnOff tl [bk, drg, rg, rl, dpr, pr, sl]) (RR : Rows tl rv ring) (hdp : dp + 2 < recursionLimit) (hun : un + 16 < cLine) (h3 : 0 ≤ start) (h4 : start < size) (h5 : 0 ≤ held) (h6 : size ≤ 256) (hl : (ring.length : Int) ≤ size) (hle : held ≤ size) (hP : ∀ k, 0 ≤ k → k < held → placeOf size start k < ring.length) (ret : ∀ h' tk' rv' rn' tl' t2' t3' t4' ring' start' held' octets', freeRun size index held.toNat ring start octets = (ring', start', held', octets') → Fr h₀ L h' m → News h₀ L h' (LED bk drg rg rl dpr pr sl bo (rgD w.params kr size most start' held' octets' t0 t1 t2' t3' t4' rl) (listOf rv'.toArray rn') po so tl') →
      OwnOff tl' [bk, drg, rg, rl, dpr, pr, sl] → Ext tl tl' → Rows tl' rv' ring' →
      R (.ok (.ret .none)) { s with heap := h', toks := tk' }),
    codeAny (model prog w) (ktrTop dp un gd cn cs L a ccd cl outer) (.call (.ref 86) ⟨[.ref rg, .int index ti], []⟩) R s
@[irreducible] noncomputable def g : D := Classical.epsilon (h := ⟨d0⟩) fun d => ¬ PP d
set_option maxRecDepth 100000 in
set_option maxHeartbeats 4000000 in
theorem main (B : Below g.A₀ g.base g.outer g.h₀) (F : Fr g.h₀ g.L g.s.heap g.m) (X : (hd.heap_1 g.w.params).In g.h₀) (T : Top g.p g.loose g.mean g.mg g.mb g.h₀) (hk : g.cs.kind = .function) (N : News g.h₀ g.L g.s.heap (LED g.bk g.drg g.rg g.rl g.dpr g.pr g.sl g.bo (rgD g.w.params g.kr g.size g.most g.start g.held g.octets g.t0 g.t1 g.t2 g.t3 g.t4 g.rl) (listOf g.rv.toArray g.rn) g.po g.so g.tl)) (ORD : ordA g.bk g.drg g.rg g.rl g.dpr g.pr g.sl) (OFF : OwnOff g.tl [g.bk, g.drg, g.rg, g.rl, g.dpr, g.pr, g.sl]) (RR : Rows g.tl g.rv g.ring) (hdp : g.dp + 2 < recursionLimit) (hun : g.un + 16 < cLine) (h3 : 0 ≤ g.start) (h4 : g.start < g.size) (h5 : 0 ≤ g.held) (h6 : g.size ≤ 256) (hl : (g.ring.length : Int) ≤ g.size) (hle : g.held ≤ g.size) (hP : ∀ k, 0 ≤ k → k < g.held → placeOf g.size g.start k < g.ring.length) (ret : ∀ h' tk' rv' rn' tl' t2' t3' t4' ring' start' held' octets', freeRun g.size g.index g.held.toNat g.ring g.start g.octets = (ring', start', held', octets') → Fr g.h₀ g.L h' g.m → News g.h₀ g.L h' (LED g.bk g.drg g.rg g.rl g.dpr g.pr g.sl g.bo (rgD g.w.params g.kr g.size g.most start' held' octets' g.t0 g.t1 t2' t3' t4' g.rl) (listOf rv'.toArray rn') g.po g.so tl') →
      OwnOff tl' [g.bk, g.drg, g.rg, g.rl, g.dpr, g.pr, g.sl] → Ext g.tl tl' → Rows tl' rv' ring' →
      g.R (.ok (.ret .none)) { g.s with heap := h', toks := tk' }) :
    codeAny (model g.prog g.w) (ktrTop g.dp g.un g.gd g.cn g.cs g.L g.a g.ccd g.cl g.outer) (.call (.ref 86) ⟨[.ref g.rg, .int g.index g.ti], []⟩) g.R g.s := by
  have hrl := RR.length
  dsimp only [LED] at N
  k_dflt ktr_enter
  k_steps
  refine Halt.out ?_
  rename Fr _ _ _ _ => F1
  rename News _ _ _ _ => N1
  have F2 := know (know F1 (Str.ofString "index") _ rfl) (Str.ofString "self") _ rfl
  refine While_ret (fun n m₁ news₁ => ∃ rv' rn' tl' ring' start' held' octets' t2' t3' t4', ∃ u : Str → Option Value, news₁ = LED g.bk g.drg g.rg g.rl g.dpr g.pr g.sl g.bo (rgD g.w.params g.kr g.size g.most start' held' octets' g.t0 g.t1 t2' t3' t4' g.rl) (listOf rv'.toArray rn') g.po g.so tl' ∧
      m₁ = (fun y => if y = Str.ofString "self" then some (Value.ref g.rg) else if y = Str.ofString "index" then some (Value.int g.index g.ti) else u y) ∧ OwnOff tl' [g.bk, g.drg, g.rg, g.rl, g.dpr, g.pr, g.sl] ∧ Ext g.tl tl' ∧
      Rows tl' rv' ring' ∧ ring'.length = g.ring.length ∧ 0 ≤ start' ∧ start' < g.size ∧ held' = n ∧ held' ≤ g.held ∧ (∀ k, 0 ≤ k → k < held' → placeOf g.size start' k < g.ring.length) ∧ freeRun g.size g.index n ring' start' octets' = freeRun g.size g.index g.held.toNat g.ring g.start g.octets) (n₀ := g.held.toNat) F2 N1 ?_ ?_
  · exact ⟨g.rv, g.rn, g.tl, g.ring, g.start, g.held, g.octets, _, _, _, _, rfl, rfl, OFF, Ext.refl _, RR, rfl, h3, h4, by omega, by omega, hP, rfl⟩
  · rintro n m₁ news₁ h₁ tk₁ F₁ N₁ ⟨rv', rn', tl', ring', start', held', octets', t2', t3', t4', u, rfl, rfl, o', s', r', l1, l2, l3, l4, l5, l6, l7⟩
    have l8 := r'.length
    have l9 : 0 < held' → start' < ring'.length := by
      intro q
      have := l6 0 (by omega) q
      unfold placeOf at this
      rw [if_neg (by omega)] at this
      omega
    dsimp only [LED] at N₁
    k_steps
    · rename Fr _ _ _ _ => F3
      rename News _ _ _ _ => N3
      exact ret _ _ _ _ _ _ _ _ _ _ _ _ (l7.symm.trans (freeRun_stop l4 (by omega) (by assumption))) F3 N3 o' s' r'
    · rename Fr _ _ _ _ => F3
      rename News _ _ _ _ => N3
      exact WhileStep.intro (n' := n - 1) (know (know F3 (Str.ofString "index") _ rfl) (Str.ofString "self") _ rfl) (led_pull N3) (by omega)
        ⟨_, _, _, ring'.set start'.toNat (0, 0), _, _, _, _, _, _, _, rfl, rfl, by walk_at "my off", by walk_at "my ext", (r'.mono fun p hp => .tail _ hp).set (.mk (.head _)) _, by simp [l1], by omega, by omega, by omega, by omega, fun k q1 q2 => (by have q := l6 (k + 1) (by omega) (by omega); unfold placeOf at *; split at q <;> split <;> omega),
          (freeRun_step l4 (by omega) (by assumption) (by split <;> omega)).trans l7⟩
    · rename Fr _ _ _ _ => F3
      rename News _ _ _ _ => N3
      exact WhileStep.intro (n' := n - 1) (know (know F3 (Str.ofString "index") _ rfl) (Str.ofString "self") _ rfl) (led_pull N3) (by omega)
        ⟨_, _, _, ring'.set start'.toNat (0, 0), _, _, _, _, _, _, _, rfl, rfl, by walk_at "my off", by walk_at "my ext", (r'.mono fun p hp => .tail _ hp).set (.mk (.head _)) _, by simp [l1], by omega, by omega, by omega, by omega, fun k q1 q2 => (by have q := l6 (k + 1) (by omega) (by omega); unfold placeOf at *; split at q <;> split <;> omega),
          (freeRun_step l4 (by omega) (by assumption) (by split <;> omega)).trans l7⟩
    · rename Fr _ _ _ _ => F3
      rename News _ _ _ _ => N3
      exact ret _ _ _ _ _ _ _ _ _ _ _ _ (l7.symm.trans (freeRun_nil l4 (by assumption))) F3 N3 o' s' r'
theorem all (d : D) : PP d := allOf (by with_unfolding_all exact main) d
end Gfree_spec
section
variable {prog : Program} {w : World} {p : Program} {loose : List Str} {mean : ExcName → Option Value} {mg mb : Str → Option Value}
  {dp un : Nat} {gd : Option (List Code)} {cn : Str} {cs : Scope} {a : Addr} {ccd : Value} {cl : List (Str × Addr)} {outer : List Env} {A₀ : Around} {base h₀ : Heap} {L : Addr} {m : Str → Option Value} {s : Shared} {R : Result → Shared → Prop}
  (B : Below A₀ base outer h₀) (F : Fr h₀ L s.heap m) (X : (hd.heap_1 w.params).In h₀) (T : Top p loose mean mg mb h₀) (hk : cs.kind = .function)
include B F X T hk
set_option maxRecDepth 100000 in
set_option maxHeartbeats 4000000 in
theorem free_spec {bk drg rg rl dpr pr sl : Addr} {bo po so : Obj} {kr : Nat → Tok} {size most start held octets : Int} {t0 t1 t2 t3 t4 : Tok} {rv : List Value} {rn : Nat} {ring : List (Int × Int)} {tl : List (Addr × Obj)}
    (N : News h₀ L s.heap (LED bk drg rg rl dpr pr sl bo (rgD w.params kr size most start held octets t0 t1 t2 t3 t4 rl) (listOf rv.toArray rn) po so tl))
    (ORD : ordA bk drg rg rl dpr pr sl) (OFF : OwnOff tl [bk, drg, rg, rl, dpr, pr, sl])
    (RR : Rows tl rv ring)
    (hdp : dp + 2 < recursionLimit) (hun : un + 16 < cLine)
    {index : Int} {ti : Tok}
    (h3 : 0 ≤ start) (h4 : start < size) (h5 : 0 ≤ held) (h6 : size ≤ 256) (hl : (ring.length : Int) ≤ size) (hle : held ≤ size)
    (hP : ∀ k, 0 ≤ k → k < held → placeOf size start k < ring.length)
    (ret : ∀ h' tk' rv' rn' tl' t2' t3' t4' ring' start' held' octets', freeRun size index held.toNat ring start octets = (ring', start', held', octets') → Fr h₀ L h' m → News h₀ L h' (LED bk drg rg rl dpr pr sl bo (rgD w.params kr size most start' held' octets' t0 t1 t2' t3' t4' rl) (listOf rv'.toArray rn') po so tl') →
      OwnOff tl' [bk, drg, rg, rl, dpr, pr, sl] → Ext tl tl' → Rows tl' rv' ring' →
      R (.ok (.ret .none)) { s with heap := h', toks := tk' }) :
    codeAny (model prog w) (ktrTop dp un gd cn cs L a ccd cl outer) (.call (.ref 86) ⟨[.ref rg, .int index ti], []⟩) R s :=
  Gfree_spec.all { d0 with prog := prog, w := w, p := p, loose := loose, mean := mean, mg := mg, mb := mb, dp := dp, un := un, gd := gd, cn := cn, cs := cs, a := a, ccd := ccd, cl := cl, outer := outer, A₀ := A₀, base := base, h₀ := h₀, L := L, m := m, s := s, R := R, bk := bk, drg := drg, rg := rg, rl := rl, dpr := dpr, pr := pr, sl := sl, bo := bo, po := po, so := so, kr := kr, size := size, most := most, start := start, held := held, octets := octets, t0 := t0, t1 := t1, t2 := t2, t3 := t3, t4 := t4, rv := rv, rn := rn, ring := ring, tl := tl, index := index, ti := ti } B F X T hk N ORD OFF RR hdp hun h3 h4 h5 h6 hl hle hP ret
end

namespace Grows_spec
def PP (d : D) : Prop :=
  let prog := d.prog
  let w := d.w
  let p := d.p
  let loose := d.loose
  let mean := d.mean
  let mg := d.mg
  let mb := d.mb
  let dp := d.dp
  let un := d.un
  let gd := d.gd
  let cn := d.cn
  let cs := d.cs
  let a := d.a
  let ccd := d.ccd
  let cl := d.cl
  let outer := d.outer
  let A₀ := d.A₀
  let base := d.base
  let h₀ := d.h₀
  let L := d.L
  let m := d.m
  let s := d.s
  let R := d.R
  let bk := d.bk
  let drg := d.drg
  let rg := d.rg
  let rl := d.rl
  let dpr := d.dpr
  let pr := d.pr
  let sl := d.sl
  let bo := d.bo
  let po := d.po
  let so := d.so
  let kr := d.kr
  let size := d.size
  let most := d.most
  let start := d.start
  let held := d.held
  let octets := d.octets
  let t0 := d.t0
  let t1 := d.t1
  let t2 := d.t2
  let t3 := d.t3
  let t4 := d.t4
  let rv := d.rv
  let rn := d.rn
  let ring := d.ring
  let tl := d.tl
  ∀ (B : Below A₀ base outer h₀) (F : Fr h₀ L s.heap m) (X : (hd.heap_1 w.params).In h₀) (T : Top p loose mean mg mb h₀) (hk : cs.kind = .function) (N : News h₀ L s.heap (LED bk drg rg rl dpr pr sl bo (rgD w.params kr size most start held octets t0 t1 t2 t3 t4 rl) (listOf rv.toArray rn) po so tl)) (ORD : ordA bk drg rg rl dpr pr sl) (OFF : OwnOff tl [bk, drg, rg, rl, dpr, pr, sl]) (RR : Rows tl rv ring) (hdp : dp + 2 < recursionLimit) (hun : un + 16 < cLine) (h3 : 0 ≤ start) (h4 : start < size) (h5 : 0 ≤ held) (h6 : size ≤ 256) (hl : (ring.length : Int) ≤ size) (hle : held ≤ size) (hP : ∀ k, 0 ≤ k → k < held → placeOf size start k < ring.length) (ret : ∀ h' tk' l ov on, Fr h₀ L h' m → News h₀ L h' ((l, listOf ov.toArray on) :: LED bk drg rg rl dpr pr sl bo (rgD w.params kr size most start held octets t0 t1 t2 t3 t4 rl) (listOf rv.toArray rn) po so tl) →
      AllLt l (LED bk drg rg rl dpr pr sl bo (rgD w.params kr size most start held octets t0 t1 t2 t3 t4 rl) (listOf rv.toArray rn) po so tl) → Rows tl ov (win ring size start held.toNat) →
      R (.ok (.ret (.ref l))) { s with heap := h', toks := tk' }),
    codeAny (model prog w) (ktrTop dp un gd cn cs L a ccd cl outer) (.call (.ref 114) ⟨[.ref rg], []⟩) R s
@[irreducible] noncomputable def g : D := Classical.epsilon (h := ⟨d0⟩) fun d => ¬ PP d
set_option maxRecDepth 100000 in
set_option maxHeartbeats 4000000 in
theorem main (B : Below g.A₀ g.base g.outer g.h₀) (F : Fr g.h₀ g.L g.s.heap g.m) (X : (hd.heap_1 g.w.params).In g.h₀) (T : Top g.p g.loose g.mean g.mg g.mb g.h₀) (hk : g.cs.kind = .function) (N : News g.h₀ g.L g.s.heap (LED g.bk g.drg g.rg g.rl g.dpr g.pr g.sl g.bo (rgD g.w.params g.kr g.size g.most g.start g.held g.octets g.t0 g.t1 g.t2 g.t3 g.t4 g.rl) (listOf g.rv.toArray g.rn) g.po g.so g.tl)) (ORD : ordA g.bk g.drg g.rg g.rl g.dpr g.pr g.sl) (OFF : OwnOff g.tl [g.bk, g.drg, g.rg, g.rl, g.dpr, g.pr, g.sl]) (RR : Rows g.tl g.rv g.ring) (hdp : g.dp + 2 < recursionLimit) (hun : g.un + 16 < cLine) (h3 : 0 ≤ g.start) (h4 : g.start < g.size) (h5 : 0 ≤ g.held) (h6 : g.size ≤ 256) (hl : (g.ring.length : Int) ≤ g.size) (hle : g.held ≤ g.size) (hP : ∀ k, 0 ≤ k → k < g.held → placeOf g.size g.start k < g.ring.length) (ret : ∀ h' tk' l ov on, Fr g.h₀ g.L h' g.m → News g.h₀ g.L h' ((l, listOf ov.toArray on) :: LED g.bk g.drg g.rg g.rl g.dpr g.pr g.sl g.bo (rgD g.w.params g.kr g.size g.most g.start g.held g.octets g.t0 g.t1 g.t2 g.t3 g.t4 g.rl) (listOf g.rv.toArray g.rn) g.po g.so g.tl) →
      AllLt l (LED g.bk g.drg g.rg g.rl g.dpr g.pr g.sl g.bo (rgD g.w.params g.kr g.size g.most g.start g.held g.octets g.t0 g.t1 g.t2 g.t3 g.t4 g.rl) (listOf g.rv.toArray g.rn) g.po g.so g.tl) → Rows g.tl ov (win g.ring g.size g.start g.held.toNat) →
      g.R (.ok (.ret (.ref l))) { g.s with heap := h', toks := tk' }) :
    codeAny (model g.prog g.w) (ktrTop g.dp g.un g.gd g.cn g.cs g.L g.a g.ccd g.cl g.outer) (.call (.ref 114) ⟨[.ref g.rg], []⟩) g.R g.s := by
  have hrl := RR.length
  dsimp only [LED] at N
  k_dflt ktr_enter
  k_steps
  refine Halt.out ?_
  rename Fr _ _ _ _ => F1
  rename News _ _ _ _ => N1
  rename IsRange _ _ _ _ _ _ _ _ => G1
  obtain ⟨l9, e9⟩ := name_head N1
  subst e9
  have l1 : AllLt l9 (LED g.bk g.drg g.rg g.rl g.dpr g.pr g.sl g.bo (rgD g.w.params g.kr g.size g.most g.start g.held g.octets g.t0 g.t1 g.t2 g.t3 g.t4 g.rl) (listOf g.rv.toArray g.rn) g.po g.so g.tl) := by
    simp only [LED, AllLt]
    assumption
  have hO1 := allLt_off l1 OFF
  have F2 := know (know F1 (Str.ofString "out") _ rfl) (Str.ofString "self") _ rfl
  refine range_inv (n := (g.held - 0).toNat) (fun i m₁ nx => ∃ ov on, ∃ u : Str → Option Value, nx = (l9, listOf ov.toArray on) :: LED g.bk g.drg g.rg g.rl g.dpr g.pr g.sl g.bo (rgD g.w.params g.kr g.size g.most g.start g.held g.octets g.t0 g.t1 g.t2 g.t3 g.t4 g.rl) (listOf g.rv.toArray g.rn) g.po g.so g.tl ∧
      m₁ = (fun y => if y = Str.ofString "self" then some (Value.ref g.rg) else if y = Str.ofString "out" then some (Value.ref l9) else u y) ∧ Rows g.tl ov (win g.ring g.size g.start i) ∧ ov.length = i) rfl G1 ?_ ?_ F2 N1 ?_ ?_ ?_
  · exact small_one (by omega) (by omega) (by omega) (by omega)
  · exact rangeSize_nat _ _
  · exact ⟨[], 0, _, rfl, rfl, .nil, rfl⟩
  · rintro i t m₁ nx h tk own hi hoff ⟨ov, on, u, rfl, rfl, r1, r2⟩ F₁ N₁
    dsimp only [LED] at N₁
    simp only [List.cons_append] at N₁
    have hO : OwnOff (g.tl ++ own) [l9, g.bk, g.drg, g.rg, g.rl, g.dpr, g.pr, g.sl] := own_off hO1 hoff (by intro b hb; simp only [List.mem_cons, List.not_mem_nil, or_false] at hb; simp only [LED, List.map_cons, List.mem_cons]; rcases hb with h | h | h | h | h | h | h | h <;> simp [h])
    have hP9 := hP i (by omega) (by omega)
    have q1 : g.size ≤ g.start + (i : Int) → g.start + (i : Int) - g.size < g.ring.length := fun q => by simpa [placeOf, q] using hP9
    have q2 : ¬ g.size ≤ g.start + (i : Int) → g.start + (i : Int) < g.ring.length := fun q => by simpa [placeOf, q] using hP9
    k_steps
    all_goals (
      rename Fr _ _ _ _ => F3
      rename News _ _ _ _ => N3
      refine InvEndG.intro (know (know F3 (Str.ofString "out") _ rfl) (Str.ofString "self") _ rfl) N3 ⟨_, _, _, rfl, rfl, ?_, by simp [r2]⟩ (by exact hoff) led_own1 led_ownR1
      rw [win_succ]
      refine r1.append (.cons ?_ .nil)
      first
      | rw [show placeOf g.size g.start (i : Int) = g.start + (i : Int) - g.size from if_pos (by omega)]
      | rw [show placeOf g.size g.start (i : Int) = g.start + (i : Int) from if_neg (by omega)]
      simp only [Int.zero_add] at *
      exact Row.mk (by assumption))
  · rintro m₁ nx h tk ⟨ov, on, u, rfl, rfl, r1, r2⟩ F₁ N₁
    dsimp only [LED] at N₁
    k_steps
    rename Fr _ _ _ _ => F3
    rename News _ _ _ _ => N3
    exact ret _ _ _ _ _ F3 N3 l1 (by simpa using r1)
theorem all (d : D) : PP d := allOf (by with_unfolding_all exact main) d
end Grows_spec
section
variable {prog : Program} {w : World} {p : Program} {loose : List Str} {mean : ExcName → Option Value} {mg mb : Str → Option Value}
  {dp un : Nat} {gd : Option (List Code)} {cn : Str} {cs : Scope} {a : Addr} {ccd : Value} {cl : List (Str × Addr)} {outer : List Env} {A₀ : Around} {base h₀ : Heap} {L : Addr} {m : Str → Option Value} {s : Shared} {R : Result → Shared → Prop}
  (B : Below A₀ base outer h₀) (F : Fr h₀ L s.heap m) (X : (hd.heap_1 w.params).In h₀) (T : Top p loose mean mg mb h₀) (hk : cs.kind = .function)
include B F X T hk
set_option maxRecDepth 100000 in
set_option maxHeartbeats 4000000 in
theorem rows_spec {bk drg rg rl dpr pr sl : Addr} {bo po so : Obj} {kr : Nat → Tok} {size most start held octets : Int} {t0 t1 t2 t3 t4 : Tok} {rv : List Value} {rn : Nat} {ring : List (Int × Int)} {tl : List (Addr × Obj)}
    (N : News h₀ L s.heap (LED bk drg rg rl dpr pr sl bo (rgD w.params kr size most start held octets t0 t1 t2 t3 t4 rl) (listOf rv.toArray rn) po so tl))
    (ORD : ordA bk drg rg rl dpr pr sl) (OFF : OwnOff tl [bk, drg, rg, rl, dpr, pr, sl])
    (RR : Rows tl rv ring)
    (hdp : dp + 2 < recursionLimit) (hun : un + 16 < cLine)
    (h3 : 0 ≤ start) (h4 : start < size) (h5 : 0 ≤ held) (h6 : size ≤ 256) (hl : (ring.length : Int) ≤ size) (hle : held ≤ size)
    (hP : ∀ k, 0 ≤ k → k < held → placeOf size start k < ring.length)
    (ret : ∀ h' tk' l ov on, Fr h₀ L h' m → News h₀ L h' ((l, listOf ov.toArray on) :: LED bk drg rg rl dpr pr sl bo (rgD w.params kr size most start held octets t0 t1 t2 t3 t4 rl) (listOf rv.toArray rn) po so tl) →
      AllLt l (LED bk drg rg rl dpr pr sl bo (rgD w.params kr size most start held octets t0 t1 t2 t3 t4 rl) (listOf rv.toArray rn) po so tl) → Rows tl ov (win ring size start held.toNat) →
      R (.ok (.ret (.ref l))) { s with heap := h', toks := tk' }) :
    codeAny (model prog w) (ktrTop dp un gd cn cs L a ccd cl outer) (.call (.ref 114) ⟨[.ref rg], []⟩) R s :=
  Grows_spec.all { d0 with prog := prog, w := w, p := p, loose := loose, mean := mean, mg := mg, mb := mb, dp := dp, un := un, gd := gd, cn := cn, cs := cs, a := a, ccd := ccd, cl := cl, outer := outer, A₀ := A₀, base := base, h₀ := h₀, L := L, m := m, s := s, R := R, bk := bk, drg := drg, rg := rg, rl := rl, dpr := dpr, pr := pr, sl := sl, bo := bo, po := po, so := so, kr := kr, size := size, most := most, start := start, held := held, octets := octets, t0 := t0, t1 := t1, t2 := t2, t3 := t3, t4 := t4, rv := rv, rn := rn, ring := ring, tl := tl } B F X T hk N ORD OFF RR hdp hun h3 h4 h5 h6 hl hle hP ret
end

namespace Greplicate_spec
def PP (d : D) : Prop :=
  let prog := d.prog
  let w := d.w
  let p := d.p
  let loose := d.loose
  let mean := d.mean
  let mg := d.mg
  let mb := d.mb
  let dp := d.dp
  let un := d.un
  let gd := d.gd
  let cn := d.cn
  let cs := d.cs
  let a := d.a
  let ccd := d.ccd
  let cl := d.cl
  let outer := d.outer
  let A₀ := d.A₀
  let base := d.base
  let h₀ := d.h₀
  let L := d.L
  let m := d.m
  let s := d.s
  let R := d.R
  let bk := d.bk
  let drg := d.drg
  let rg := d.rg
  let rl := d.rl
  let dpr := d.dpr
  let pr := d.pr
  let sl := d.sl
  let bo := d.bo
  let lo := d.lo
  let so := d.so
  let kr := d.kr
  let kp := d.kp
  let size := d.size
  let most := d.most
  let start := d.start
  let held := d.held
  let oct := d.oct
  let mt := d.mt
  let up := d.up
  let st := d.st
  let pd := d.pd
  let flow := d.flow
  let ln := d.ln
  let t0 := d.t0
  let t1 := d.t1
  let t2 := d.t2
  let t3 := d.t3
  let t4 := d.t4
  let p0 := d.p0
  let p1 := d.p1
  let p2 := d.p2
  let p3 := d.p3
  let tl := d.tl
  ∀ (B : Below A₀ base outer h₀) (F : Fr h₀ L s.heap m) (X : (hd.heap_1 w.params).In h₀) (T : Top p loose mean mg mb h₀) (hk : cs.kind = .function) (N : News h₀ L s.heap (LED bk drg rg rl dpr pr sl bo (rgD w.params kr size most start held oct t0 t1 t2 t3 t4 rl) lo (prD w.params kp mt up st pd flow p0 p1 p2 p3 rg ln) so tl)) (ORD : ordA bk drg rg rl dpr pr sl) (OFF : OwnOff tl [bk, drg, rg, rl, dpr, pr, sl]) (hdp : dp + 4 < recursionLimit) (hun : un + 32 < cLine) (ret : ∀ h' tk' t2' t3' t4' p1' p2' p3', Fr h₀ L h' m → News h₀ L h' (LED bk drg rg rl dpr pr sl bo (rgD w.params kr size most 0 0 0 t0 t1 t2' t3' t4' rl) lo (prD w.params kp mt (mt + 1) 1 0 false p0 p1' p2' p3' rg ln) so tl) →
      R (.ok (.ret .none)) { s with heap := h', toks := tk' }),
    codeAny (model prog w) (ktrTop dp un gd cn cs L a ccd cl outer) (.call (.ref 163) ⟨[.ref pr], []⟩) R s
@[irreducible] noncomputable def g : D := Classical.epsilon (h := ⟨d0⟩) fun d => ¬ PP d
set_option maxRecDepth 100000 in
set_option maxHeartbeats 4000000 in
theorem main (B : Below g.A₀ g.base g.outer g.h₀) (F : Fr g.h₀ g.L g.s.heap g.m) (X : (hd.heap_1 g.w.params).In g.h₀) (T : Top g.p g.loose g.mean g.mg g.mb g.h₀) (hk : g.cs.kind = .function) (N : News g.h₀ g.L g.s.heap (LED g.bk g.drg g.rg g.rl g.dpr g.pr g.sl g.bo (rgD g.w.params g.kr g.size g.most g.start g.held g.oct g.t0 g.t1 g.t2 g.t3 g.t4 g.rl) g.lo (prD g.w.params g.kp g.mt g.up g.st g.pd g.flow g.p0 g.p1 g.p2 g.p3 g.rg g.ln) g.so g.tl)) (ORD : ordA g.bk g.drg g.rg g.rl g.dpr g.pr g.sl) (OFF : OwnOff g.tl [g.bk, g.drg, g.rg, g.rl, g.dpr, g.pr, g.sl]) (hdp : g.dp + 4 < recursionLimit) (hun : g.un + 32 < cLine) (ret : ∀ h' tk' t2' t3' t4' p1' p2' p3', Fr g.h₀ g.L h' g.m → News g.h₀ g.L h' (LED g.bk g.drg g.rg g.rl g.dpr g.pr g.sl g.bo (rgD g.w.params g.kr g.size g.most 0 0 0 g.t0 g.t1 t2' t3' t4' g.rl) g.lo (prD g.w.params g.kp g.mt (g.mt + 1) 1 0 false g.p0 p1' p2' p3' g.rg g.ln) g.so g.tl) →
      g.R (.ok (.ret .none)) { g.s with heap := h', toks := tk' }) :
    codeAny (model g.prog g.w) (ktrTop g.dp g.un g.gd g.cn g.cs g.L g.a g.ccd g.cl g.outer) (.call (.ref 163) ⟨[.ref g.pr], []⟩) g.R g.s := by
  dsimp only [LED] at N
  k_dflt ktr_enter
  k_steps
  all_goals (
    rename Fr _ _ _ _ => F3
    rename News _ _ _ _ => N3
    skip
    exact ret _ _ _ _ _ _ _ _ F3 N3)
theorem all (d : D) : PP d := allOf (by with_unfolding_all exact main) d
end Greplicate_spec
section
variable {prog : Program} {w : World} {p : Program} {loose : List Str} {mean : ExcName → Option Value} {mg mb : Str → Option Value}
  {dp un : Nat} {gd : Option (List Code)} {cn : Str} {cs : Scope} {a : Addr} {ccd : Value} {cl : List (Str × Addr)} {outer : List Env} {A₀ : Around} {base h₀ : Heap} {L : Addr} {m : Str → Option Value} {s : Shared} {R : Result → Shared → Prop}
  (B : Below A₀ base outer h₀) (F : Fr h₀ L s.heap m) (X : (hd.heap_1 w.params).In h₀) (T : Top p loose mean mg mb h₀) (hk : cs.kind = .function)
include B F X T hk
set_option maxRecDepth 100000 in
set_option maxHeartbeats 4000000 in
theorem replicate_spec {bk drg rg rl dpr pr sl : Addr} {bo lo so : Obj} {kr kp : Nat → Tok} {size most start held oct mt up st pd : Int} {flow ln : Bool} {t0 t1 t2 t3 t4 p0 p1 p2 p3 : Tok} {tl : List (Addr × Obj)}
    (N : News h₀ L s.heap (LED bk drg rg rl dpr pr sl bo (rgD w.params kr size most start held oct t0 t1 t2 t3 t4 rl) lo (prD w.params kp mt up st pd flow p0 p1 p2 p3 rg ln) so tl))
    (ORD : ordA bk drg rg rl dpr pr sl) (OFF : OwnOff tl [bk, drg, rg, rl, dpr, pr, sl])
    (hdp : dp + 4 < recursionLimit) (hun : un + 32 < cLine)
    (ret : ∀ h' tk' t2' t3' t4' p1' p2' p3', Fr h₀ L h' m → News h₀ L h' (LED bk drg rg rl dpr pr sl bo (rgD w.params kr size most 0 0 0 t0 t1 t2' t3' t4' rl) lo (prD w.params kp mt (mt + 1) 1 0 false p0 p1' p2' p3' rg ln) so tl) →
      R (.ok (.ret .none)) { s with heap := h', toks := tk' }) :
    codeAny (model prog w) (ktrTop dp un gd cn cs L a ccd cl outer) (.call (.ref 163) ⟨[.ref pr], []⟩) R s :=
  Greplicate_spec.all { d0 with prog := prog, w := w, p := p, loose := loose, mean := mean, mg := mg, mb := mb, dp := dp, un := un, gd := gd, cn := cn, cs := cs, a := a, ccd := ccd, cl := cl, outer := outer, A₀ := A₀, base := base, h₀ := h₀, L := L, m := m, s := s, R := R, bk := bk, drg := drg, rg := rg, rl := rl, dpr := dpr, pr := pr, sl := sl, bo := bo, lo := lo, so := so, kr := kr, kp := kp, size := size, most := most, start := start, held := held, oct := oct, mt := mt, up := up, st := st, pd := pd, flow := flow, ln := ln, t0 := t0, t1 := t1, t2 := t2, t3 := t3, t4 := t4, p0 := p0, p1 := p1, p2 := p2, p3 := p3, tl := tl } B F X T hk N ORD OFF hdp hun ret
end
namespace Gprobe1_spec
def PP (d : D) : Prop :=
  let prog := d.prog
  let w := d.w
  let p := d.p
  let loose := d.loose
  let mean := d.mean
  let mg := d.mg
  let mb := d.mb
  let dp := d.dp
  let un := d.un
  let gd := d.gd
  let cn := d.cn
  let cs := d.cs
  let a := d.a
  let ccd := d.ccd
  let cl := d.cl
  let outer := d.outer
  let A₀ := d.A₀
  let base := d.base
  let h₀ := d.h₀
  let L := d.L
  let m := d.m
  let s := d.s
  let R := d.R
  let bk := d.bk
  let drg := d.drg
  let rg := d.rg
  let rl := d.rl
  let dpr := d.dpr
  let pr := d.pr
  let sl := d.sl
  let bo := d.bo
  let lo := d.lo
  let so := d.so
  let kr := d.kr
  let kp := d.kp
  let size := d.size
  let most := d.most
  let start := d.start
  let held := d.held
  let oct := d.oct
  let mt := d.mt
  let up := d.up
  let pd := d.pd
  let flow := d.flow
  let ln := d.ln
  let t0 := d.t0
  let t1 := d.t1
  let t2 := d.t2
  let t3 := d.t3
  let t4 := d.t4
  let p0 := d.p0
  let p1 := d.p1
  let p2 := d.p2
  let p3 := d.p3
  let tl := d.tl
  ∀ (B : Below A₀ base outer h₀) (F : Fr h₀ L s.heap m) (X : (hd.heap_1 w.params).In h₀) (T : Top p loose mean mg mb h₀) (hk : cs.kind = .function) (N : News h₀ L s.heap (LED bk drg rg rl dpr pr sl bo (rgD w.params kr size most start held oct t0 t1 t2 t3 t4 rl) lo (prD w.params kp mt up 1 pd flow p0 p1 p2 p3 rg ln) so tl)) (ORD : ordA bk drg rg rl dpr pr sl) (OFF : OwnOff tl [bk, drg, rg, rl, dpr, pr, sl]) (hdp : dp + 4 < recursionLimit) (hun : un + 32 < cLine) (ret : ∀ h' tk' t2' t3' t4' p1' p2' p3', Fr h₀ L h' m → News h₀ L h' (LED bk drg rg rl dpr pr sl bo (rgD w.params kr size most 0 0 0 t0 t1 t2' t3' t4' rl) lo (prD w.params kp mt (mt + 1) 0 0 false p0 p1' p2' p3' rg ln) so tl) →
      R (.ok (.ret .none)) { s with heap := h', toks := tk' }),
    codeAny (model prog w) (ktrTop dp un gd cn cs L a ccd cl outer) (.call (.ref 156) ⟨[.ref pr], []⟩) R s
@[irreducible] noncomputable def g : D := Classical.epsilon (h := ⟨d0⟩) fun d => ¬ PP d
set_option maxRecDepth 100000 in
set_option maxHeartbeats 4000000 in
theorem main (B : Below g.A₀ g.base g.outer g.h₀) (F : Fr g.h₀ g.L g.s.heap g.m) (X : (hd.heap_1 g.w.params).In g.h₀) (T : Top g.p g.loose g.mean g.mg g.mb g.h₀) (hk : g.cs.kind = .function) (N : News g.h₀ g.L g.s.heap (LED g.bk g.drg g.rg g.rl g.dpr g.pr g.sl g.bo (rgD g.w.params g.kr g.size g.most g.start g.held g.oct g.t0 g.t1 g.t2 g.t3 g.t4 g.rl) g.lo (prD g.w.params g.kp g.mt g.up 1 g.pd g.flow g.p0 g.p1 g.p2 g.p3 g.rg g.ln) g.so g.tl)) (ORD : ordA g.bk g.drg g.rg g.rl g.dpr g.pr g.sl) (OFF : OwnOff g.tl [g.bk, g.drg, g.rg, g.rl, g.dpr, g.pr, g.sl]) (hdp : g.dp + 4 < recursionLimit) (hun : g.un + 32 < cLine) (ret : ∀ h' tk' t2' t3' t4' p1' p2' p3', Fr g.h₀ g.L h' g.m → News g.h₀ g.L h' (LED g.bk g.drg g.rg g.rl g.dpr g.pr g.sl g.bo (rgD g.w.params g.kr g.size g.most 0 0 0 g.t0 g.t1 t2' t3' t4' g.rl) g.lo (prD g.w.params g.kp g.mt (g.mt + 1) 0 0 false g.p0 p1' p2' p3' g.rg g.ln) g.so g.tl) →
      g.R (.ok (.ret .none)) { g.s with heap := h', toks := tk' }) :
    codeAny (model g.prog g.w) (ktrTop g.dp g.un g.gd g.cn g.cs g.L g.a g.ccd g.cl g.outer) (.call (.ref 156) ⟨[.ref g.pr], []⟩) g.R g.s := by
  dsimp only [LED] at N
  k_dflt ktr_enter
  k_steps
  all_goals (
    rename Fr _ _ _ _ => F3
    rename News _ _ _ _ => N3
    skip
    exact ret _ _ _ _ _ _ _ _ F3 N3)
theorem all (d : D) : PP d := allOf (by with_unfolding_all exact main) d
end Gprobe1_spec
section
variable {prog : Program} {w : World} {p : Program} {loose : List Str} {mean : ExcName → Option Value} {mg mb : Str → Option Value}
  {dp un : Nat} {gd : Option (List Code)} {cn : Str} {cs : Scope} {a : Addr} {ccd : Value} {cl : List (Str × Addr)} {outer : List Env} {A₀ : Around} {base h₀ : Heap} {L : Addr} {m : Str → Option Value} {s : Shared} {R : Result → Shared → Prop}
  (B : Below A₀ base outer h₀) (F : Fr h₀ L s.heap m) (X : (hd.heap_1 w.params).In h₀) (T : Top p loose mean mg mb h₀) (hk : cs.kind = .function)
include B F X T hk
set_option maxRecDepth 100000 in
set_option maxHeartbeats 4000000 in
theorem probe1_spec {bk drg rg rl dpr pr sl : Addr} {bo lo so : Obj} {kr kp : Nat → Tok} {size most start held oct mt up pd : Int} {flow ln : Bool} {t0 t1 t2 t3 t4 p0 p1 p2 p3 : Tok} {tl : List (Addr × Obj)}
    (N : News h₀ L s.heap (LED bk drg rg rl dpr pr sl bo (rgD w.params kr size most start held oct t0 t1 t2 t3 t4 rl) lo (prD w.params kp mt up 1 pd flow p0 p1 p2 p3 rg ln) so tl))
    (ORD : ordA bk drg rg rl dpr pr sl) (OFF : OwnOff tl [bk, drg, rg, rl, dpr, pr, sl])
    (hdp : dp + 4 < recursionLimit) (hun : un + 32 < cLine)
    (ret : ∀ h' tk' t2' t3' t4' p1' p2' p3', Fr h₀ L h' m → News h₀ L h' (LED bk drg rg rl dpr pr sl bo (rgD w.params kr size most 0 0 0 t0 t1 t2' t3' t4' rl) lo (prD w.params kp mt (mt + 1) 0 0 false p0 p1' p2' p3' rg ln) so tl) →
      R (.ok (.ret .none)) { s with heap := h', toks := tk' }) :
    codeAny (model prog w) (ktrTop dp un gd cn cs L a ccd cl outer) (.call (.ref 156) ⟨[.ref pr], []⟩) R s :=
  Gprobe1_spec.all { d0 with prog := prog, w := w, p := p, loose := loose, mean := mean, mg := mg, mb := mb, dp := dp, un := un, gd := gd, cn := cn, cs := cs, a := a, ccd := ccd, cl := cl, outer := outer, A₀ := A₀, base := base, h₀ := h₀, L := L, m := m, s := s, R := R, bk := bk, drg := drg, rg := rg, rl := rl, dpr := dpr, pr := pr, sl := sl, bo := bo, lo := lo, so := so, kr := kr, kp := kp, size := size, most := most, start := start, held := held, oct := oct, mt := mt, up := up, pd := pd, flow := flow, ln := ln, t0 := t0, t1 := t1, t2 := t2, t3 := t3, t4 := t4, p0 := p0, p1 := p1, p2 := p2, p3 := p3, tl := tl } B F X T hk N ORD OFF hdp hun ret
end
namespace Gprobe2_spec
def PP (d : D) : Prop :=
  let prog := d.prog
  let w := d.w
  let p := d.p
  let loose := d.loose
  let mean := d.mean
  let mg := d.mg
  let mb := d.mb
  let dp := d.dp
  let un := d.un
  let gd := d.gd
  let cn := d.cn
  let cs := d.cs
  let a := d.a
  let ccd := d.ccd
  let cl := d.cl
  let outer := d.outer
  let A₀ := d.A₀
  let base := d.base
  let h₀ := d.h₀
  let L := d.L
  let m := d.m
  let s := d.s
  let R := d.R
  let bk := d.bk
  let drg := d.drg
  let rg := d.rg
  let rl := d.rl
  let dpr := d.dpr
  let pr := d.pr
  let sl := d.sl
  let bo := d.bo
  let lo := d.lo
  let so := d.so
  let kr := d.kr
  let kp := d.kp
  let size := d.size
  let most := d.most
  let start := d.start
  let held := d.held
  let oct := d.oct
  let mt := d.mt
  let up := d.up
  let pd := d.pd
  let flow := d.flow
  let ln := d.ln
  let t0 := d.t0
  let t1 := d.t1
  let t2 := d.t2
  let t3 := d.t3
  let t4 := d.t4
  let p0 := d.p0
  let p1 := d.p1
  let p2 := d.p2
  let p3 := d.p3
  let tl := d.tl
  ∀ (B : Below A₀ base outer h₀) (F : Fr h₀ L s.heap m) (X : (hd.heap_1 w.params).In h₀) (T : Top p loose mean mg mb h₀) (hk : cs.kind = .function) (N : News h₀ L s.heap (LED bk drg rg rl dpr pr sl bo (rgD w.params kr size most start held oct t0 t1 t2 t3 t4 rl) lo (prD w.params kp mt up 2 pd flow p0 p1 p2 p3 rg ln) so tl)) (ORD : ordA bk drg rg rl dpr pr sl) (OFF : OwnOff tl [bk, drg, rg, rl, dpr, pr, sl]) (hdp : dp + 4 < recursionLimit) (hun : un + 32 < cLine) (hmp : mt ≤ pd) (ret : ∀ h' tk' t2' t3' t4' p1' p2' p3', Fr h₀ L h' m → News h₀ L h' (LED bk drg rg rl dpr pr sl bo (rgD w.params kr size most 0 0 0 t0 t1 t2' t3' t4' rl) lo (prD w.params kp mt (pd + 1) 0 0 false p0 p1' p2' p3' rg ln) so tl) →
      R (.ok (.ret .none)) { s with heap := h', toks := tk' }),
    codeAny (model prog w) (ktrTop dp un gd cn cs L a ccd cl outer) (.call (.ref 156) ⟨[.ref pr], []⟩) R s
@[irreducible] noncomputable def g : D := Classical.epsilon (h := ⟨d0⟩) fun d => ¬ PP d
set_option maxRecDepth 100000 in
set_option maxHeartbeats 4000000 in
theorem main (B : Below g.A₀ g.base g.outer g.h₀) (F : Fr g.h₀ g.L g.s.heap g.m) (X : (hd.heap_1 g.w.params).In g.h₀) (T : Top g.p g.loose g.mean g.mg g.mb g.h₀) (hk : g.cs.kind = .function) (N : News g.h₀ g.L g.s.heap (LED g.bk g.drg g.rg g.rl g.dpr g.pr g.sl g.bo (rgD g.w.params g.kr g.size g.most g.start g.held g.oct g.t0 g.t1 g.t2 g.t3 g.t4 g.rl) g.lo (prD g.w.params g.kp g.mt g.up 2 g.pd g.flow g.p0 g.p1 g.p2 g.p3 g.rg g.ln) g.so g.tl)) (ORD : ordA g.bk g.drg g.rg g.rl g.dpr g.pr g.sl) (OFF : OwnOff g.tl [g.bk, g.drg, g.rg, g.rl, g.dpr, g.pr, g.sl]) (hdp : g.dp + 4 < recursionLimit) (hun : g.un + 32 < cLine) (hmp : g.mt ≤ g.pd) (ret : ∀ h' tk' t2' t3' t4' p1' p2' p3', Fr g.h₀ g.L h' g.m → News g.h₀ g.L h' (LED g.bk g.drg g.rg g.rl g.dpr g.pr g.sl g.bo (rgD g.w.params g.kr g.size g.most 0 0 0 g.t0 g.t1 t2' t3' t4' g.rl) g.lo (prD g.w.params g.kp g.mt (g.pd + 1) 0 0 false g.p0 p1' p2' p3' g.rg g.ln) g.so g.tl) →
      g.R (.ok (.ret .none)) { g.s with heap := h', toks := tk' }) :
    codeAny (model g.prog g.w) (ktrTop g.dp g.un g.gd g.cn g.cs g.L g.a g.ccd g.cl g.outer) (.call (.ref 156) ⟨[.ref g.pr], []⟩) g.R g.s := by
  dsimp only [LED] at N
  k_dflt ktr_enter
  k_steps
  all_goals (
    rename Fr _ _ _ _ => F3
    rename News _ _ _ _ => N3
    rw [show max (g.mt + 1) (g.pd + 1) = g.pd + 1 by omega] at N3
    exact ret _ _ _ _ _ _ _ _ F3 N3)
theorem all (d : D) : PP d := allOf (by with_unfolding_all exact main) d
end Gprobe2_spec
section
variable {prog : Program} {w : World} {p : Program} {loose : List Str} {mean : ExcName → Option Value} {mg mb : Str → Option Value}
  {dp un : Nat} {gd : Option (List Code)} {cn : Str} {cs : Scope} {a : Addr} {ccd : Value} {cl : List (Str × Addr)} {outer : List Env} {A₀ : Around} {base h₀ : Heap} {L : Addr} {m : Str → Option Value} {s : Shared} {R : Result → Shared → Prop}
  (B : Below A₀ base outer h₀) (F : Fr h₀ L s.heap m) (X : (hd.heap_1 w.params).In h₀) (T : Top p loose mean mg mb h₀) (hk : cs.kind = .function)
include B F X T hk
set_option maxRecDepth 100000 in
set_option maxHeartbeats 4000000 in
theorem probe2_spec {bk drg rg rl dpr pr sl : Addr} {bo lo so : Obj} {kr kp : Nat → Tok} {size most start held oct mt up pd : Int} {flow ln : Bool} {t0 t1 t2 t3 t4 p0 p1 p2 p3 : Tok} {tl : List (Addr × Obj)}
    (N : News h₀ L s.heap (LED bk drg rg rl dpr pr sl bo (rgD w.params kr size most start held oct t0 t1 t2 t3 t4 rl) lo (prD w.params kp mt up 2 pd flow p0 p1 p2 p3 rg ln) so tl))
    (ORD : ordA bk drg rg rl dpr pr sl) (OFF : OwnOff tl [bk, drg, rg, rl, dpr, pr, sl])
    (hdp : dp + 4 < recursionLimit) (hun : un + 32 < cLine) (hmp : mt ≤ pd)
    (ret : ∀ h' tk' t2' t3' t4' p1' p2' p3', Fr h₀ L h' m → News h₀ L h' (LED bk drg rg rl dpr pr sl bo (rgD w.params kr size most 0 0 0 t0 t1 t2' t3' t4' rl) lo (prD w.params kp mt (pd + 1) 0 0 false p0 p1' p2' p3' rg ln) so tl) →
      R (.ok (.ret .none)) { s with heap := h', toks := tk' }) :
    codeAny (model prog w) (ktrTop dp un gd cn cs L a ccd cl outer) (.call (.ref 156) ⟨[.ref pr], []⟩) R s :=
  Gprobe2_spec.all { d0 with prog := prog, w := w, p := p, loose := loose, mean := mean, mg := mg, mb := mb, dp := dp, un := un, gd := gd, cn := cn, cs := cs, a := a, ccd := ccd, cl := cl, outer := outer, A₀ := A₀, base := base, h₀ := h₀, L := L, m := m, s := s, R := R, bk := bk, drg := drg, rg := rg, rl := rl, dpr := dpr, pr := pr, sl := sl, bo := bo, lo := lo, so := so, kr := kr, kp := kp, size := size, most := most, start := start, held := held, oct := oct, mt := mt, up := up, pd := pd, flow := flow, ln := ln, t0 := t0, t1 := t1, t2 := t2, t3 := t3, t4 := t4, p0 := p0, p1 := p1, p2 := p2, p3 := p3, tl := tl } B F X T hk N ORD OFF hdp hun hmp ret
end
namespace Gsnap_spec
def PP (d : D) : Prop :=
  let prog := d.prog
  let w := d.w
  let p := d.p
  let loose := d.loose
  let mean := d.mean
  let mg := d.mg
  let mb := d.mb
  let dp := d.dp
  let un := d.un
  let gd := d.gd
  let cn := d.cn
  let cs := d.cs
  let a := d.a
  let ccd := d.ccd
  let cl := d.cl
  let outer := d.outer
  let A₀ := d.A₀
  let base := d.base
  let h₀ := d.h₀
  let L := d.L
  let m := d.m
  let s := d.s
  let R := d.R
  let bk := d.bk
  let drg := d.drg
  let rg := d.rg
  let rl := d.rl
  let dpr := d.dpr
  let pr := d.pr
  let sl := d.sl
  let bo := d.bo
  let lo := d.lo
  let so := d.so
  let kr := d.kr
  let kp := d.kp
  let size := d.size
  let most := d.most
  let start := d.start
  let held := d.held
  let oct := d.oct
  let mt := d.mt
  let up := d.up
  let pd := d.pd
  let flow := d.flow
  let ln := d.ln
  let t0 := d.t0
  let t1 := d.t1
  let t2 := d.t2
  let t3 := d.t3
  let t4 := d.t4
  let p0 := d.p0
  let p1 := d.p1
  let p2 := d.p2
  let p3 := d.p3
  let tl := d.tl
  let index := d.index
  let ui := d.ui
  ∀ (B : Below A₀ base outer h₀) (F : Fr h₀ L s.heap m) (X : (hd.heap_1 w.params).In h₀) (T : Top p loose mean mg mb h₀) (hk : cs.kind = .function) (N : News h₀ L s.heap (LED bk drg rg rl dpr pr sl bo (rgD w.params kr size most start held oct t0 t1 t2 t3 t4 rl) lo (prD w.params kp mt up 1 pd flow p0 p1 p2 p3 rg ln) so tl)) (ORD : ordA bk drg rg rl dpr pr sl) (OFF : OwnOff tl [bk, drg, rg, rl, dpr, pr, sl]) (hdp : dp + 4 < recursionLimit) (hun : un + 32 < cLine) (ret : ∀ h' tk' t2' t3' t4' p1' p2' p3', Fr h₀ L h' m → News h₀ L h' (LED bk drg rg rl dpr pr sl bo (rgD w.params kr size most 0 0 0 t0 t1 t2' t3' t4' rl) lo (prD w.params kp mt up 2 index false p0 p1' p2' p3' rg ln) so tl) →
      R (.ok (.ret .none)) { s with heap := h', toks := tk' }),
    codeAny (model prog w) (ktrTop dp un gd cn cs L a ccd cl outer) (.call (.ref 170) ⟨[.ref pr, .int index ui], []⟩) R s
@[irreducible] noncomputable def g : D := Classical.epsilon (h := ⟨d0⟩) fun d => ¬ PP d
set_option maxRecDepth 100000 in
set_option maxHeartbeats 4000000 in
theorem main (B : Below g.A₀ g.base g.outer g.h₀) (F : Fr g.h₀ g.L g.s.heap g.m) (X : (hd.heap_1 g.w.params).In g.h₀) (T : Top g.p g.loose g.mean g.mg g.mb g.h₀) (hk : g.cs.kind = .function) (N : News g.h₀ g.L g.s.heap (LED g.bk g.drg g.rg g.rl g.dpr g.pr g.sl g.bo (rgD g.w.params g.kr g.size g.most g.start g.held g.oct g.t0 g.t1 g.t2 g.t3 g.t4 g.rl) g.lo (prD g.w.params g.kp g.mt g.up 1 g.pd g.flow g.p0 g.p1 g.p2 g.p3 g.rg g.ln) g.so g.tl)) (ORD : ordA g.bk g.drg g.rg g.rl g.dpr g.pr g.sl) (OFF : OwnOff g.tl [g.bk, g.drg, g.rg, g.rl, g.dpr, g.pr, g.sl]) (hdp : g.dp + 4 < recursionLimit) (hun : g.un + 32 < cLine) (ret : ∀ h' tk' t2' t3' t4' p1' p2' p3', Fr g.h₀ g.L h' g.m → News g.h₀ g.L h' (LED g.bk g.drg g.rg g.rl g.dpr g.pr g.sl g.bo (rgD g.w.params g.kr g.size g.most 0 0 0 g.t0 g.t1 t2' t3' t4' g.rl) g.lo (prD g.w.params g.kp g.mt g.up 2 g.index false g.p0 p1' p2' p3' g.rg g.ln) g.so g.tl) →
      g.R (.ok (.ret .none)) { g.s with heap := h', toks := tk' }) :
    codeAny (model g.prog g.w) (ktrTop g.dp g.un g.gd g.cn g.cs g.L g.a g.ccd g.cl g.outer) (.call (.ref 170) ⟨[.ref g.pr, .int g.index g.ui], []⟩) g.R g.s := by
  dsimp only [LED] at N
  k_dflt ktr_enter
  k_steps
  all_goals (
    rename Fr _ _ _ _ => F3
    rename News _ _ _ _ => N3
    skip
    exact ret _ _ _ _ _ _ _ _ F3 N3)
theorem all (d : D) : PP d := allOf (by with_unfolding_all exact main) d
end Gsnap_spec
section
variable {prog : Program} {w : World} {p : Program} {loose : List Str} {mean : ExcName → Option Value} {mg mb : Str → Option Value}
  {dp un : Nat} {gd : Option (List Code)} {cn : Str} {cs : Scope} {a : Addr} {ccd : Value} {cl : List (Str × Addr)} {outer : List Env} {A₀ : Around} {base h₀ : Heap} {L : Addr} {m : Str → Option Value} {s : Shared} {R : Result → Shared → Prop}
  (B : Below A₀ base outer h₀) (F : Fr h₀ L s.heap m) (X : (hd.heap_1 w.params).In h₀) (T : Top p loose mean mg mb h₀) (hk : cs.kind = .function)
include B F X T hk
set_option maxRecDepth 100000 in
set_option maxHeartbeats 4000000 in
theorem snap_spec {bk drg rg rl dpr pr sl : Addr} {bo lo so : Obj} {kr kp : Nat → Tok} {size most start held oct mt up pd : Int} {flow ln : Bool} {t0 t1 t2 t3 t4 p0 p1 p2 p3 : Tok} {tl : List (Addr × Obj)}
    (N : News h₀ L s.heap (LED bk drg rg rl dpr pr sl bo (rgD w.params kr size most start held oct t0 t1 t2 t3 t4 rl) lo (prD w.params kp mt up 1 pd flow p0 p1 p2 p3 rg ln) so tl))
    (ORD : ordA bk drg rg rl dpr pr sl) (OFF : OwnOff tl [bk, drg, rg, rl, dpr, pr, sl])
    (hdp : dp + 4 < recursionLimit) (hun : un + 32 < cLine) {index : Int} {ui : Tok}
    (ret : ∀ h' tk' t2' t3' t4' p1' p2' p3', Fr h₀ L h' m → News h₀ L h' (LED bk drg rg rl dpr pr sl bo (rgD w.params kr size most 0 0 0 t0 t1 t2' t3' t4' rl) lo (prD w.params kp mt up 2 index false p0 p1' p2' p3' rg ln) so tl) →
      R (.ok (.ret .none)) { s with heap := h', toks := tk' }) :
    codeAny (model prog w) (ktrTop dp un gd cn cs L a ccd cl outer) (.call (.ref 170) ⟨[.ref pr, .int index ui], []⟩) R s :=
  Gsnap_spec.all { d0 with prog := prog, w := w, p := p, loose := loose, mean := mean, mg := mg, mb := mb, dp := dp, un := un, gd := gd, cn := cn, cs := cs, a := a, ccd := ccd, cl := cl, outer := outer, A₀ := A₀, base := base, h₀ := h₀, L := L, m := m, s := s, R := R, bk := bk, drg := drg, rg := rg, rl := rl, dpr := dpr, pr := pr, sl := sl, bo := bo, lo := lo, so := so, kr := kr, kp := kp, size := size, most := most, start := start, held := held, oct := oct, mt := mt, up := up, pd := pd, flow := flow, ln := ln, t0 := t0, t1 := t1, t2 := t2, t3 := t3, t4 := t4, p0 := p0, p1 := p1, p2 := p2, p3 := p3, tl := tl, index := index, ui := ui } B F X T hk N ORD OFF hdp hun ret
end

local macro_rules | `(tactic| walk_at "call ref") => `(tactic| (k_here; k_dflt (refine wpAny_call ?_; apply full_spec; walk_at "my std0"; (iterate 2 (k_mem)); ktr_room; ktr_units); intros; walk_at "my end"))
noncomputable def growTo (n : Nat) (size : Int) : Int := min (if n = 0 then 1 else 2 * (n : Int)) size
namespace Ggrow_spec
def PP (d : D) : Prop :=
  let prog := d.prog
  let w := d.w
  let p := d.p
  let loose := d.loose
  let mean := d.mean
  let mg := d.mg
  let mb := d.mb
  let dp := d.dp
  let un := d.un
  let gd := d.gd
  let cn := d.cn
  let cs := d.cs
  let a := d.a
  let ccd := d.ccd
  let cl := d.cl
  let outer := d.outer
  let A₀ := d.A₀
  let base := d.base
  let h₀ := d.h₀
  let L := d.L
  let m := d.m
  let s := d.s
  let R := d.R
  let bk := d.bk
  let drg := d.drg
  let rg := d.rg
  let rl := d.rl
  let dpr := d.dpr
  let pr := d.pr
  let sl := d.sl
  let bo := d.bo
  let po := d.po
  let so := d.so
  let kr := d.kr
  let size := d.size
  let most := d.most
  let start := d.start
  let held := d.held
  let octets := d.octets
  let t0 := d.t0
  let t1 := d.t1
  let t2 := d.t2
  let t3 := d.t3
  let t4 := d.t4
  let rv := d.rv
  let rn := d.rn
  let ring := d.ring
  let tl := d.tl
  ∀ (B : Below A₀ base outer h₀) (F : Fr h₀ L s.heap m) (X : (hd.heap_1 w.params).In h₀) (T : Top p loose mean mg mb h₀) (hk : cs.kind = .function) (N : News h₀ L s.heap (LED bk drg rg rl dpr pr sl bo (rgD w.params kr size most start held octets t0 t1 t2 t3 t4 rl) (listOf rv.toArray rn) po so tl)) (ORD : ordA bk drg rg rl dpr pr sl) (OFF : OwnOff tl [bk, drg, rg, rl, dpr, pr, sl]) (RR : Rows tl rv ring) (hdp : dp + 1 < recursionLimit) (hun : un + 8 < cLine) (h1 : (rv.length : Int) < size) (h6 : size ≤ 256) (ret : ∀ h' tk' rv' rn' tl', Fr h₀ L h' m → News h₀ L h' (LED bk drg rg rl dpr pr sl bo (rgD w.params kr size most start held octets t0 t1 t2 t3 t4 rl) (listOf rv'.toArray rn') po so tl') →
      OwnOff tl' [bk, drg, rg, rl, dpr, pr, sl] → Ext tl tl' → (rv'.length : Int) = growTo rv.length size → Rows tl' rv' (ring ++ List.replicate (rv'.length - rv.length) (0, 0)) →
      R (.ok (.ret .none)) { s with heap := h', toks := tk' }),
    codeAny (model prog w) (ktrTop dp un gd cn cs L a ccd cl outer) (.call (.ref 72) ⟨[.ref rg], []⟩) R s
@[irreducible] noncomputable def g : D := Classical.epsilon (h := ⟨d0⟩) fun d => ¬ PP d
set_option maxRecDepth 100000 in
set_option maxHeartbeats 4000000 in
theorem main (B : Below g.A₀ g.base g.outer g.h₀) (F : Fr g.h₀ g.L g.s.heap g.m) (X : (hd.heap_1 g.w.params).In g.h₀) (T : Top g.p g.loose g.mean g.mg g.mb g.h₀) (hk : g.cs.kind = .function) (N : News g.h₀ g.L g.s.heap (LED g.bk g.drg g.rg g.rl g.dpr g.pr g.sl g.bo (rgD g.w.params g.kr g.size g.most g.start g.held g.octets g.t0 g.t1 g.t2 g.t3 g.t4 g.rl) (listOf g.rv.toArray g.rn) g.po g.so g.tl)) (ORD : ordA g.bk g.drg g.rg g.rl g.dpr g.pr g.sl) (OFF : OwnOff g.tl [g.bk, g.drg, g.rg, g.rl, g.dpr, g.pr, g.sl]) (RR : Rows g.tl g.rv g.ring) (hdp : g.dp + 1 < recursionLimit) (hun : g.un + 8 < cLine) (h1 : (g.rv.length : Int) < g.size) (h6 : g.size ≤ 256) (ret : ∀ h' tk' rv' rn' tl', Fr g.h₀ g.L h' g.m → News g.h₀ g.L h' (LED g.bk g.drg g.rg g.rl g.dpr g.pr g.sl g.bo (rgD g.w.params g.kr g.size g.most g.start g.held g.octets g.t0 g.t1 g.t2 g.t3 g.t4 g.rl) (listOf rv'.toArray rn') g.po g.so tl') →
      OwnOff tl' [g.bk, g.drg, g.rg, g.rl, g.dpr, g.pr, g.sl] → Ext g.tl tl' → (rv'.length : Int) = growTo g.rv.length g.size → Rows tl' rv' (g.ring ++ List.replicate (rv'.length - g.rv.length) (0, 0)) →
      g.R (.ok (.ret .none)) { g.s with heap := h', toks := tk' }) :
    codeAny (model g.prog g.w) (ktrTop g.dp g.un g.gd g.cn g.cs g.L g.a g.ccd g.cl g.outer) (.call (.ref 72) ⟨[.ref g.rg], []⟩) g.R g.s := by
  k_dflt ktr_enter
  k_steps
  all_goals (
    refine Halt.out ?_
    rename Fr _ _ _ _ => F1
    rename News _ _ _ _ => N1
    generalize hW : growTo g.rv.length g.size = W at ret
    have hWs : W ≤ g.size := by rw [← hW]; unfold growTo; omega
    have F2 := know (knowI F1 (Str.ofString "wanted") (W := W) rfl (by rw [← hW]; unfold growTo; first | omega | (split <;> omega))) (Str.ofString "self") _ rfl
    refine While_inv (fun n m₁ news₁ => ∃ rv' rn' tl' tw, ∃ u : Str → Option Value, news₁ = LED g.bk g.drg g.rg g.rl g.dpr g.pr g.sl g.bo (rgD g.w.params g.kr g.size g.most g.start g.held g.octets g.t0 g.t1 g.t2 g.t3 g.t4 g.rl) (listOf rv'.toArray rn') g.po g.so tl' ∧
        m₁ = (fun y => if y = Str.ofString "self" then some (Value.ref g.rg) else if y = Str.ofString "wanted" then some (Value.int W tw) else u y) ∧ OwnOff tl' [g.bk, g.drg, g.rg, g.rl, g.dpr, g.pr, g.sl] ∧ Ext g.tl tl' ∧
        Rows tl' rv' (g.ring ++ List.replicate (rv'.length - g.rv.length) (0, 0)) ∧ g.rv.length ≤ rv'.length ∧ (rv'.length : Int) ≤ W ∧ (n : Int) = W - rv'.length) (n₀ := (W - g.rv.length).toNat) F2 N1 ?_ ?_
    · refine ⟨g.rv, g.rn, g.tl, _, _, rfl, rfl, OFF, Ext.refl _, by simpa using RR, Nat.le_refl _, ?_, ?_⟩
      · rw [← hW]; unfold growTo; split <;> omega
      · rw [← hW]; unfold growTo; split <;> omega
    · rintro n m₁ news₁ h₁ tk₁ F₁ N₁ ⟨rv', rn', tl', tw, u, rfl, rfl, o', s', r', l1, l2, l3⟩
      dsimp only [LED] at N₁
      k_steps
      · rename Fr _ _ _ _ => F3
        rename News _ _ _ _ => N3
        exact WhileStep.intro (n' := n - 1) F3 (led_pull N3) (by omega) ⟨_, _, _, tw, u, rfl, rfl, by walk_at "my off", by walk_at "my ext",
          by rw [repl_snoc g.ring (0, 0) (b := rv'.length) (c := g.rv.length) (by simp) l1]
             exact (r'.mono fun p hp => .tail _ hp).append (.cons (.mk (.head _)) .nil), by simp; omega, by simp; omega, by simp; omega⟩
      · exact ret _ _ _ _ _ (by k_asm) (by k_asm) o' s' (by omega) r')
theorem all (d : D) : PP d := allOf (by with_unfolding_all exact main) d
end Ggrow_spec
section
variable {prog : Program} {w : World} {p : Program} {loose : List Str} {mean : ExcName → Option Value} {mg mb : Str → Option Value}
  {dp un : Nat} {gd : Option (List Code)} {cn : Str} {cs : Scope} {a : Addr} {ccd : Value} {cl : List (Str × Addr)} {outer : List Env} {A₀ : Around} {base h₀ : Heap} {L : Addr} {m : Str → Option Value} {s : Shared} {R : Result → Shared → Prop}
  (B : Below A₀ base outer h₀) (F : Fr h₀ L s.heap m) (X : (hd.heap_1 w.params).In h₀) (T : Top p loose mean mg mb h₀) (hk : cs.kind = .function)
include B F X T hk
set_option maxRecDepth 100000 in
set_option maxHeartbeats 4000000 in
theorem grow_spec {bk drg rg rl dpr pr sl : Addr} {bo po so : Obj} {kr : Nat → Tok} {size most start held octets : Int} {t0 t1 t2 t3 t4 : Tok} {rv : List Value} {rn : Nat} {ring : List (Int × Int)} {tl : List (Addr × Obj)}
    (N : News h₀ L s.heap (LED bk drg rg rl dpr pr sl bo (rgD w.params kr size most start held octets t0 t1 t2 t3 t4 rl) (listOf rv.toArray rn) po so tl))
    (ORD : ordA bk drg rg rl dpr pr sl) (OFF : OwnOff tl [bk, drg, rg, rl, dpr, pr, sl])
    (RR : Rows tl rv ring)
    (hdp : dp + 1 < recursionLimit) (hun : un + 8 < cLine)
    (h1 : (rv.length : Int) < size) (h6 : size ≤ 256)
    (ret : ∀ h' tk' rv' rn' tl', Fr h₀ L h' m → News h₀ L h' (LED bk drg rg rl dpr pr sl bo (rgD w.params kr size most start held octets t0 t1 t2 t3 t4 rl) (listOf rv'.toArray rn') po so tl') →
      OwnOff tl' [bk, drg, rg, rl, dpr, pr, sl] → Ext tl tl' → (rv'.length : Int) = growTo rv.length size → Rows tl' rv' (ring ++ List.replicate (rv'.length - rv.length) (0, 0)) →
      R (.ok (.ret .none)) { s with heap := h', toks := tk' }) :
    codeAny (model prog w) (ktrTop dp un gd cn cs L a ccd cl outer) (.call (.ref 72) ⟨[.ref rg], []⟩) R s :=
  Ggrow_spec.all { d0 with prog := prog, w := w, p := p, loose := loose, mean := mean, mg := mg, mb := mb, dp := dp, un := un, gd := gd, cn := cn, cs := cs, a := a, ccd := ccd, cl := cl, outer := outer, A₀ := A₀, base := base, h₀ := h₀, L := L, m := m, s := s, R := R, bk := bk, drg := drg, rg := rg, rl := rl, dpr := dpr, pr := pr, sl := sl, bo := bo, po := po, so := so, kr := kr, size := size, most := most, start := start, held := held, octets := octets, t0 := t0, t1 := t1, t2 := t2, t3 := t3, t4 := t4, rv := rv, rn := rn, ring := ring, tl := tl } B F X T hk N ORD OFF RR hdp hun h1 h6 ret
end

section partP12
local macro_rules | `(tactic| walk_at "pad 0") => `(tactic| skip)
local macro_rules | `(tactic| walk_at "ite") => `(tactic| (refine' iteT ?c ?_; (case c => assumption)))
namespace Gpanics2_spec
def PP (d : D) : Prop :=
  let prog := d.prog
  let w := d.w
  let p := d.p
  let loose := d.loose
  let mean := d.mean
  let mg := d.mg
  let mb := d.mb
  let dp := d.dp
  let un := d.un
  let gd := d.gd
  let cn := d.cn
  let cs := d.cs
  let a := d.a
  let ccd := d.ccd
  let outer := d.outer
  let A₀ := d.A₀
  let base := d.base
  let h₀ := d.h₀
  let L := d.L
  let m := d.m
  let s := d.s
  let R := d.R
  let bk := d.bk
  let drg := d.drg
  let rg := d.rg
  let rl := d.rl
  let dpr := d.dpr
  let pr := d.pr
  let sl := d.sl
  let bo := d.bo
  let ro := d.ro
  let lo := d.lo
  let so := d.so
  let kp := d.kp
  let mt := d.mt
  let up := d.up
  let pd := d.pd
  let flow := d.flow
  let ln := d.ln
  let p0 := d.p0
  let p1 := d.p1
  let p2 := d.p2
  let p3 := d.p3
  let tl := d.tl
  let count := d.count
  let oc := d.oc
  let last := d.last
  let u0 := d.u0
  let u1 := d.u1
  let u2 := d.u2
  ∀ (B : Below A₀ base outer h₀) (F : Fr h₀ L s.heap m) (X : (hd.heap_1 w.params).In h₀) (T : Top p loose mean mg mb h₀) (hk : cs.kind = .function) (XB : (hd.heap_1 w.params).In base) (TB : Top p loose mean mg mb base) (DD : KtsDicts (outer.filterMap (·.frame)) h₀) (N : News h₀ L s.heap (LED bk drg rg rl dpr pr sl bo ro lo (prD w.params kp mt up 2 pd flow p0 p1 p2 p3 rg ln) so tl)) (ORD : ordA bk drg rg rl dpr pr sl) (OFF : OwnOff tl [bk, drg, rg, rl, dpr, pr, sl]) (hdp : dp + 4 < recursionLimit) (hun : un + 128 < cLine) (ret : ∀ h' tk' h₂, KtsTurn (outer.filterMap (·.frame)) h₀ h₂ → Fr h₂ L h' m → News h₂ L h' (LED bk drg rg rl dpr pr sl bo ro lo (prD w.params kp mt up 2 pd flow p0 p1 p2 p3 rg ln) so tl) →
      Below A₀ base outer h₂ → (hd.heap_1 w.params).In h₂ → Top p loose mean mg mb h₂ → KtsDicts (outer.filterMap (·.frame)) h₂ →
      R (.ok (.ret (.bool true))) { s with heap := h', toks := tk' }),
    codeAny (model prog w) (ktrTop dp un gd cn cs L a ccd [] outer) (.call (.ref 261) ⟨[.ref pr, .int count u0, .int oc u1, .int last u2], []⟩) R s
@[irreducible] noncomputable def g : D := Classical.epsilon (h := ⟨d0⟩) fun d => ¬ PP d
set_option maxRecDepth 100000 in
set_option maxHeartbeats 8000000 in
theorem main (B : Below g.A₀ g.base g.outer g.h₀) (F : Fr g.h₀ g.L g.s.heap g.m) (X : (hd.heap_1 g.w.params).In g.h₀) (T : Top g.p g.loose g.mean g.mg g.mb g.h₀) (hk : g.cs.kind = .function) (XB : (hd.heap_1 g.w.params).In g.base) (TB : Top g.p g.loose g.mean g.mg g.mb g.base) (DD : KtsDicts (g.outer.filterMap (·.frame)) g.h₀) (N : News g.h₀ g.L g.s.heap (LED g.bk g.drg g.rg g.rl g.dpr g.pr g.sl g.bo g.ro g.lo (prD g.w.params g.kp g.mt g.up 2 g.pd g.flow g.p0 g.p1 g.p2 g.p3 g.rg g.ln) g.so g.tl)) (ORD : ordA g.bk g.drg g.rg g.rl g.dpr g.pr g.sl) (OFF : OwnOff g.tl [g.bk, g.drg, g.rg, g.rl, g.dpr, g.pr, g.sl]) (hdp : g.dp + 4 < recursionLimit) (hun : g.un + 128 < cLine) (ret : ∀ h' tk' h₂, KtsTurn (g.outer.filterMap (·.frame)) g.h₀ h₂ → Fr h₂ g.L h' g.m → News h₂ g.L h' (LED g.bk g.drg g.rg g.rl g.dpr g.pr g.sl g.bo g.ro g.lo (prD g.w.params g.kp g.mt g.up 2 g.pd g.flow g.p0 g.p1 g.p2 g.p3 g.rg g.ln) g.so g.tl) →
      Below g.A₀ g.base g.outer h₂ → (hd.heap_1 g.w.params).In h₂ → Top g.p g.loose g.mean g.mg g.mb h₂ → KtsDicts (g.outer.filterMap (·.frame)) h₂ →
      g.R (.ok (.ret (.bool true))) { g.s with heap := h', toks := tk' }) :
    codeAny (model g.prog g.w) (ktrTop g.dp g.un g.gd g.cn g.cs g.L g.a g.ccd [] g.outer) (.call (.ref 261) ⟨[.ref g.pr, .int g.count g.u0, .int g.oc g.u1, .int g.last g.u2], []⟩) g.R g.s := by
  dsimp only [LED] at N
  k_dflt (walk_at "my enterS")
  k_steps
  all_goals (k_dflt (refine' ret _ _ _ ?kT ?kF ?kN ?kB ?kX ?kP ?kD; (case kF => k_asm); (case kN => walk_at "my N"); (case kB => assumption); (case kX => assumption); (case kP => assumption); (case kD => assumption); (case kT => assumption)))
theorem all (d : D) : PP d := allOf (by with_unfolding_all exact main) d
end Gpanics2_spec
section
variable {prog : Program} {w : World} {p : Program} {loose : List Str} {mean : ExcName → Option Value} {mg mb : Str → Option Value}
  {dp un : Nat} {gd : Option (List Code)} {cn : Str} {cs : Scope} {a : Addr} {ccd : Value} {outer : List Env} {A₀ : Around} {base h₀ : Heap} {L : Addr} {m : Str → Option Value} {s : Shared} {R : Result → Shared → Prop}
  (B : Below A₀ base outer h₀) (F : Fr h₀ L s.heap m) (X : (hd.heap_1 w.params).In h₀) (T : Top p loose mean mg mb h₀) (hk : cs.kind = .function)
  (XB : (hd.heap_1 w.params).In base) (TB : Top p loose mean mg mb base) (DD : KtsDicts (outer.filterMap (·.frame)) h₀)
include B F X T hk XB TB DD
set_option maxRecDepth 100000 in
set_option maxHeartbeats 8000000 in
theorem panics2_spec {bk drg rg rl dpr pr sl : Addr} {bo ro lo so : Obj} {kp : Nat → Tok} {mt up pd : Int} {flow ln : Bool} {p0 p1 p2 p3 : Tok} {tl : List (Addr × Obj)}
    (N : News h₀ L s.heap (LED bk drg rg rl dpr pr sl bo ro lo (prD w.params kp mt up 2 pd flow p0 p1 p2 p3 rg ln) so tl))
    (ORD : ordA bk drg rg rl dpr pr sl) (OFF : OwnOff tl [bk, drg, rg, rl, dpr, pr, sl])
    (hdp : dp + 4 < recursionLimit) (hun : un + 128 < cLine)
    {count oc last : Int} {u0 u1 u2 : Tok}
    (ret : ∀ h' tk' h₂, KtsTurn (outer.filterMap (·.frame)) h₀ h₂ → Fr h₂ L h' m → News h₂ L h' (LED bk drg rg rl dpr pr sl bo ro lo (prD w.params kp mt up 2 pd flow p0 p1 p2 p3 rg ln) so tl) →
      Below A₀ base outer h₂ → (hd.heap_1 w.params).In h₂ → Top p loose mean mg mb h₂ → KtsDicts (outer.filterMap (·.frame)) h₂ →
      R (.ok (.ret (.bool true))) { s with heap := h', toks := tk' }) :
    codeAny (model prog w) (ktrTop dp un gd cn cs L a ccd [] outer) (.call (.ref 261) ⟨[.ref pr, .int count u0, .int oc u1, .int last u2], []⟩) R s :=
  Gpanics2_spec.all { d0 with prog := prog, w := w, p := p, loose := loose, mean := mean, mg := mg, mb := mb, dp := dp, un := un, gd := gd, cn := cn, cs := cs, a := a, ccd := ccd, outer := outer, A₀ := A₀, base := base, h₀ := h₀, L := L, m := m, s := s, R := R, bk := bk, drg := drg, rg := rg, rl := rl, dpr := dpr, pr := pr, sl := sl, bo := bo, ro := ro, lo := lo, so := so, kp := kp, mt := mt, up := up, pd := pd, flow := flow, ln := ln, p0 := p0, p1 := p1, p2 := p2, p3 := p3, tl := tl, count := count, oc := oc, last := last, u0 := u0, u1 := u1, u2 := u2 } B F X T hk XB TB DD N ORD OFF hdp hun ret
end
namespace Gpanics1_spec
def PP (d : D) : Prop :=
  let prog := d.prog
  let w := d.w
  let p := d.p
  let loose := d.loose
  let mean := d.mean
  let mg := d.mg
  let mb := d.mb
  let dp := d.dp
  let un := d.un
  let gd := d.gd
  let cn := d.cn
  let cs := d.cs
  let a := d.a
  let ccd := d.ccd
  let outer := d.outer
  let A₀ := d.A₀
  let base := d.base
  let h₀ := d.h₀
  let L := d.L
  let m := d.m
  let s := d.s
  let R := d.R
  let bk := d.bk
  let drg := d.drg
  let rg := d.rg
  let rl := d.rl
  let dpr := d.dpr
  let pr := d.pr
  let sl := d.sl
  let bo := d.bo
  let lo := d.lo
  let so := d.so
  let kr := d.kr
  let kp := d.kp
  let size := d.size
  let most := d.most
  let start := d.start
  let held := d.held
  let octets := d.octets
  let mt := d.mt
  let up := d.up
  let pd := d.pd
  let t0 := d.t0
  let t1 := d.t1
  let t2 := d.t2
  let t3 := d.t3
  let t4 := d.t4
  let flow := d.flow
  let ln := d.ln
  let p0 := d.p0
  let p1 := d.p1
  let p2 := d.p2
  let p3 := d.p3
  let tl := d.tl
  let count := d.count
  let oc := d.oc
  let last := d.last
  let u0 := d.u0
  let u1 := d.u1
  let u2 := d.u2
  ∀ (B : Below A₀ base outer h₀) (F : Fr h₀ L s.heap m) (X : (hd.heap_1 w.params).In h₀) (T : Top p loose mean mg mb h₀) (hk : cs.kind = .function) (XB : (hd.heap_1 w.params).In base) (TB : Top p loose mean mg mb base) (DD : KtsDicts (outer.filterMap (·.frame)) h₀) (N : News h₀ L s.heap (LED bk drg rg rl dpr pr sl bo (rgD w.params kr size most start held octets t0 t1 t2 t3 t4 rl) lo (prD w.params kp mt up 1 pd flow p0 p1 p2 p3 rg ln) so tl)) (ORD : ordA bk drg rg rl dpr pr sl) (OFF : OwnOff tl [bk, drg, rg, rl, dpr, pr, sl]) (hdp : dp + 4 < recursionLimit) (hun : un + 128 < cLine) (hc : 0 < count) (h5 : 0 ≤ held) (h6 : held ≤ 256) (h7 : 0 ≤ octets) (h8 : octets < 9999999999) (hfull : size ≤ held ∨ (most ≠ 0 ∧ most ≤ octets)) (ret : ∀ h' tk' h₂, KtsTurn (outer.filterMap (·.frame)) h₀ h₂ → Fr h₂ L h' m → News h₂ L h' (LED bk drg rg rl dpr pr sl bo (rgD w.params kr size most start held octets t0 t1 t2 t3 t4 rl) lo (prD w.params kp mt up 1 pd flow p0 p1 p2 p3 rg ln) so tl) →
      Below A₀ base outer h₂ → (hd.heap_1 w.params).In h₂ → Top p loose mean mg mb h₂ → KtsDicts (outer.filterMap (·.frame)) h₂ →
      R (.ok (.ret (.bool true))) { s with heap := h', toks := tk' }),
    codeAny (model prog w) (ktrTop dp un gd cn cs L a ccd [] outer) (.call (.ref 261) ⟨[.ref pr, .int count u0, .int oc u1, .int last u2], []⟩) R s
@[irreducible] noncomputable def g : D := Classical.epsilon (h := ⟨d0⟩) fun d => ¬ PP d
set_option maxRecDepth 100000 in
set_option maxHeartbeats 8000000 in
theorem main (B : Below g.A₀ g.base g.outer g.h₀) (F : Fr g.h₀ g.L g.s.heap g.m) (X : (hd.heap_1 g.w.params).In g.h₀) (T : Top g.p g.loose g.mean g.mg g.mb g.h₀) (hk : g.cs.kind = .function) (XB : (hd.heap_1 g.w.params).In g.base) (TB : Top g.p g.loose g.mean g.mg g.mb g.base) (DD : KtsDicts (g.outer.filterMap (·.frame)) g.h₀) (N : News g.h₀ g.L g.s.heap (LED g.bk g.drg g.rg g.rl g.dpr g.pr g.sl g.bo (rgD g.w.params g.kr g.size g.most g.start g.held g.octets g.t0 g.t1 g.t2 g.t3 g.t4 g.rl) g.lo (prD g.w.params g.kp g.mt g.up 1 g.pd g.flow g.p0 g.p1 g.p2 g.p3 g.rg g.ln) g.so g.tl)) (ORD : ordA g.bk g.drg g.rg g.rl g.dpr g.pr g.sl) (OFF : OwnOff g.tl [g.bk, g.drg, g.rg, g.rl, g.dpr, g.pr, g.sl]) (hdp : g.dp + 4 < recursionLimit) (hun : g.un + 128 < cLine) (hc : 0 < g.count) (h5 : 0 ≤ g.held) (h6 : g.held ≤ 256) (h7 : 0 ≤ g.octets) (h8 : g.octets < 9999999999) (hfull : g.size ≤ g.held ∨ (g.most ≠ 0 ∧ g.most ≤ g.octets)) (ret : ∀ h' tk' h₂, KtsTurn (g.outer.filterMap (·.frame)) g.h₀ h₂ → Fr h₂ g.L h' g.m → News h₂ g.L h' (LED g.bk g.drg g.rg g.rl g.dpr g.pr g.sl g.bo (rgD g.w.params g.kr g.size g.most g.start g.held g.octets g.t0 g.t1 g.t2 g.t3 g.t4 g.rl) g.lo (prD g.w.params g.kp g.mt g.up 1 g.pd g.flow g.p0 g.p1 g.p2 g.p3 g.rg g.ln) g.so g.tl) →
      Below g.A₀ g.base g.outer h₂ → (hd.heap_1 g.w.params).In h₂ → Top g.p g.loose g.mean g.mg g.mb h₂ → KtsDicts (g.outer.filterMap (·.frame)) h₂ →
      g.R (.ok (.ret (.bool true))) { g.s with heap := h', toks := tk' }) :
    codeAny (model g.prog g.w) (ktrTop g.dp g.un g.gd g.cn g.cs g.L g.a g.ccd [] g.outer) (.call (.ref 261) ⟨[.ref g.pr, .int g.count g.u0, .int g.oc g.u1, .int g.last g.u2], []⟩) g.R g.s := by
  have hfb : (decide (g.size ≤ g.held) || (decide (g.most ≠ 0) && decide (g.most ≤ g.octets))) = true := by
    simp only [Bool.or_eq_true, Bool.and_eq_true, decide_eq_true_eq]
    exact hfull
  dsimp only [LED] at N
  k_dflt (walk_at "my enterS")
  k_steps
  all_goals (k_dflt (refine' ret _ _ _ ?kT ?kF ?kN ?kB ?kX ?kP ?kD; (case kF => k_asm); (case kN => walk_at "my N"); (case kB => assumption); (case kX => assumption); (case kP => assumption); (case kD => assumption); (case kT => assumption)))
theorem all (d : D) : PP d := allOf (by with_unfolding_all exact main) d
end Gpanics1_spec
section
variable {prog : Program} {w : World} {p : Program} {loose : List Str} {mean : ExcName → Option Value} {mg mb : Str → Option Value}
  {dp un : Nat} {gd : Option (List Code)} {cn : Str} {cs : Scope} {a : Addr} {ccd : Value} {outer : List Env} {A₀ : Around} {base h₀ : Heap} {L : Addr} {m : Str → Option Value} {s : Shared} {R : Result → Shared → Prop}
  (B : Below A₀ base outer h₀) (F : Fr h₀ L s.heap m) (X : (hd.heap_1 w.params).In h₀) (T : Top p loose mean mg mb h₀) (hk : cs.kind = .function)
  (XB : (hd.heap_1 w.params).In base) (TB : Top p loose mean mg mb base) (DD : KtsDicts (outer.filterMap (·.frame)) h₀)
include B F X T hk XB TB DD
set_option maxRecDepth 100000 in
set_option maxHeartbeats 8000000 in
theorem panics1_spec {bk drg rg rl dpr pr sl : Addr} {bo lo so : Obj} {kr kp : Nat → Tok} {size most start held octets mt up pd : Int} {t0 t1 t2 t3 t4 : Tok} {flow ln : Bool} {p0 p1 p2 p3 : Tok} {tl : List (Addr × Obj)}
    (N : News h₀ L s.heap (LED bk drg rg rl dpr pr sl bo (rgD w.params kr size most start held octets t0 t1 t2 t3 t4 rl) lo (prD w.params kp mt up 1 pd flow p0 p1 p2 p3 rg ln) so tl))
    (ORD : ordA bk drg rg rl dpr pr sl) (OFF : OwnOff tl [bk, drg, rg, rl, dpr, pr, sl])
    (hdp : dp + 4 < recursionLimit) (hun : un + 128 < cLine)
    {count oc last : Int} {u0 u1 u2 : Tok} (hc : 0 < count) (h5 : 0 ≤ held) (h6 : held ≤ 256) (h7 : 0 ≤ octets) (h8 : octets < 9999999999) (hfull : size ≤ held ∨ (most ≠ 0 ∧ most ≤ octets))
    (ret : ∀ h' tk' h₂, KtsTurn (outer.filterMap (·.frame)) h₀ h₂ → Fr h₂ L h' m → News h₂ L h' (LED bk drg rg rl dpr pr sl bo (rgD w.params kr size most start held octets t0 t1 t2 t3 t4 rl) lo (prD w.params kp mt up 1 pd flow p0 p1 p2 p3 rg ln) so tl) →
      Below A₀ base outer h₂ → (hd.heap_1 w.params).In h₂ → Top p loose mean mg mb h₂ → KtsDicts (outer.filterMap (·.frame)) h₂ →
      R (.ok (.ret (.bool true))) { s with heap := h', toks := tk' }) :
    codeAny (model prog w) (ktrTop dp un gd cn cs L a ccd [] outer) (.call (.ref 261) ⟨[.ref pr, .int count u0, .int oc u1, .int last u2], []⟩) R s :=
  Gpanics1_spec.all { d0 with prog := prog, w := w, p := p, loose := loose, mean := mean, mg := mg, mb := mb, dp := dp, un := un, gd := gd, cn := cn, cs := cs, a := a, ccd := ccd, outer := outer, A₀ := A₀, base := base, h₀ := h₀, L := L, m := m, s := s, R := R, bk := bk, drg := drg, rg := rg, rl := rl, dpr := dpr, pr := pr, sl := sl, bo := bo, lo := lo, so := so, kr := kr, kp := kp, size := size, most := most, start := start, held := held, octets := octets, mt := mt, up := up, pd := pd, t0 := t0, t1 := t1, t2 := t2, t3 := t3, t4 := t4, flow := flow, ln := ln, p0 := p0, p1 := p1, p2 := p2, p3 := p3, tl := tl, count := count, oc := oc, last := last, u0 := u0, u1 := u1, u2 := u2 } B F X T hk XB TB DD N ORD OFF hdp hun hc h5 h6 h7 h8 hfull ret
end

end partP12
local macro_rules | `(tactic| walk_at "call ref") => `(tactic| (k_here; k_dflt (refine wpAny_call ?_; apply grow_spec; walk_at "my stdn"; (iterate 2 (assumption)); ktr_room; ktr_units; (iterate 2 (walk_at "my fits"))); intros; walk_at "my end"))
noncomputable def addRing (ring : List (Int × Int)) (size P : Int) (x : Int × Int) : List (Int × Int) :=
  (if P < ring.length then ring else ring ++ List.replicate ((growTo ring.length size).toNat - ring.length) (0, 0)).set P.toNat x
theorem rows_put {tl : List (Addr × Obj)} {rv : List Value} {ring : List (Int × Int)} {size P k index oc : Int} {D : Addr} {ti tt : Tok} {n : Nat} (RR : Rows tl rv ring) (h : P < ring.length) (e : k = P) :
    Rows ((D, tup2 index ti oc tt n) :: tl) (rv.set k.toNat (.ref D)) (addRing ring size P (index, oc)) := by
  subst e
  unfold addRing
  rw [if_pos h]
  exact (RR.mono fun p hp => .tail _ hp).set (.mk (.head _)) _
theorem rows_put_grown {tl : List (Addr × Obj)} {rv rv9 : List Value} {ring : List (Int × Int)} {size P k index oc : Int} {D : Addr} {ti tt : Tok} {n : Nat} (RR : Rows tl rv9 (ring ++ List.replicate (rv9.length - rv.length) (0, 0))) (hl : (rv9.length : Int) = growTo rv.length size) (hrl : rv.length = ring.length) (h : ¬ P < ring.length) (e : k = P) :
    Rows ((D, tup2 index ti oc tt n) :: tl) (rv9.set k.toNat (.ref D)) (addRing ring size P (index, oc)) := by
  subst e
  unfold addRing
  rw [if_neg h]
  have q : (growTo ring.length size).toNat - ring.length = rv9.length - rv.length := by rw [← hrl, ← hl]; simp
  rw [q]
  exact (RR.mono fun p hp => .tail _ hp).set (.mk (.head _)) _
namespace Gadd_spec
def PP (d : D) : Prop :=
  let prog := d.prog
  let w := d.w
  let p := d.p
  let loose := d.loose
  let mean := d.mean
  let mg := d.mg
  let mb := d.mb
  let dp := d.dp
  let un := d.un
  let gd := d.gd
  let cn := d.cn
  let cs := d.cs
  let a := d.a
  let ccd := d.ccd
  let cl := d.cl
  let outer := d.outer
  let A₀ := d.A₀
  let base := d.base
  let h₀ := d.h₀
  let L := d.L
  let m := d.m
  let s := d.s
  let R := d.R
  let bk := d.bk
  let drg := d.drg
  let rg := d.rg
  let rl := d.rl
  let dpr := d.dpr
  let pr := d.pr
  let sl := d.sl
  let bo := d.bo
  let po := d.po
  let so := d.so
  let kr := d.kr
  let size := d.size
  let most := d.most
  let start := d.start
  let held := d.held
  let octets := d.octets
  let t0 := d.t0
  let t1 := d.t1
  let t2 := d.t2
  let t3 := d.t3
  let t4 := d.t4
  let rv := d.rv
  let rn := d.rn
  let ring := d.ring
  let tl := d.tl
  let index := d.index
  let oc := d.oc
  let P := d.P
  let ti := d.ti
  let tt := d.tt
  ∀ (B : Below A₀ base outer h₀) (F : Fr h₀ L s.heap m) (X : (hd.heap_1 w.params).In h₀) (T : Top p loose mean mg mb h₀) (hk : cs.kind = .function) (N : News h₀ L s.heap (LED bk drg rg rl dpr pr sl bo (rgD w.params kr size most start held octets t0 t1 t2 t3 t4 rl) (listOf rv.toArray rn) po so tl)) (ORD : ordA bk drg rg rl dpr pr sl) (OFF : OwnOff tl [bk, drg, rg, rl, dpr, pr, sl]) (RR : Rows tl rv ring) (hdp : dp + 2 < recursionLimit) (hun : un + 16 < cLine) (h1 : held < size) (h2 : most = 0 ∨ octets < most) (h3 : 0 ≤ start) (h4 : start < size) (h5 : 0 ≤ held) (h6 : size ≤ 256) (hl : (ring.length : Int) ≤ size) (hP1 : size ≤ start + held → P = start + held - size) (hP2 : start + held < size → P = start + held) (hQ : P < ring.length ∨ P < growTo ring.length size) (ret : ∀ h' tk' rv' rn' tl' t3' t4', Fr h₀ L h' m → News h₀ L h' (LED bk drg rg rl dpr pr sl bo (rgD w.params kr size most start (held + 1) (octets + oc) t0 t1 t2 t3' t4' rl) (listOf rv'.toArray rn') po so tl') →
      OwnOff tl' [bk, drg, rg, rl, dpr, pr, sl] → Ext tl tl' → Rows tl' rv' (addRing ring size P (index, oc)) →
      R (.ok (.ret .none)) { s with heap := h', toks := tk' }),
    codeAny (model prog w) (ktrTop dp un gd cn cs L a ccd cl outer) (.call (.ref 79) ⟨[.ref rg, .int index ti, .int oc tt], []⟩) R s
@[irreducible] noncomputable def g : D := Classical.epsilon (h := ⟨d0⟩) fun d => ¬ PP d
set_option maxRecDepth 100000 in
set_option maxHeartbeats 4000000 in
theorem main (B : Below g.A₀ g.base g.outer g.h₀) (F : Fr g.h₀ g.L g.s.heap g.m) (X : (hd.heap_1 g.w.params).In g.h₀) (T : Top g.p g.loose g.mean g.mg g.mb g.h₀) (hk : g.cs.kind = .function) (N : News g.h₀ g.L g.s.heap (LED g.bk g.drg g.rg g.rl g.dpr g.pr g.sl g.bo (rgD g.w.params g.kr g.size g.most g.start g.held g.octets g.t0 g.t1 g.t2 g.t3 g.t4 g.rl) (listOf g.rv.toArray g.rn) g.po g.so g.tl)) (ORD : ordA g.bk g.drg g.rg g.rl g.dpr g.pr g.sl) (OFF : OwnOff g.tl [g.bk, g.drg, g.rg, g.rl, g.dpr, g.pr, g.sl]) (RR : Rows g.tl g.rv g.ring) (hdp : g.dp + 2 < recursionLimit) (hun : g.un + 16 < cLine) (h1 : g.held < g.size) (h2 : g.most = 0 ∨ g.octets < g.most) (h3 : 0 ≤ g.start) (h4 : g.start < g.size) (h5 : 0 ≤ g.held) (h6 : g.size ≤ 256) (hl : (g.ring.length : Int) ≤ g.size) (hP1 : g.size ≤ g.start + g.held → g.P = g.start + g.held - g.size) (hP2 : g.start + g.held < g.size → g.P = g.start + g.held) (hQ : g.P < g.ring.length ∨ g.P < growTo g.ring.length g.size) (ret : ∀ h' tk' rv' rn' tl' t3' t4', Fr g.h₀ g.L h' g.m → News g.h₀ g.L h' (LED g.bk g.drg g.rg g.rl g.dpr g.pr g.sl g.bo (rgD g.w.params g.kr g.size g.most g.start (g.held + 1) (g.octets + g.oc) g.t0 g.t1 g.t2 t3' t4' g.rl) (listOf rv'.toArray rn') g.po g.so tl') →
      OwnOff tl' [g.bk, g.drg, g.rg, g.rl, g.dpr, g.pr, g.sl] → Ext g.tl tl' → Rows tl' rv' (addRing g.ring g.size g.P (g.index, g.oc)) →
      g.R (.ok (.ret .none)) { g.s with heap := h', toks := tk' }) :
    codeAny (model g.prog g.w) (ktrTop g.dp g.un g.gd g.cn g.cs g.L g.a g.ccd g.cl g.outer) (.call (.ref 79) ⟨[.ref g.rg, .int g.index g.ti, .int g.oc g.tt], []⟩) g.R g.s := by
  have hrl := RR.length
  have hgt : growTo g.ring.length g.size ≤ g.size := by unfold growTo; omega
  have hge : growTo g.rv.length g.size = growTo g.ring.length g.size := by rw [hrl]
  dsimp only [LED] at N
  k_dflt ktr_enter
  k_steps
  all_goals (
    rename Fr _ _ _ _ => F3
    rename News _ _ _ _ => N3
    refine ret _ _ _ _ _ _ _ F3 (led_pull N3) (by walk_at "my off") ?_ ?_
    · walk_at "my ext"
    · first
      | exact rows_put (by assumption) (by omega) (by omega)
      | exact rows_put_grown (by assumption) (by assumption) hrl (by omega) (by omega))
theorem all (d : D) : PP d := allOf (by with_unfolding_all exact main) d
end Gadd_spec
section
variable {prog : Program} {w : World} {p : Program} {loose : List Str} {mean : ExcName → Option Value} {mg mb : Str → Option Value}
  {dp un : Nat} {gd : Option (List Code)} {cn : Str} {cs : Scope} {a : Addr} {ccd : Value} {cl : List (Str × Addr)} {outer : List Env} {A₀ : Around} {base h₀ : Heap} {L : Addr} {m : Str → Option Value} {s : Shared} {R : Result → Shared → Prop}
  (B : Below A₀ base outer h₀) (F : Fr h₀ L s.heap m) (X : (hd.heap_1 w.params).In h₀) (T : Top p loose mean mg mb h₀) (hk : cs.kind = .function)
include B F X T hk
set_option maxRecDepth 100000 in
set_option maxHeartbeats 4000000 in
theorem add_spec {bk drg rg rl dpr pr sl : Addr} {bo po so : Obj} {kr : Nat → Tok} {size most start held octets : Int} {t0 t1 t2 t3 t4 : Tok} {rv : List Value} {rn : Nat} {ring : List (Int × Int)} {tl : List (Addr × Obj)}
    (N : News h₀ L s.heap (LED bk drg rg rl dpr pr sl bo (rgD w.params kr size most start held octets t0 t1 t2 t3 t4 rl) (listOf rv.toArray rn) po so tl))
    (ORD : ordA bk drg rg rl dpr pr sl) (OFF : OwnOff tl [bk, drg, rg, rl, dpr, pr, sl])
    (RR : Rows tl rv ring)
    (hdp : dp + 2 < recursionLimit) (hun : un + 16 < cLine)
    {index oc P : Int} {ti tt : Tok}
    (h1 : held < size) (h2 : most = 0 ∨ octets < most) (h3 : 0 ≤ start) (h4 : start < size) (h5 : 0 ≤ held) (h6 : size ≤ 256) (hl : (ring.length : Int) ≤ size)
    (hP1 : size ≤ start + held → P = start + held - size) (hP2 : start + held < size → P = start + held) (hQ : P < ring.length ∨ P < growTo ring.length size)
    (ret : ∀ h' tk' rv' rn' tl' t3' t4', Fr h₀ L h' m → News h₀ L h' (LED bk drg rg rl dpr pr sl bo (rgD w.params kr size most start (held + 1) (octets + oc) t0 t1 t2 t3' t4' rl) (listOf rv'.toArray rn') po so tl') →
      OwnOff tl' [bk, drg, rg, rl, dpr, pr, sl] → Ext tl tl' → Rows tl' rv' (addRing ring size P (index, oc)) →
      R (.ok (.ret .none)) { s with heap := h', toks := tk' }) :
    codeAny (model prog w) (ktrTop dp un gd cn cs L a ccd cl outer) (.call (.ref 79) ⟨[.ref rg, .int index ti, .int oc tt], []⟩) R s :=
  Gadd_spec.all { d0 with prog := prog, w := w, p := p, loose := loose, mean := mean, mg := mg, mb := mb, dp := dp, un := un, gd := gd, cn := cn, cs := cs, a := a, ccd := ccd, cl := cl, outer := outer, A₀ := A₀, base := base, h₀ := h₀, L := L, m := m, s := s, R := R, bk := bk, drg := drg, rg := rg, rl := rl, dpr := dpr, pr := pr, sl := sl, bo := bo, po := po, so := so, kr := kr, size := size, most := most, start := start, held := held, octets := octets, t0 := t0, t1 := t1, t2 := t2, t3 := t3, t4 := t4, rv := rv, rn := rn, ring := ring, tl := tl, index := index, oc := oc, P := P, ti := ti, tt := tt } B F X T hk N ORD OFF RR hdp hun h1 h2 h3 h4 h5 h6 hl hP1 hP2 hQ ret
end

local macro_rules | `(tactic| walk_at "call ref") => `(tactic| (k_here; k_dflt (refine wpAny_call ?_; apply add_spec; walk_at "my stdn"; (iterate 2 (assumption)); ktr_room; ktr_units; (iterate 7 (walk_at "my fits")); (iterate 3 (assumption))); intros; walk_at "my end"))
namespace Gsent1_spec
def PP (d : D) : Prop :=
  let prog := d.prog
  let w := d.w
  let p := d.p
  let loose := d.loose
  let mean := d.mean
  let mg := d.mg
  let mb := d.mb
  let dp := d.dp
  let un := d.un
  let gd := d.gd
  let cn := d.cn
  let cs := d.cs
  let a := d.a
  let ccd := d.ccd
  let cl := d.cl
  let outer := d.outer
  let A₀ := d.A₀
  let base := d.base
  let h₀ := d.h₀
  let L := d.L
  let m := d.m
  let s := d.s
  let R := d.R
  let bk := d.bk
  let drg := d.drg
  let rg := d.rg
  let rl := d.rl
  let dpr := d.dpr
  let pr := d.pr
  let sl := d.sl
  let bo := d.bo
  let so := d.so
  let kr := d.kr
  let kp := d.kp
  let size := d.size
  let most := d.most
  let start := d.start
  let held := d.held
  let octets := d.octets
  let mt := d.mt
  let up := d.up
  let pd := d.pd
  let flow := d.flow
  let ln := d.ln
  let t0 := d.t0
  let t1 := d.t1
  let t2 := d.t2
  let t3 := d.t3
  let t4 := d.t4
  let p0 := d.p0
  let p1 := d.p1
  let p2 := d.p2
  let p3 := d.p3
  let rv := d.rv
  let rn := d.rn
  let ring := d.ring
  let tl := d.tl
  let count := d.count
  let oc := d.oc
  let last := d.last
  let P := d.P
  let u0 := d.u0
  let u1 := d.u1
  let u2 := d.u2
  ∀ (B : Below A₀ base outer h₀) (F : Fr h₀ L s.heap m) (X : (hd.heap_1 w.params).In h₀) (T : Top p loose mean mg mb h₀) (hk : cs.kind = .function) (N : News h₀ L s.heap (LED bk drg rg rl dpr pr sl bo (rgD w.params kr size most start held octets t0 t1 t2 t3 t4 rl) (listOf rv.toArray rn) (prD w.params kp mt up 1 pd flow p0 p1 p2 p3 rg ln) so tl)) (ORD : ordA bk drg rg rl dpr pr sl) (OFF : OwnOff tl [bk, drg, rg, rl, dpr, pr, sl]) (RR : Rows tl rv ring) (hdp : dp + 4 < recursionLimit) (hun : un + 32 < cLine) (hc : 0 < count) (h1 : held < size) (h2 : most = 0 ∨ octets < most) (h3 : 0 ≤ start) (h4 : start < size) (h5 : 0 ≤ held) (h6 : size ≤ 256) (hl : (ring.length : Int) ≤ size) (hP1 : size ≤ start + held → P = start + held - size) (hP2 : start + held < size → P = start + held) (hQ : P < ring.length ∨ P < growTo ring.length size) (ret : ∀ h' tk' rv' rn' tl' t3' t4' p1', Fr h₀ L h' m → News h₀ L h' (LED bk drg rg rl dpr pr sl bo (rgD w.params kr size most start (held + 1) (octets + oc) t0 t1 t2 t3' t4' rl) (listOf rv'.toArray rn')
        (prD w.params kp mt (last + 1) 1 pd (decide (size ≤ held + 1) || (decide (most ≠ 0) && decide (most ≤ octets + oc))) p0 p1' p2 p3 rg ln) so tl') →
      OwnOff tl' [bk, drg, rg, rl, dpr, pr, sl] → Ext tl tl' → Rows tl' rv' (addRing ring size P (last, oc)) →
      R (.ok (.ret .none)) { s with heap := h', toks := tk' }),
    codeAny (model prog w) (ktrTop dp un gd cn cs L a ccd cl outer) (.call (.ref 198) ⟨[.ref pr, .int count u0, .int oc u1, .int last u2], []⟩) R s
@[irreducible] noncomputable def g : D := Classical.epsilon (h := ⟨d0⟩) fun d => ¬ PP d
set_option maxRecDepth 100000 in
set_option maxHeartbeats 8000000 in
theorem main (B : Below g.A₀ g.base g.outer g.h₀) (F : Fr g.h₀ g.L g.s.heap g.m) (X : (hd.heap_1 g.w.params).In g.h₀) (T : Top g.p g.loose g.mean g.mg g.mb g.h₀) (hk : g.cs.kind = .function) (N : News g.h₀ g.L g.s.heap (LED g.bk g.drg g.rg g.rl g.dpr g.pr g.sl g.bo (rgD g.w.params g.kr g.size g.most g.start g.held g.octets g.t0 g.t1 g.t2 g.t3 g.t4 g.rl) (listOf g.rv.toArray g.rn) (prD g.w.params g.kp g.mt g.up 1 g.pd g.flow g.p0 g.p1 g.p2 g.p3 g.rg g.ln) g.so g.tl)) (ORD : ordA g.bk g.drg g.rg g.rl g.dpr g.pr g.sl) (OFF : OwnOff g.tl [g.bk, g.drg, g.rg, g.rl, g.dpr, g.pr, g.sl]) (RR : Rows g.tl g.rv g.ring) (hdp : g.dp + 4 < recursionLimit) (hun : g.un + 32 < cLine) (hc : 0 < g.count) (h1 : g.held < g.size) (h2 : g.most = 0 ∨ g.octets < g.most) (h3 : 0 ≤ g.start) (h4 : g.start < g.size) (h5 : 0 ≤ g.held) (h6 : g.size ≤ 256) (hl : (g.ring.length : Int) ≤ g.size) (hP1 : g.size ≤ g.start + g.held → g.P = g.start + g.held - g.size) (hP2 : g.start + g.held < g.size → g.P = g.start + g.held) (hQ : g.P < g.ring.length ∨ g.P < growTo g.ring.length g.size) (ret : ∀ h' tk' rv' rn' tl' t3' t4' p1', Fr g.h₀ g.L h' g.m → News g.h₀ g.L h' (LED g.bk g.drg g.rg g.rl g.dpr g.pr g.sl g.bo (rgD g.w.params g.kr g.size g.most g.start (g.held + 1) (g.octets + g.oc) g.t0 g.t1 g.t2 t3' t4' g.rl) (listOf rv'.toArray rn')
        (prD g.w.params g.kp g.mt (g.last + 1) 1 g.pd (decide (g.size ≤ g.held + 1) || (decide (g.most ≠ 0) && decide (g.most ≤ g.octets + g.oc))) g.p0 p1' g.p2 g.p3 g.rg g.ln) g.so tl') →
      OwnOff tl' [g.bk, g.drg, g.rg, g.rl, g.dpr, g.pr, g.sl] → Ext g.tl tl' → Rows tl' rv' (addRing g.ring g.size g.P (g.last, g.oc)) →
      g.R (.ok (.ret .none)) { g.s with heap := h', toks := tk' }) :
    codeAny (model g.prog g.w) (ktrTop g.dp g.un g.gd g.cn g.cs g.L g.a g.ccd g.cl g.outer) (.call (.ref 198) ⟨[.ref g.pr, .int g.count g.u0, .int g.oc g.u1, .int g.last g.u2], []⟩) g.R g.s := by
  dsimp only [LED] at N
  k_dflt ktr_enter
  k_steps
  rename Fr _ _ _ _ => F3
  rename News _ _ _ _ => N3
  exact ret _ _ _ _ _ _ _ _ F3 N3 (by assumption) (by assumption) (by assumption)
theorem all (d : D) : PP d := allOf (by with_unfolding_all exact main) d
end Gsent1_spec
section
variable {prog : Program} {w : World} {p : Program} {loose : List Str} {mean : ExcName → Option Value} {mg mb : Str → Option Value}
  {dp un : Nat} {gd : Option (List Code)} {cn : Str} {cs : Scope} {a : Addr} {ccd : Value} {cl : List (Str × Addr)} {outer : List Env} {A₀ : Around} {base h₀ : Heap} {L : Addr} {m : Str → Option Value} {s : Shared} {R : Result → Shared → Prop}
  (B : Below A₀ base outer h₀) (F : Fr h₀ L s.heap m) (X : (hd.heap_1 w.params).In h₀) (T : Top p loose mean mg mb h₀) (hk : cs.kind = .function)
include B F X T hk
set_option maxRecDepth 100000 in
set_option maxHeartbeats 8000000 in
theorem sent1_spec {bk drg rg rl dpr pr sl : Addr} {bo so : Obj} {kr kp : Nat → Tok} {size most start held octets mt up pd : Int} {flow ln : Bool} {t0 t1 t2 t3 t4 p0 p1 p2 p3 : Tok} {rv : List Value} {rn : Nat} {ring : List (Int × Int)} {tl : List (Addr × Obj)}
    (N : News h₀ L s.heap (LED bk drg rg rl dpr pr sl bo (rgD w.params kr size most start held octets t0 t1 t2 t3 t4 rl) (listOf rv.toArray rn) (prD w.params kp mt up 1 pd flow p0 p1 p2 p3 rg ln) so tl))
    (ORD : ordA bk drg rg rl dpr pr sl) (OFF : OwnOff tl [bk, drg, rg, rl, dpr, pr, sl])
    (RR : Rows tl rv ring)
    (hdp : dp + 4 < recursionLimit) (hun : un + 32 < cLine)
    {count oc last P : Int} {u0 u1 u2 : Tok} (hc : 0 < count)
    (h1 : held < size) (h2 : most = 0 ∨ octets < most) (h3 : 0 ≤ start) (h4 : start < size) (h5 : 0 ≤ held) (h6 : size ≤ 256) (hl : (ring.length : Int) ≤ size)
    (hP1 : size ≤ start + held → P = start + held - size) (hP2 : start + held < size → P = start + held) (hQ : P < ring.length ∨ P < growTo ring.length size)
    (ret : ∀ h' tk' rv' rn' tl' t3' t4' p1', Fr h₀ L h' m → News h₀ L h' (LED bk drg rg rl dpr pr sl bo (rgD w.params kr size most start (held + 1) (octets + oc) t0 t1 t2 t3' t4' rl) (listOf rv'.toArray rn')
        (prD w.params kp mt (last + 1) 1 pd (decide (size ≤ held + 1) || (decide (most ≠ 0) && decide (most ≤ octets + oc))) p0 p1' p2 p3 rg ln) so tl') →
      OwnOff tl' [bk, drg, rg, rl, dpr, pr, sl] → Ext tl tl' → Rows tl' rv' (addRing ring size P (last, oc)) →
      R (.ok (.ret .none)) { s with heap := h', toks := tk' }) :
    codeAny (model prog w) (ktrTop dp un gd cn cs L a ccd cl outer) (.call (.ref 198) ⟨[.ref pr, .int count u0, .int oc u1, .int last u2], []⟩) R s :=
  Gsent1_spec.all { d0 with prog := prog, w := w, p := p, loose := loose, mean := mean, mg := mg, mb := mb, dp := dp, un := un, gd := gd, cn := cn, cs := cs, a := a, ccd := ccd, cl := cl, outer := outer, A₀ := A₀, base := base, h₀ := h₀, L := L, m := m, s := s, R := R, bk := bk, drg := drg, rg := rg, rl := rl, dpr := dpr, pr := pr, sl := sl, bo := bo, so := so, kr := kr, kp := kp, size := size, most := most, start := start, held := held, octets := octets, mt := mt, up := up, pd := pd, flow := flow, ln := ln, t0 := t0, t1 := t1, t2 := t2, t3 := t3, t4 := t4, p0 := p0, p1 := p1, p2 := p2, p3 := p3, rv := rv, rn := rn, ring := ring, tl := tl, count := count, oc := oc, last := last, P := P, u0 := u0, u1 := u1, u2 := u2 } B F X T hk N ORD OFF RR hdp hun hc h1 h2 h3 h4 h5 h6 hl hP1 hP2 hQ ret
end

local macro_rules | `(tactic| walk_at "call ref") => `(tactic| (k_here; k_dflt (refine wpAny_call ?_; apply free_spec; walk_at "my stdn"; (iterate 2 (assumption)); ktr_room; ktr_units; (iterate 6 (walk_at "my fits")); (assumption)); intros; walk_at "my end"))
local macro_rules | `(tactic| walk_at "call ref") => `(tactic| (k_here; k_dflt (refine wpAny_call ?_; apply rows_spec; walk_at "my stdn"; (iterate 2 (assumption)); ktr_room; ktr_units; (iterate 6 (walk_at "my fits")); (assumption)); intros; walk_at "my allt"; walk_at "my win"; walk_at "my end"))
section partP6
section
variable {prog : Program} {w : World} {p : Program} {loose : List Str} {mean : ExcName → Option Value} {mg mb : Str → Option Value}
  {dp un : Nat} {gd : Option (List Code)} {cn : Str} {cs : Scope} {a : Addr} {ccd : Value} {cl : List (Str × Addr)} {outer : List Env} {A₀ : Around} {base h₀ : Heap} {L : Addr} {m : Str → Option Value} {s : Shared} {R : Result → Shared → Prop}
  (B : Below A₀ base outer h₀) (F : Fr h₀ L s.heap m) (X : (hd.heap_1 w.params).In h₀) (T : Top p loose mean mg mb h₀) (hk : cs.kind = .function)
include B F X T hk
set_option maxRecDepth 100000 in
set_option maxHeartbeats 4000000 in
theorem row_spec {bk drg rg rl dpr pr sl : Addr} {bo po so : Obj} {kr : Nat → Tok} {size most start held octets : Int} {t0 t1 t2 t3 t4 : Tok} {rv : List Value} {rn : Nat} {ring : List (Int × Int)} {tl : List (Addr × Obj)}
    (N : News h₀ L s.heap (LED bk drg rg rl dpr pr sl bo (rgD w.params kr size most start held octets t0 t1 t2 t3 t4 rl) (listOf rv.toArray rn) po so tl))
    (ORD : ordA bk drg rg rl dpr pr sl) (OFF : OwnOff tl [bk, drg, rg, rl, dpr, pr, sl])
    (RR : Rows tl rv ring)
    (hdp : dp + 3 < recursionLimit) (hun : un + 24 < cLine)
    (h3 : 0 ≤ start) (h4 : start < size) (h5 : 0 ≤ held) (h6 : size ≤ 256) (hl : (ring.length : Int) ≤ size) (hle : held ≤ size)
    (hP : ∀ k, 0 ≤ k → k < held → placeOf size start k < ring.length)
    (ret : ∀ h' tk' D c ov, Fr h₀ L h' m → News h₀ L h' ((D, { cls := .type "tuple", data := .seq #[.int size t0, .int most t1, .int octets t4, .ref c] }) :: (c, { cls := .type "tuple", data := .seq ov.toArray }) ::
        LED bk drg rg rl dpr pr sl bo (rgD w.params kr size most start held octets t0 t1 t2 t3 t4 rl) (listOf rv.toArray rn) po so tl) →
      Rows tl ov (win ring size start held.toNat) → R (.ok (.ret (.ref D))) { s with heap := h', toks := tk' }) :
    codeAny (model prog w) (ktrTop dp un gd cn cs L a ccd cl outer) (.call (.ref 121) ⟨[.ref rg], []⟩) R s := by
  have hrl := RR.length
  dsimp only [LED] at N
  k_dflt ktr_enter
  k_steps
  rename Fr _ _ _ _ => F3
  rename News _ _ _ _ => N3
  exact ret _ _ _ _ _ F3 (led_drop3 N3) (by assumption)
end
local macro_rules | `(tactic| walk_at "call ref") => `(tactic| (k_here; k_dflt (refine wpAny_call ?_; apply row_spec; walk_at "my stdn"; (iterate 2 (assumption)); ktr_room; ktr_units; (iterate 6 (walk_at "my fits")); (assumption)); intros; walk_at "my win"; walk_at "my end"))
section
variable {prog : Program} {w : World} {p : Program} {loose : List Str} {mean : ExcName → Option Value} {mg mb : Str → Option Value}
  {dp un : Nat} {gd : Option (List Code)} {cn : Str} {cs : Scope} {a : Addr} {ccd : Value} {cl : List (Str × Addr)} {outer : List Env} {A₀ : Around} {base h₀ : Heap} {L : Addr} {m : Str → Option Value} {s : Shared} {R : Result → Shared → Prop}
  (B : Below A₀ base outer h₀) (F : Fr h₀ L s.heap m) (X : (hd.heap_1 w.params).In h₀) (T : Top p loose mean mg mb h₀) (hk : cs.kind = .function)
include B F X T hk
set_option maxRecDepth 100000 in
set_option maxHeartbeats 4000000 in
theorem prow_spec {bk drg rg rl dpr pr sl : Addr} {bo so : Obj} {kr kp : Nat → Tok} {size most start held octets mt up st pd : Int} {flow ln : Bool} {t0 t1 t2 t3 t4 p0 p1 p2 p3 : Tok} {rv : List Value} {rn : Nat} {ring : List (Int × Int)} {tl : List (Addr × Obj)}
    (N : News h₀ L s.heap (LED bk drg rg rl dpr pr sl bo (rgD w.params kr size most start held octets t0 t1 t2 t3 t4 rl) (listOf rv.toArray rn) (prD w.params kp mt up st pd flow p0 p1 p2 p3 rg ln) so tl))
    (ORD : ordA bk drg rg rl dpr pr sl) (OFF : OwnOff tl [bk, drg, rg, rl, dpr, pr, sl])
    (RR : Rows tl rv ring)
    (hdp : dp + 4 < recursionLimit) (hun : un + 32 < cLine)
    (h3 : 0 ≤ start) (h4 : start < size) (h5 : 0 ≤ held) (h6 : size ≤ 256) (hl : (ring.length : Int) ≤ size) (hle : held ≤ size)
    (hP : ∀ k, 0 ≤ k → k < held → placeOf size start k < ring.length)
    (ret : ∀ h' tk' G D c ov, Fr h₀ L h' m → News h₀ L h' ((G, { cls := .type "tuple", data := .seq #[.int mt p0, .int up p1, .int st p2, .int pd p3, .bool false, .bool flow, .bool ln, .ref D] }) ::
        (D, { cls := .type "tuple", data := .seq #[.int size t0, .int most t1, .int octets t4, .ref c] }) :: (c, { cls := .type "tuple", data := .seq ov.toArray }) ::
        LED bk drg rg rl dpr pr sl bo (rgD w.params kr size most start held octets t0 t1 t2 t3 t4 rl) (listOf rv.toArray rn) (prD w.params kp mt up st pd flow p0 p1 p2 p3 rg ln) so tl) →
      Rows tl ov (win ring size start held.toNat) → R (.ok (.ret (.ref G))) { s with heap := h', toks := tk' }) :
    codeAny (model prog w) (ktrTop dp un gd cn cs L a ccd cl outer) (.call (.ref 205) ⟨[.ref pr], []⟩) R s := by
  dsimp only [LED] at N
  k_dflt ktr_enter
  k_steps
  rename Fr _ _ _ _ => F3
  rename News _ _ _ _ => N3
  exact ret _ _ _ _ _ _ F3 N3 (by assumption)
end

end partP6
local macro_rules | `(tactic| walk_at "my val") => `(tactic| first | with_reducible exact bkV_size | with_reducible exact bkV_most | with_reducible exact bkV_match | with_reducible exact bkV_upto | with_reducible exact bkV_state | with_reducible exact bkV_pending | with_reducible exact bkV_paused | with_reducible exact bkV_learner | with_reducible exact bkV_sent | with_reducible exact bkV_weight | with_reducible exact bkV_run | with_reducible exact bkV_peak | with_reducible exact bkV_scale)
local macro_rules | `(tactic| walk_at "my stored") => `(tactic| first | with_reducible exact bkS_match | with_reducible exact bkS_upto | with_reducible exact bkS_state | with_reducible exact bkS_pending | with_reducible exact bkS_weight | with_reducible exact bkS_run | with_reducible exact bkS_peak | with_reducible exact bkS_paused | with_reducible exact bkS_sent)
local macro_rules | `(tactic| walk_at "subscriptTail") => `(tactic| (k_here; (with_reducible show wpAny _ _ (subscriptTail _ _ (Value.ref _) (Value.str _ _)) _ _ _); k_dflt (refine' kda_item (knd := PySem.strKind _ _) ?k1 ?k2 ?k3 (strKind_is _ _ _ _) ?k4 ?_ ?k5 ?k6; (case k1 => k_asm); (case k2 => k_mem); (case k3 => k_asm); (case k4 => walk_at "my val"); (case k5 => with_unfolding_all rfl); (case k6 => (intro _; with_unfolding_all rfl)))))
local macro_rules | `(tactic| walk_at "getItem ref str") => `(tactic| (k_here; (with_reducible show wpAny _ _ (getItem (Value.ref _) (Value.str _ _)) _ _ _); k_dflt (refine' bk_get ?k1 ?k2 ?k3 ?k4 ?_; (case k1 => k_asm); (case k2 => k_mem); (case k3 => k_asm); (case k4 => walk_at "my val"))))
local macro_rules | `(tactic| walk_at "setItem ref str") => `(tactic| (k_here; k_dflt (refine' bk_set ?F ?N ?U ?d ?z ?e ?_; (case F => k_asm); (case N => k_asm); (case U => k_updF); (case d => k_asm); (case z => with_reducible exact bkV_length); (case e => walk_at "my stored")); intro h' o' F' N' hd'; (try dsimp only at N'); (try k_sweep)))
section
variable {prog : Program} {w : World} {p : Program} {loose : List Str} {mean : ExcName → Option Value} {mg mb : Str → Option Value}
  {dp un : Nat} {gd : Option (List Code)} {cn : Str} {cs : Scope} {a : Addr} {ccd : Value} {cl : List (Str × Addr)} {outer : List Env} {A₀ : Around} {base h₀ : Heap} {L : Addr} {m : Str → Option Value} {s : Shared} {R : Result → Shared → Prop}
  (B : Below A₀ base outer h₀) (F : Fr h₀ L s.heap m) (X : (hd.heap_1 w.params).In h₀) (T : Top p loose mean mg mb h₀) (hk : cs.kind = .function)
include B F X T hk
set_option maxRecDepth 100000 in
set_option maxHeartbeats 4000000 in
theorem paused_spec {pr dpr rg : Addr} {news : List (Addr × Obj)} {kp : Nat → Tok} {mt up st pd : Int} {flow ln : Bool} {p0 p1 p2 p3 : Tok} (N : News h₀ L s.heap news)
    (m1 : (pr, instObj 208 dpr) ∈ news) (m2 : (dpr, prD w.params kp mt up st pd flow p0 p1 p2 p3 rg ln) ∈ news)
    (hdp : dp + 1 < recursionLimit) (hun : un + 8 < cLine) (hst : st = 0 ∨ st = 1 ∨ st = 2)
    (ret : ∀ h' tk', Fr h₀ L h' m → News h₀ L h' news → R (.ok (.ret (.bool (decide (st = 2) || flow)))) { s with heap := h', toks := tk' }) :
    codeAny (model prog w) (ktrTop dp un gd cn cs L a ccd cl outer) (.call (.ref 191) ⟨[.ref pr], []⟩) R s := by
  k_dflt ktr_enter
  k_steps
  all_goals first | (exfalso; omega) | exact ret_bool (ret _ _ (by k_asm) (by k_asm)) (by walk_at "my bool")
set_option maxRecDepth 100000 in
set_option maxHeartbeats 4000000 in
theorem lfull_spec {bk sl : Addr} {bo : Obj} {news : List (Addr × Obj)} {size most mt up st pd wt run pk sc : Int} {pa ln : Bool} {t0 t1 t2 t3 t4 t5 t6 t7 t8 t9 : Tok} {sv : List Value} {sn : Nat} (N : News h₀ L s.heap news)
    (m1 : (bk, bo) ∈ news) (m2 : (sl, listOf sv.toArray sn) ∈ news) (HB : bo.IsDictOf (PySem.strKind prog w) (bkV size most mt up st pd pa ln sl wt run pk sc t0 t1 t2 t3 t4 t5 t6 t7 t8 t9))
    (hdp : dp + 1 < recursionLimit) (hun : un + 8 < cLine) (hsv : sv.length ≤ 256)
    (ret : ∀ h' tk', Fr h₀ L h' m → News h₀ L h' news → R (.ok (.ret (.bool (decide (size ≤ sv.length) || (decide (0 < most) && decide (most ≤ wt)))))) { s with heap := h', toks := tk' }) :
    codeAny (model prog w) (ktrTop dp un gd cn cs L a ccd cl outer) (.call (.ref 226) ⟨[.ref bk], []⟩) R s := by
  k_dflt ktr_enter
  k_steps
  all_goals exact ret_bool (ret _ _ (by k_asm) (by k_asm)) (by walk_at "my bool")
end

noncomputable def dbl (pk : Int) : Nat → Int → Int
  | 0, l => l
  | n + 1, l => if l < pk then dbl pk n (2 * l) else l
theorem dbl_done {pk l : Int} (h : ¬ l < pk) (n : Nat) : dbl pk n l = l := by
  cases n with
  | zero => rfl
  | succ n => simp only [dbl, if_neg h]
theorem dbl_step {pk l : Int} (h : l < pk) {n : Nat} (hn : 0 < n) : dbl pk (n - 1) (2 * l) = dbl pk n l := by
  cases n with
  | zero => omega
  | succ n => simp only [dbl, if_pos h]; rfl
/-- as long as the doubling that bears the most -/
noncomputable def longOf (pk size : Int) : Int := if pk = 0 then 0 else min (dbl pk pk.toNat 1) size
section
variable {prog : Program} {w : World} {p : Program} {loose : List Str} {mean : ExcName → Option Value} {mg mb : Str → Option Value}
  {dp un : Nat} {gd : Option (List Code)} {cn : Str} {cs : Scope} {a : Addr} {ccd : Value} {cl : List (Str × Addr)} {outer : List Env} {A₀ : Around} {base h₀ : Heap} {L : Addr} {m : Str → Option Value} {s : Shared} {R : Result → Shared → Prop}
  (B : Below A₀ base outer h₀) (F : Fr h₀ L s.heap m) (X : (hd.heap_1 w.params).In h₀) (T : Top p loose mean mg mb h₀) (hk : cs.kind = .function)
include B F X T hk
set_option maxRecDepth 100000 in
set_option maxHeartbeats 4000000 in
theorem long_spec {bk sl : Addr} {bo : Obj} {news : List (Addr × Obj)} {size most mt up st pd wt run pk sc : Int} {pa ln : Bool} {t0 t1 t2 t3 t4 t5 t6 t7 t8 t9 : Tok} (N : News h₀ L s.heap news)
    (m1 : (bk, bo) ∈ news) (HB : bo.IsDictOf (PySem.strKind prog w) (bkV size most mt up st pd pa ln sl wt run pk sc t0 t1 t2 t3 t4 t5 t6 t7 t8 t9))
    (hdp : dp + 1 < recursionLimit) (hun : un + 8 < cLine) (hp1 : 0 ≤ pk) (hp2 : pk ≤ 4096)
    (ret : ∀ h' tk' t', Fr h₀ L h' m → News h₀ L h' news → R (.ok (.ret (.int (longOf pk size) t'))) { s with heap := h', toks := tk' }) :
    codeAny (model prog w) (ktrTop dp un gd cn cs L a ccd cl outer) (.call (.ref 233) ⟨[.ref bk], []⟩) R s := by
  k_dflt ktr_enter
  k_steps
  · refine ret_int (ret _ _ _ (by k_asm) (by k_asm)) ?_
    unfold longOf
    rw [if_pos (by assumption)]
  · refine Halt.out ?_
    rename Fr _ _ _ _ => F1
    rename News _ _ _ _ => N1
    have F2 := know (know F1 (Str.ofString "long") _ rfl) (Str.ofString "book") _ rfl
    refine While_ret (fun n m₁ news₁ => ∃ (l : Int) (tl : Tok), ∃ u : Str → Option Value, news₁ = news ∧
      m₁ = (fun y => if y = Str.ofString "book" then some (Value.ref bk) else if y = Str.ofString "long" then some (Value.int l tl) else u y) ∧ 1 ≤ l ∧ l ≤ 8192 ∧ pk ≤ l + n ∧ dbl pk n l = dbl pk pk.toNat 1) (n₀ := pk.toNat) F2 N1 ?_ ?_
    · exact ⟨1, _, _, rfl, rfl, by omega, by omega, by omega, rfl⟩
    · rintro n m₁ news₁ h₁ tk₁ F₁ N₁ ⟨l, tl, u, rfl, rfl, l1, l2, l3, l4⟩
      k_steps
      · rename Fr _ _ _ _ => F3
        rename News _ _ _ _ => N3
        have hn : 0 < n := by omega
        exact WhileStep.intro (n' := n - 1) (know (know F3 (Str.ofString "long") _ rfl) (Str.ofString "book") _ rfl) N3 (by omega) ⟨_, _, _, rfl, rfl, by omega, by omega, by omega, (dbl_step (by assumption) hn).trans l4⟩
      · refine ret_int (ret _ _ _ (by k_asm) (by k_asm)) ?_
        unfold longOf
        rw [if_neg (by assumption), ← l4, dbl_done (by assumption)]
end

/-- what holds of the ring, and of the law's book, together -/
structure Inv (size most start held oct up run pk sc : Int) (ring sent : List (Int × Int)) : Prop where
  s1 : 6 ≤ size
  s2 : size ≤ 256
  m0 : 0 ≤ most
  st0 : 0 ≤ start
  st1 : start < size
  hd0 : held = (sent.length : Int)
  hd1 : held ≤ size
  rl : (ring.length : Int) = longOf pk size
  wn : win ring size start held.toNat = sent
  oc : oct = (sent.map (·.2)).sum
  ob : ∀ r ∈ sent, 0 ≤ r.2 ∧ r.2 ≤ 4 * sc
  sc1 : 1 ≤ sc
  sc2 : sc ≤ 1048576
  so : sent.Pairwise (fun a b => a.1 < b.1)
  ub : ∀ r ∈ sent, r.1 < up
  rn0 : held ≤ run
  rn1 : run ≤ pk
  rs : start = (run - held) % size
theorem scale_bd {a sc : Int} (h : 0 ≤ sc) : 0 ≤ a.fmod 5 * sc ∧ a.fmod 5 * sc ≤ 4 * sc := by
  have h1 : 0 ≤ a.fmod 5 := Int.fmod_nonneg_of_pos a (by decide)
  have h2 : a.fmod 5 < 5 := Int.fmod_lt_of_pos a (by decide)
  exact ⟨Int.mul_nonneg h1 h, Int.mul_le_mul_of_nonneg_right (by omega) h⟩
theorem fmod3 (a : Int) : 0 ≤ a.fmod 3 := Int.fmod_nonneg_of_pos a (by decide)
/-- the doubling bears the most -/
theorem dbl_ge {pk : Int} : ∀ {n : Nat} {l : Int}, 1 ≤ l → pk ≤ l + n → pk ≤ dbl pk n l ∧ 1 ≤ dbl pk n l
  | 0, l, h, hp => ⟨by simpa [dbl] using hp, by simpa [dbl] using h⟩
  | n + 1, l, h, hp => by
    unfold dbl
    split
    · exact dbl_ge (by omega) (by omega)
    · omega
/-- one more: the same where it is borne, twice where it is met -/
theorem dbl_next {pk : Int} : ∀ {n : Nat} {l : Int}, 1 ≤ l → pk ≤ l + n → l ≤ pk → dbl (pk + 1) (n + 1) l = if dbl pk n l = pk then 2 * pk else dbl pk n l
  | 0, l, h, hp, hl => by
    have : l = pk := by omega
    subst this
    simp [dbl, show l < l + 1 by omega]
  | n + 1, l, h, hp, hl => by
    by_cases hq : l < pk
    · rw [show dbl (pk + 1) (n + 1 + 1) l = dbl (pk + 1) (n + 1) (2 * l) by conv => lhs; unfold dbl; rw [if_pos (by omega)]]
      rw [show dbl pk (n + 1) l = dbl pk n (2 * l) by conv => lhs; unfold dbl; rw [if_pos hq]]
      by_cases hr : 2 * l ≤ pk
      · exact dbl_next (by omega) (by omega) hr
      · rw [dbl_done (by omega), dbl_done (by omega), if_neg (by omega)]
    · have : l = pk := by omega
      subst this
      rw [dbl_done (pk := l) (by omega), if_pos rfl]
      unfold dbl
      rw [if_pos (by omega), dbl_done (by omega)]
theorem longOf_zero (size : Int) : longOf 0 size = 0 := if_pos rfl
theorem longOf_pos {pk size : Int} (h : 1 ≤ pk) (hs : 6 ≤ size) : ∃ d, longOf pk size = min d size ∧ pk ≤ d ∧ 1 ≤ d ∧ d = dbl pk pk.toNat 1 := by
  have q := dbl_ge (pk := pk) (n := pk.toNat) (l := 1) (by omega) (by omega)
  exact ⟨_, if_neg (by omega), q.1, q.2, rfl⟩
theorem longOf_next {pk size : Int} (h : 0 ≤ pk) (hs : 6 ≤ size) : longOf (pk + 1) size = if longOf pk size = pk then min (if pk = 0 then 1 else 2 * pk) size else longOf pk size := by
  by_cases h0 : pk = 0
  · subst h0
    rw [longOf_zero, if_pos rfl, if_pos rfl]
    unfold longOf
    rw [if_neg (by omega), dbl_done (by omega)]
  · have q := dbl_next (pk := pk) (n := pk.toNat) (l := 1) (by omega) (by omega) (by omega)
    have e : (pk + 1).toNat = pk.toNat + 1 := by omega
    have g := dbl_ge (pk := pk) (n := pk.toNat) (l := 1) (by omega) (by omega)
    unfold longOf
    rw [if_neg (by omega), if_neg h0, if_neg h0, e, q]
    split <;> split <;> omega
theorem longOf_grow {pk size : Int} {n : Nat} (h : 0 ≤ pk) (hs : 6 ≤ size) (e : (n : Int) = longOf pk size) (hn : (n : Int) = pk) : growTo n size = longOf (pk + 1) size := by
  rw [longOf_next h hs, if_pos (by omega)]
  unfold growTo
  split <;> split <;> omega
section
variable {size most start held oct up run pk sc : Int} {ring sent : List (Int × Int)}
theorem longOf_le (h0 : 0 ≤ pk) (h : 6 ≤ size) : longOf pk size ≤ size := by
  unfold longOf
  split <;> omega
/-- without the wrap, or long enough -/
theorem Inv.cases (I : Inv size most start held oct up run pk sc ring sent) : 0 ≤ held ∧ ((ring.length : Int) = size ∨ (pk ≤ ring.length ∧ run < size ∧ (ring.length : Int) < size ∧ start = run - held)) := by
  have h1 := I.s1
  have h2 := I.hd0
  have h3 := I.rn0
  have h4 := I.rn1
  have h5 := I.rl
  have h6 := I.rs
  refine ⟨by omega, ?_⟩
  by_cases h0 : pk = 0
  · subst h0
    rw [longOf_zero] at h5
    refine .inr ⟨by omega, by omega, by omega, ?_⟩
    rw [h6]
    exact Int.emod_eq_of_lt (by omega) (by omega)
  · obtain ⟨d, e, g1, g2, _⟩ := longOf_pos (pk := pk) (size := size) (by omega) h1
    rw [e] at h5
    by_cases hd : size ≤ d
    · exact .inl (by omega)
    · refine .inr ⟨by omega, by omega, by omega, ?_⟩
      rw [h6]
      exact Int.emod_eq_of_lt (by omega) (by omega)
theorem Inv.places (I : Inv size most start held oct up run pk sc ring sent) (hp : pk ≤ 900) : ∀ k, 0 ≤ k → k < held → placeOf size start k < ring.length := by
  intro k hk0 hk1
  have h1 := I.st0
  have h2 := I.st1
  have h3 := I.hd1
  have h4 := I.rn1
  obtain ⟨_, h | h⟩ := I.cases <;> (unfold placeOf; split <;> omega)
theorem Inv.next (I : Inv size most start held oct up run pk sc ring sent) (hp : pk ≤ 900) (h : held < size) : placeOf size start held < ring.length ∨ placeOf size start held < growTo ring.length size := by
  have h1 := I.st0
  have h2 := I.st1
  have h3 := I.hd1
  have h4 := I.rn1
  have h5 := I.s1
  obtain ⟨_, h | h⟩ := I.cases
  · left; unfold placeOf; split <;> omega
  · have : placeOf size start held = run := by unfold placeOf; split <;> omega
    rw [this]
    by_cases hr : run < ring.length
    · exact .inl hr
    · right
      unfold growTo
      split <;> omega
theorem Inv.len (I : Inv size most start held oct up run pk sc ring sent) : (ring.length : Int) ≤ size := by
  rw [I.rl]
  have h2 := I.hd0
  have h3 := I.rn0
  have h4 := I.rn1
  exact longOf_le (by omega) I.s1
theorem sum_bd {sc : Int} : ∀ {l : List (Int × Int)}, (∀ r ∈ l, 0 ≤ r.2 ∧ r.2 ≤ 4 * sc) → sc ≤ 1048576 → 0 ≤ (l.map (·.2)).sum ∧ (l.map (·.2)).sum ≤ 4194304 * (l.length : Int)
  | [], _, _ => by simp
  | r :: l, h, hs => by
    have q := sum_bd (l := l) (fun r hr => h r (.tail _ hr)) hs
    have g := h r (.head _)
    simp only [List.map_cons, List.sum_cons, List.length_cons]
    omega
theorem Inv.octB (I : Inv size most start held oct up run pk sc ring sent) : 0 ≤ oct ∧ oct < 9999999999 := by
  have q := sum_bd I.ob I.sc2
  have h1 := I.oc
  have h2 := I.hd0
  have h3 := I.hd1
  have h4 := I.s2
  omega
theorem win_congr {r1 r2 : List (Int × Int)} {size start : Int} {n : Nat} (h : ∀ i : Nat, i < n → r1.getD (placeOf size start i).toNat (0, 0) = r2.getD (placeOf size start i).toNat (0, 0)) : win r1 size start n = win r2 size start n := by
  unfold win
  exact List.map_congr_left fun i hi => h i (List.mem_range.mp hi)
theorem getD_set_ne {l : List (Int × Int)} {i j : Nat} {x : Int × Int} (h : i ≠ j) : (l.set i x).getD j (0, 0) = l.getD j (0, 0) := by
  simp [List.getD, h]
theorem getD_set_eq {l : List (Int × Int)} {i : Nat} {x : Int × Int} (h : i < l.length) : (l.set i x).getD i (0, 0) = x := by
  simp [List.getD, h]
theorem getD_app {l m : List (Int × Int)} {i : Nat} (h : i < l.length) : (l ++ m).getD i (0, 0) = l.getD i (0, 0) := by
  simp [List.getD, List.getElem?_append_left h]
theorem addRing_length {ring : List (Int × Int)} {size P : Int} {x : Int × Int} : (addRing ring size P x).length = if P < ring.length then ring.length else ring.length + ((growTo ring.length size).toNat - ring.length) := by
  unfold addRing
  split <;> simp
theorem Inv.add (I : Inv size most start held oct up run pk sc ring sent) (hp : pk ≤ 900) (h : held < size) {P last o : Int} (hP : placeOf size start held = P) (hl : up ≤ last) (h0 : 0 ≤ o) (h4 : o ≤ 4 * sc) :
    Inv size most start (held + 1) (oct + o) (last + 1) (run + 1) (max pk (run + 1)) sc (addRing ring size P (last, o)) (sent ++ [(last, o)]) := by
  have s1 := I.s1
  have st0 := I.st0
  have st1 := I.st1
  have hd0 := I.hd0
  have rn0 := I.rn0
  have rn1 := I.rn1
  have hnx := I.next hp h
  have hpl := I.places hp
  have hrl := I.rl
  have hc := I.cases
  have hgt : growTo ring.length size ≤ size := by unfold growTo; omega
  have hP0 : 0 ≤ P := by rw [← hP]; unfold placeOf; split <;> omega
  rw [hP] at hnx
  have hlen : ((addRing ring size P (last, o)).length : Int) = longOf (max pk (run + 1)) size := by
    rw [addRing_length]
    by_cases hr : run + 1 ≤ pk
    · rw [show max pk (run + 1) = pk by omega, ← hrl]
      have : P < ring.length := by
        rcases hc.2 with q | q
        · rw [← hP]; unfold placeOf; split <;> omega
        · rw [← hP]; unfold placeOf; split <;> omega
      rw [if_pos this]
    · have e : run = pk := by omega
      subst e
      rw [show max run (run + 1) = run + 1 by omega]
      by_cases hq : P < ring.length
      · rw [if_pos hq, longOf_next (by omega) s1, ← hrl]
        split
        · rename_i hx
          rcases hc.2 with q | q
          · split <;> omega
          · exfalso
            rw [← hP] at hq; unfold placeOf at hq; split at hq <;> omega
        · rfl
      · rw [if_neg hq]
        have hx : (ring.length : Int) = run := by
          rcases hc.2 with q | q
          · exfalso; rw [← hP] at hq; unfold placeOf at hq; split at hq <;> omega
          · rw [← hP] at hq; unfold placeOf at hq; split at hq <;> omega
        rw [← longOf_grow (n := ring.length) (by omega) s1 hrl hx]
        unfold growTo at *
        omega
  have hPl : P.toNat < (if P < ring.length then ring else ring ++ List.replicate ((growTo ring.length size).toNat - ring.length) (0, 0)).length := by
    split
    · omega
    · simp; omega
  refine { s1 := s1, s2 := I.s2, m0 := I.m0, st0 := st0, st1 := st1, hd0 := ?_, hd1 := by omega, rl := hlen, wn := ?_, oc := ?_, ob := ?_, sc1 := I.sc1, sc2 := I.sc2, so := ?_, ub := ?_, rn0 := by omega, rn1 := by omega, rs := ?_ }
  · simp; omega
  · rw [show (held + 1).toNat = held.toNat + 1 by omega, win_succ, show ((held.toNat : Nat) : Int) = held by omega, hP]
    have e2 : (addRing ring size P (last, o)).getD P.toNat (0, 0) = (last, o) := getD_set_eq hPl
    rw [e2]
    congr 1
    rw [← I.wn]
    refine win_congr fun i hi => ?_
    clear hlen hc hnx hgt hrl e2 hl h0 h4 hp rn0 rn1
    have q := hpl i (by omega) (by omega)
    clear hpl
    have n1 : P.toNat ≠ (placeOf size start (i : Int)).toNat := by
      rw [← hP]
      unfold placeOf
      split <;> split <;> omega
    have n2 : 0 ≤ placeOf size start (i : Int) := by unfold placeOf; split <;> omega
    unfold addRing
    rw [getD_set_ne n1]
    split
    · rfl
    · exact getD_app (by omega)
  · simp [I.oc]
  · intro r hr
    rcases List.mem_append.mp hr with hr | hr
    · exact I.ob r hr
    · rw [List.mem_singleton.mp hr]; exact ⟨h0, h4⟩
  · rw [List.pairwise_append]
    refine ⟨I.so, by simp, fun a ha b hb => ?_⟩
    rw [List.mem_singleton.mp hb]
    have := I.ub a ha
    show a.1 < last
    omega
  · intro r hr
    rcases List.mem_append.mp hr with hr | hr
    · have := I.ub r hr; omega
    · rw [List.mem_singleton.mp hr]; show last < last + 1; omega
  · rw [show run + 1 - (held + 1) = run - held by omega]; exact I.rs
theorem win_head {ring : List (Int × Int)} {size start : Int} {k : Nat} (h0 : 0 ≤ start) (h1 : start < size) (hk : (k : Int) < size) :
    win ring size start (k + 1) = ring.getD start.toNat (0, 0) :: win ring size (if size ≤ start + 1 then 0 else start + 1) k := by
  unfold win
  rw [List.range_succ_eq_map, List.map_cons, List.map_map]
  refine List.cons_eq_cons.mpr ⟨?_, ?_⟩
  · rw [show (placeOf size start ((0 : Nat) : Int)).toNat = start.toNat by unfold placeOf; split <;> omega]
  · refine List.map_congr_left fun i hi => ?_
    have hi := List.mem_range.mp hi
    show ring.getD (placeOf size start ((i + 1 : Nat) : Int)).toNat (0, 0) = _
    rw [show placeOf size start ((i + 1 : Nat) : Int) = placeOf size (if size ≤ start + 1 then 0 else start + 1) (i : Int) by unfold placeOf; split <;> split <;> split <;> omega]
theorem filter_all {n : Int} {l : List (Int × Int)} (h : ∀ r ∈ l, n < r.1) : (l.filter fun r => decide (n < r.1)) = l := List.filter_eq_self.mpr fun r hr => decide_eq_true (h r hr)
theorem freeRun_spec {size n : Int} (hs : 1 ≤ size) : ∀ (k : Nat) (ring : List (Int × Int)) (start oc : Int) (sent : List (Int × Int)), win ring size start k = sent → 0 ≤ start → start < size → (k : Int) ≤ size →
    (∀ j : Int, 0 ≤ j → j < k → placeOf size start j < ring.length) → sent.Pairwise (fun a b => a.1 < b.1) → ∀ ring' start' held' oc', freeRun size n k ring start oc = (ring', start', held', oc') →
    ring'.length = ring.length ∧ held' = ((sent.filter fun r => decide (n < r.1)).length : Int) ∧ oc' = oc - (sent.map (·.2)).sum + ((sent.filter fun r => decide (n < r.1)).map (·.2)).sum ∧
    win ring' size start' held'.toNat = (sent.filter fun r => decide (n < r.1)) ∧ 0 ≤ start' ∧ start' < size ∧ held' ≤ k ∧ (held' = 0 → start' = 0) ∧ (held' ≠ 0 → start' = (start + (k - held')) % size)
  | 0, ring, start, oc, sent, hw, h0, h1, hk, hp, hso, ring', start', held', oc', E => by
    have e : sent = [] := by rw [← hw]; rfl
    subst e
    simp only [freeRun, Prod.mk.injEq] at E
    obtain ⟨rfl, rfl, rfl, rfl⟩ := E
    refine ⟨rfl, rfl, by simp, rfl, by omega, by omega, by omega, fun _ => rfl, fun h => absurd rfl h⟩
  | k + 1, ring, start, oc, sent, hw, h0, h1, hk, hp, hso, ring', start', held', oc', E => by
    have hh := win_head (ring := ring) (k := k) h0 h1 (by omega)
    rw [hw] at hh
    unfold freeRun at E
    generalize hr : ring.getD start.toNat (0, 0) = r at hh E
    subst hh
    rw [List.pairwise_cons] at hso
    split at E
    · rename_i hn
      simp only [Prod.mk.injEq] at E
      obtain ⟨rfl, rfl, rfl, rfl⟩ := E
      rw [filter_all (n := n) (l := r :: win ring size (if size ≤ start + 1 then 0 else start + 1) k) (by
        intro q hq
        rcases List.mem_cons.mp hq with rfl | hq
        · exact hn
        · have := hso.1 q hq; omega)]
      refine ⟨rfl, by rw [List.length_cons, win_length]; omega, by omega, ?_, by omega, by omega, by omega, by omega, fun _ => ?_⟩
      · rw [show ((k : Int) + 1).toNat = k + 1 by omega]; exact hw
      · rw [show start + (((k + 1 : Nat) : Int) - ((k : Int) + 1)) = start by omega]
        exact (Int.emod_eq_of_lt h0 h1).symm
    · rename_i hn
      have hw2 : win (ring.set start.toNat (0, 0)) size (if size ≤ start + 1 then 0 else start + 1) k = win ring size (if size ≤ start + 1 then 0 else start + 1) k := by
        refine win_congr fun i hi => ?_
        refine getD_set_ne ?_
        unfold placeOf
        split <;> split <;> omega
      have ih := freeRun_spec (n := n) hs k (ring.set start.toNat (0, 0)) (if size ≤ start + 1 then 0 else start + 1) (oc - r.2) _ hw2 (by split <;> omega) (by split <;> omega) (by omega) ?_ hso.2 ring' start' held' oc' E
      · obtain ⟨a1, a2, a3, a4, a5, a6, a7, a8, a9⟩ := ih
        rw [List.filter_cons_of_neg (by simpa using hn)]
        refine ⟨by simpa using a1, a2, ?_, a4, a5, a6, by omega, a8, fun h => ?_⟩
        · rw [List.map_cons, List.sum_cons, a3]; omega
        · rw [a9 h]
          split
          · rename_i hq
            rw [show start + (((k + 1 : Nat) : Int) - held') = (0 + ((k : Int) - held')) + size by omega, Int.add_emod_right]
          · rw [show start + (((k + 1 : Nat) : Int) - held') = (start + 1 + ((k : Int) - held')) by omega]
      · intro j hj0 hj1
        have q := hp (j + 1) (by omega) (by omega)
        rw [List.length_set]
        unfold placeOf at *
        split at q <;> split <;> split <;> omega
theorem Inv.free (I : Inv size most start held oct up run pk sc ring sent) (hp : pk ≤ 900) {n : Int} {ring' : List (Int × Int)} {start' held' oct' : Int} (E : freeRun size n held.toNat ring start oct = (ring', start', held', oct')) {up' : Int} (hu : up ≤ up') :
    Inv size most start' held' oct' up' (if (sent.filter fun r => decide (n < r.1)).length = 0 then 0 else run) pk sc ring' (sent.filter fun r => decide (n < r.1)) := by
  have s1 := I.s1
  have hd0 := I.hd0
  have hd1 := I.hd1
  have rn0 := I.rn0
  have rn1 := I.rn1
  have hpl := I.places hp
  obtain ⟨a1, a2, a3, a4, a5, a6, a7, a8, a9⟩ := freeRun_spec (by omega) held.toNat ring start oct sent I.wn I.st0 I.st1 (by omega) (fun j h0 h1 => hpl j h0 (by omega)) I.so ring' start' held' oct' E
  have hsub : ∀ r ∈ sent.filter (fun r => decide (n < r.1)), r ∈ sent := fun r hr => (List.mem_filter.mp hr).1
  refine { s1 := s1, s2 := I.s2, m0 := I.m0, st0 := a5, st1 := a6, hd0 := a2, hd1 := by omega, rl := by rw [a1]; exact I.rl, wn := a4, oc := ?_, ob := fun r hr => I.ob r (hsub r hr), sc1 := I.sc1, sc2 := I.sc2, so := I.so.sublist List.filter_sublist, ub := fun r hr => (by have := I.ub r (hsub r hr); omega), rn0 := ?_, rn1 := ?_, rs := ?_ }
  · have := I.oc
    omega
  · split <;> omega
  · split <;> omega
  · split
    · rename_i h
      rw [a8 (by omega), show held' = 0 by omega]
      simp
    · rename_i h
      rw [a9 (by omega), I.rs, show ((held.toNat : Nat) : Int) = held by omega, Int.emod_add_emod]
      congr 1
      omega
theorem Inv.upTo (I : Inv size most start held oct up run pk sc ring sent) {up' run' : Int} (hu : up ≤ up') (hr : run = run') : Inv size most start held oct up' run' pk sc ring sent := by
  subst hr
  exact { I with ub := fun r hr => by have := I.ub r hr; omega }
theorem Inv.empty (I : Inv size most start held oct up run pk sc ring sent) (up' : Int) : Inv size most 0 0 0 up' 0 pk sc ring [] where
  s1 := I.s1
  s2 := I.s2
  m0 := I.m0
  st0 := Int.le_refl 0
  st1 := by have := I.s1; omega
  hd0 := rfl
  hd1 := by have := I.s1; omega
  rl := I.rl
  wn := rfl
  oc := rfl
  ob := fun r hr => nomatch hr
  sc1 := I.sc1
  sc2 := I.sc2
  so := .nil
  ub := fun r hr => nomatch hr
  rn0 := Int.le_refl 0
  rn1 := by have := I.rn0; have := I.rn1; have := I.hd0; omega
  rs := by simp
end

theorem execs_cutW {M : Model} {Γ : Ctx} {env : Env} {J : Shared → Prop} {Ex : Value → Pos → Shared → Prop} {Q' : Flow → Pos → Shared → Prop} {l2 : List Stmt} (h2 : ∀ p s', J s' → Sem.wp M Γ (execs l2 env) Q' Ex p s') :
    ∀ (l1 : List Stmt) p s, Sem.wp M Γ (execs l1 env) (fun f _ s' => f = .next ∧ J s') Ex p s → Sem.wp M Γ (execs (l1 ++ l2) env) Q' Ex p s
  | [], p, s, h => h2 p s (show Flow.next = Flow.next ∧ J s from h).2
  | st :: l1, p, s, h => by
    rw [List.cons_append, execs_cons, Sem.wp_bind']
    rw [execs_cons, Sem.wp_bind'] at h
    refine Sem.wp_mono M Γ _ (fun f p' s' h' => ?_) (fun _ _ _ h' => h') _ _ h
    cases f with
    | next => exact execs_cutW h2 l1 p' s' h'
    | ret v => cases (show Flow.ret v = Flow.next ∧ J s' from h').1
    | brk => cases (show Flow.brk = Flow.next ∧ J s' from h').1
    | cont => cases (show Flow.cont = Flow.next ∧ J s' from h').1
theorem execs_cut {M : Model} {A : Around} {env : Env} {E : Value → Shared → Prop} {Q : Flow → Shared → Prop} {s : Shared} {l : List Stmt} {h₀ h : Heap} {L : Addr} {m : Str → Option Value} (_F : Fr h₀ L h m) (n : Nat) (J : Heap → Addr → Shared → Shared → Prop)
    (h1 : wpAny M A (execs (l.take n) env) (fun f s' => f = .next ∧ J h₀ L s s') E s) (h2 : ∀ s', J h₀ L s s' → wpAny M A (execs (l.drop n) env) Q E s') : wpAny M A (execs l env) Q E s := by
  intro Γ p hΓ
  rw [← List.take_append_drop n l]
  exact execs_cutW (fun p s' j => h2 s' j Γ p hΓ) _ p s (h1 Γ p hΓ)
/-- the numbers are there -/
inductive LJ1 (h₀ : Heap) (L : Addr) (s s' : Shared) : Prop
  | mk (h' : Heap) (tk : Nat) (nl : Addr) (nv : List Value) (nn : Nat) (ns : List Int) (x : Int) (t : Tok) (u : Str → Option Value) : s' = { s with heap := h', toks := tk } →
    Fr h₀ L h' (fun z => if z = Str.ofString "nums" then some (Value.ref nl) else if z = Str.ofString "x" then some (Value.int x t) else u z) →
    News h₀ L h' [(nl, listOf nv.toArray nn)] →
    IntsAre nv ns →
    0 < ns.length →
    ns.length ≤ 10 →
    (∀ v ∈ ns, 0 ≤ v ∧ v ≤ 999982) →
    0 ≤ x →
    x ≤ 999982 → LJ1 h₀ L s s'
inductive LJ2 (h₀ : Heap) (L : Addr) (s s' : Shared) : Prop
  | mk (h' : Heap) (tk : Nat) (nl : Addr) (nv : List Value) (nn : Nat) (ns : List Int) (x : Int) (t : Tok) (M : Int) (t1 : Tok) (sc : Int) (t2 : Tok) (u : Str → Option Value) : s' = { s with heap := h', toks := tk } →
    Fr h₀ L h' (fun z => if z = Str.ofString "nums" then some (Value.ref nl) else if z = Str.ofString "x" then some (Value.int x t) else if z = Str.ofString "most" then some (Value.int M t1) else if z = Str.ofString "scale" then some (Value.int sc t2) else u z) →
    News h₀ L h' [(nl, listOf nv.toArray nn)] →
    IntsAre nv ns →
    0 < ns.length →
    ns.length ≤ 10 →
    (∀ v ∈ ns, 0 ≤ v ∧ v ≤ 999982) →
    0 ≤ x →
    x ≤ 999982 →
    M = 0 →
    1 ≤ sc →
    sc ≤ 1048576 → LJ2 h₀ L s s'
inductive LJ3 (h₀ : Heap) (L : Addr) (s s' : Shared) : Prop
  | mk (h' : Heap) (tk : Nat) (nl : Addr) (nv : List Value) (nn : Nat) (ns : List Int) (x : Int) (t : Tok) (M : Int) (t1 : Tok) (sc : Int) (t2 : Tok) (mt : Int) (t3 : Tok) (u : Str → Option Value) : s' = { s with heap := h', toks := tk } →
    Fr h₀ L h' (fun z => if z = Str.ofString "nums" then some (Value.ref nl) else if z = Str.ofString "x" then some (Value.int x t) else if z = Str.ofString "most" then some (Value.int M t1) else if z = Str.ofString "scale" then some (Value.int sc t2) else if z = Str.ofString "match" then some (Value.int mt t3) else u z) →
    News h₀ L h' [(nl, listOf nv.toArray nn)] →
    IntsAre nv ns →
    0 < ns.length →
    ns.length ≤ 10 →
    (∀ v ∈ ns, 0 ≤ v ∧ v ≤ 999982) →
    0 ≤ x →
    x ≤ 999982 →
    M = 0 →
    1 ≤ sc →
    sc ≤ 1048576 →
    0 ≤ mt → LJ3 h₀ L s s'
inductive LJ4 (h₀ : Heap) (L : Addr) (s s' : Shared) : Prop
  | mk (h' : Heap) (tk : Nat) (nl : Addr) (nv : List Value) (nn : Nat) (ns : List Int) (x : Int) (t : Tok) (M : Int) (t1 : Tok) (sc : Int) (t2 : Tok) (mt : Int) (t3 : Tok) (u : Str → Option Value) : s' = { s with heap := h', toks := tk } →
    Fr h₀ L h' (fun z => if z = Str.ofString "nums" then some (Value.ref nl) else if z = Str.ofString "x" then some (Value.int x t) else if z = Str.ofString "most" then some (Value.int M t1) else if z = Str.ofString "scale" then some (Value.int sc t2) else if z = Str.ofString "match" then some (Value.int mt t3) else u z) →
    News h₀ L h' [(nl, listOf nv.toArray nn)] →
    IntsAre nv ns →
    0 < ns.length →
    ns.length ≤ 10 →
    (∀ v ∈ ns, 0 ≤ v ∧ v ≤ 999982) →
    0 ≤ x →
    x ≤ 999982 →
    0 ≤ M →
    1 ≤ sc →
    sc ≤ 1048576 →
    0 ≤ mt → LJ4 h₀ L s s'
theorem rem_items {ns : List Int} {l : List Int} (h : l = (ns.take 10).map (fun k => k.fmod 999983)) : l.length ≤ 10 ∧ ∀ v ∈ l, 0 ≤ v ∧ v ≤ 999982 := by
  subst h
  refine ⟨by simp; omega, fun v hv => ?_⟩
  obtain ⟨k, _, rfl⟩ := List.mem_map.mp hv
  have h1 : 0 ≤ k.fmod 999983 := Int.fmod_nonneg_of_pos k (by decide)
  have h2 : k.fmod 999983 < 999983 := Int.fmod_lt_of_pos k (by decide)
  omega
theorem getD_items {l : List Int} (h : ∀ v ∈ l, 0 ≤ v ∧ v ≤ 999982) (i : Nat) : 0 ≤ l.getD i 0 ∧ l.getD i 0 ≤ 999982 := by
  by_cases hi : i < l.length
  · have e : l.getD i 0 = l[i] := by simp [List.getD, hi]
    rw [e]
    exact h _ (List.getElem_mem hi)
  · have e : l.getD i 0 = 0 := by simp [List.getD, List.getElem?_eq_none (Nat.le_of_not_lt hi)]
    rw [e]
    omega
theorem rem_ints {ns : List Int} {ys : List Value} (_I : IntsAre ys (List.map (fun k => k.fmod 999983) (List.take 10 ns))) : (List.map (fun k : Int => k.fmod 999983) (List.take 10 ns)).length ≤ 10 ∧ ∀ v ∈ List.map (fun k : Int => k.fmod 999983) (List.take 10 ns), 0 ≤ v ∧ v ≤ 999982 := rem_items rfl
theorem newsP {h₀ h : Heap} {L a : Addr} {o : Obj} {news : List (Addr × Obj)} (N : News h₀ L h news) (hm : (a, o) ∈ news) : News h₀ L h [(a, o)] := newsC N hm fun _ hp => nomatch hp

namespace Gturned_spec
def PP (d : D) : Prop :=
  let prog := d.prog
  let w := d.w
  let p := d.p
  let loose := d.loose
  let mean := d.mean
  let mg := d.mg
  let mb := d.mb
  let dp := d.dp
  let un := d.un
  let gd := d.gd
  let cn := d.cn
  let cs := d.cs
  let a := d.a
  let ccd := d.ccd
  let cl := d.cl
  let outer := d.outer
  let A₀ := d.A₀
  let base := d.base
  let h₀ := d.h₀
  let L := d.L
  let m := d.m
  let s := d.s
  let R := d.R
  let bk := d.bk
  let drg := d.drg
  let rg := d.rg
  let rl := d.rl
  let dpr := d.dpr
  let pr := d.pr
  let sl := d.sl
  let bo := d.bo
  let ro := d.ro
  let lo := d.lo
  let po := d.po
  let so := d.so
  let size := d.size
  let most := d.most
  let mt := d.mt
  let up := d.up
  let st := d.st
  let pd := d.pd
  let wt := d.wt
  let run := d.run
  let pk := d.pk
  let sc := d.sc
  let pa := d.pa
  let ln := d.ln
  let t0 := d.t0
  let t1 := d.t1
  let t2 := d.t2
  let t3 := d.t3
  let t4 := d.t4
  let t5 := d.t5
  let t6 := d.t6
  let t7 := d.t7
  let t8 := d.t8
  let t9 := d.t9
  let tl := d.tl
  let st' := d.st'
  let up' := d.up'
  let pd' := d.pd'
  let u1 := d.u1
  let u2 := d.u2
  let u3 := d.u3
  ∀ (B : Below A₀ base outer h₀) (F : Fr h₀ L s.heap m) (X : (hd.heap_1 w.params).In h₀) (T : Top p loose mean mg mb h₀) (hk : cs.kind = .function) (N : News h₀ L s.heap (LED bk drg rg rl dpr pr sl bo ro lo po so tl)) (ORD : ordA bk drg rg rl dpr pr sl) (OFF : OwnOff tl [bk, drg, rg, rl, dpr, pr, sl]) (HB : bo.IsDictOf (PySem.strKind prog w) (bkV size most mt up st pd pa ln sl wt run pk sc t0 t1 t2 t3 t4 t5 t6 t7 t8 t9)) (hdp : dp + 1 < recursionLimit) (hun : un + 8 < cLine) (ret : ∀ h' tk' sl' bo' u6 u7, Fr h₀ L h' m → News h₀ L h' (LED bk drg rg rl dpr pr sl' bo' ro lo po (listOf [].toArray 0) tl) → ordA bk drg rg rl dpr pr sl' → OwnOff tl [bk, drg, rg, rl, dpr, pr, sl'] →
      bo'.IsDictOf (PySem.strKind prog w) (bkV size most mt up' st' pd' false ln sl' 0 0 pk sc t0 t1 t2 u2 u1 u3 u6 u7 t8 t9) →
      R (.ok (.ret .none)) { s with heap := h', toks := tk' }),
    codeAny (model prog w) (ktrTop dp un gd cn cs L a ccd cl outer) (.call (.ref 247) ⟨[.ref bk, .int st' u1, .int up' u2, .int pd' u3], []⟩) R s
@[irreducible] noncomputable def g : D := Classical.epsilon (h := ⟨d0⟩) fun d => ¬ PP d
set_option maxRecDepth 100000 in
set_option maxHeartbeats 4000000 in
theorem main (B : Below g.A₀ g.base g.outer g.h₀) (F : Fr g.h₀ g.L g.s.heap g.m) (X : (hd.heap_1 g.w.params).In g.h₀) (T : Top g.p g.loose g.mean g.mg g.mb g.h₀) (hk : g.cs.kind = .function) (N : News g.h₀ g.L g.s.heap (LED g.bk g.drg g.rg g.rl g.dpr g.pr g.sl g.bo g.ro g.lo g.po g.so g.tl)) (ORD : ordA g.bk g.drg g.rg g.rl g.dpr g.pr g.sl) (OFF : OwnOff g.tl [g.bk, g.drg, g.rg, g.rl, g.dpr, g.pr, g.sl]) (HB : g.bo.IsDictOf (PySem.strKind g.prog g.w) (bkV g.size g.most g.mt g.up g.st g.pd g.pa g.ln g.sl g.wt g.run g.pk g.sc g.t0 g.t1 g.t2 g.t3 g.t4 g.t5 g.t6 g.t7 g.t8 g.t9)) (hdp : g.dp + 1 < recursionLimit) (hun : g.un + 8 < cLine) (ret : ∀ h' tk' sl' bo' u6 u7, Fr g.h₀ g.L h' g.m → News g.h₀ g.L h' (LED g.bk g.drg g.rg g.rl g.dpr g.pr sl' bo' g.ro g.lo g.po (listOf [].toArray 0) g.tl) → ordA g.bk g.drg g.rg g.rl g.dpr g.pr sl' → OwnOff g.tl [g.bk, g.drg, g.rg, g.rl, g.dpr, g.pr, sl'] →
      bo'.IsDictOf (PySem.strKind g.prog g.w) (bkV g.size g.most g.mt g.up' g.st' g.pd' false g.ln sl' 0 0 g.pk g.sc g.t0 g.t1 g.t2 g.u2 g.u1 g.u3 u6 u7 g.t8 g.t9) →
      g.R (.ok (.ret .none)) { g.s with heap := h', toks := tk' }) :
    codeAny (model g.prog g.w) (ktrTop g.dp g.un g.gd g.cn g.cs g.L g.a g.ccd g.cl g.outer) (.call (.ref 247) ⟨[.ref g.bk, .int g.st' g.u1, .int g.up' g.u2, .int g.pd' g.u3], []⟩) g.R g.s := by
  dsimp only [LED] at N
  k_dflt ktr_enter
  k_steps
  rename Fr _ _ _ _ => F3
  rename News _ _ _ _ => N3
  exact ret _ _ _ _ _ _ F3 (led_new N3) (by first | walk_at "my ord" | (dsimp only [ordA]; omega)) (off_new7 OFF (by assumption)) (by assumption)
theorem all (d : D) : PP d := allOf (by with_unfolding_all exact main) d
end Gturned_spec
section
variable {prog : Program} {w : World} {p : Program} {loose : List Str} {mean : ExcName → Option Value} {mg mb : Str → Option Value}
  {dp un : Nat} {gd : Option (List Code)} {cn : Str} {cs : Scope} {a : Addr} {ccd : Value} {cl : List (Str × Addr)} {outer : List Env} {A₀ : Around} {base h₀ : Heap} {L : Addr} {m : Str → Option Value} {s : Shared} {R : Result → Shared → Prop}
  (B : Below A₀ base outer h₀) (F : Fr h₀ L s.heap m) (X : (hd.heap_1 w.params).In h₀) (T : Top p loose mean mg mb h₀) (hk : cs.kind = .function)
include B F X T hk
set_option maxRecDepth 100000 in
set_option maxHeartbeats 4000000 in
theorem turned_spec {bk drg rg rl dpr pr sl : Addr} {bo ro lo po so : Obj} {size most mt up st pd wt run pk sc : Int} {pa ln : Bool} {t0 t1 t2 t3 t4 t5 t6 t7 t8 t9 : Tok} {tl : List (Addr × Obj)}
    (N : News h₀ L s.heap (LED bk drg rg rl dpr pr sl bo ro lo po so tl))
    (ORD : ordA bk drg rg rl dpr pr sl) (OFF : OwnOff tl [bk, drg, rg, rl, dpr, pr, sl])
    (HB : bo.IsDictOf (PySem.strKind prog w) (bkV size most mt up st pd pa ln sl wt run pk sc t0 t1 t2 t3 t4 t5 t6 t7 t8 t9))
    (hdp : dp + 1 < recursionLimit) (hun : un + 8 < cLine)
    {st' up' pd' : Int} {u1 u2 u3 : Tok}
    (ret : ∀ h' tk' sl' bo' u6 u7, Fr h₀ L h' m → News h₀ L h' (LED bk drg rg rl dpr pr sl' bo' ro lo po (listOf [].toArray 0) tl) → ordA bk drg rg rl dpr pr sl' → OwnOff tl [bk, drg, rg, rl, dpr, pr, sl'] →
      bo'.IsDictOf (PySem.strKind prog w) (bkV size most mt up' st' pd' false ln sl' 0 0 pk sc t0 t1 t2 u2 u1 u3 u6 u7 t8 t9) →
      R (.ok (.ret .none)) { s with heap := h', toks := tk' }) :
    codeAny (model prog w) (ktrTop dp un gd cn cs L a ccd cl outer) (.call (.ref 247) ⟨[.ref bk, .int st' u1, .int up' u2, .int pd' u3], []⟩) R s :=
  Gturned_spec.all { d0 with prog := prog, w := w, p := p, loose := loose, mean := mean, mg := mg, mb := mb, dp := dp, un := un, gd := gd, cn := cn, cs := cs, a := a, ccd := ccd, cl := cl, outer := outer, A₀ := A₀, base := base, h₀ := h₀, L := L, m := m, s := s, R := R, bk := bk, drg := drg, rg := rg, rl := rl, dpr := dpr, pr := pr, sl := sl, bo := bo, ro := ro, lo := lo, po := po, so := so, size := size, most := most, mt := mt, up := up, st := st, pd := pd, wt := wt, run := run, pk := pk, sc := sc, pa := pa, ln := ln, t0 := t0, t1 := t1, t2 := t2, t3 := t3, t4 := t4, t5 := t5, t6 := t6, t7 := t7, t8 := t8, t9 := t9, tl := tl, st' := st', up' := up', pd' := pd', u1 := u1, u2 := u2, u3 := u3 } B F X T hk N ORD OFF HB hdp hun ret
end
namespace Gput_spec
def PP (d : D) : Prop :=
  let prog := d.prog
  let w := d.w
  let p := d.p
  let loose := d.loose
  let mean := d.mean
  let mg := d.mg
  let mb := d.mb
  let dp := d.dp
  let un := d.un
  let gd := d.gd
  let cn := d.cn
  let cs := d.cs
  let a := d.a
  let ccd := d.ccd
  let cl := d.cl
  let outer := d.outer
  let A₀ := d.A₀
  let base := d.base
  let h₀ := d.h₀
  let L := d.L
  let m := d.m
  let s := d.s
  let R := d.R
  let bk := d.bk
  let drg := d.drg
  let rg := d.rg
  let rl := d.rl
  let dpr := d.dpr
  let pr := d.pr
  let sl := d.sl
  let bo := d.bo
  let ro := d.ro
  let lo := d.lo
  let po := d.po
  let size := d.size
  let most := d.most
  let mt := d.mt
  let up := d.up
  let st := d.st
  let pd := d.pd
  let wt := d.wt
  let run := d.run
  let pk := d.pk
  let sc := d.sc
  let pa := d.pa
  let ln := d.ln
  let t0 := d.t0
  let t1 := d.t1
  let t2 := d.t2
  let t3 := d.t3
  let t4 := d.t4
  let t5 := d.t5
  let t6 := d.t6
  let t7 := d.t7
  let t8 := d.t8
  let t9 := d.t9
  let sv := d.sv
  let sn := d.sn
  let sent := d.sent
  let tl := d.tl
  let index := d.index
  let oc := d.oc
  let u1 := d.u1
  let u2 := d.u2
  ∀ (B : Below A₀ base outer h₀) (F : Fr h₀ L s.heap m) (X : (hd.heap_1 w.params).In h₀) (T : Top p loose mean mg mb h₀) (hk : cs.kind = .function) (N : News h₀ L s.heap (LED bk drg rg rl dpr pr sl bo ro lo po (listOf sv.toArray sn) tl)) (ORD : ordA bk drg rg rl dpr pr sl) (OFF : OwnOff tl [bk, drg, rg, rl, dpr, pr, sl]) (HB : bo.IsDictOf (PySem.strKind prog w) (bkV size most mt up st pd pa ln sl wt run pk sc t0 t1 t2 t3 t4 t5 t6 t7 t8 t9)) (RS : Rows tl sv sent) (hdp : dp + 1 < recursionLimit) (hun : un + 8 < cLine) (hsv : sv.length ≤ 256) (ret : ∀ h' tk' bo' sv' sn' tl' u6 u7 u8, Fr h₀ L h' m → News h₀ L h' (LED bk drg rg rl dpr pr sl bo' ro lo po (listOf sv'.toArray sn') tl') → OwnOff tl' [bk, drg, rg, rl, dpr, pr, sl] → Ext tl tl' → Rows tl' sv' (sent ++ [(index, oc)]) →
      bo'.IsDictOf (PySem.strKind prog w) (bkV size most mt up st pd pa ln sl (wt + oc) (run + 1) (max pk (run + 1)) sc t0 t1 t2 t3 t4 t5 u6 u7 u8 t9) →
      R (.ok (.ret .none)) { s with heap := h', toks := tk' }),
    codeAny (model prog w) (ktrTop dp un gd cn cs L a ccd cl outer) (.call (.ref 254) ⟨[.ref bk, .int index u1, .int oc u2], []⟩) R s
@[irreducible] noncomputable def g : D := Classical.epsilon (h := ⟨d0⟩) fun d => ¬ PP d
set_option maxRecDepth 100000 in
set_option maxHeartbeats 4000000 in
theorem main (B : Below g.A₀ g.base g.outer g.h₀) (F : Fr g.h₀ g.L g.s.heap g.m) (X : (hd.heap_1 g.w.params).In g.h₀) (T : Top g.p g.loose g.mean g.mg g.mb g.h₀) (hk : g.cs.kind = .function) (N : News g.h₀ g.L g.s.heap (LED g.bk g.drg g.rg g.rl g.dpr g.pr g.sl g.bo g.ro g.lo g.po (listOf g.sv.toArray g.sn) g.tl)) (ORD : ordA g.bk g.drg g.rg g.rl g.dpr g.pr g.sl) (OFF : OwnOff g.tl [g.bk, g.drg, g.rg, g.rl, g.dpr, g.pr, g.sl]) (HB : g.bo.IsDictOf (PySem.strKind g.prog g.w) (bkV g.size g.most g.mt g.up g.st g.pd g.pa g.ln g.sl g.wt g.run g.pk g.sc g.t0 g.t1 g.t2 g.t3 g.t4 g.t5 g.t6 g.t7 g.t8 g.t9)) (RS : Rows g.tl g.sv g.sent) (hdp : g.dp + 1 < recursionLimit) (hun : g.un + 8 < cLine) (hsv : g.sv.length ≤ 256) (ret : ∀ h' tk' bo' sv' sn' tl' u6 u7 u8, Fr g.h₀ g.L h' g.m → News g.h₀ g.L h' (LED g.bk g.drg g.rg g.rl g.dpr g.pr g.sl bo' g.ro g.lo g.po (listOf sv'.toArray sn') tl') → OwnOff tl' [g.bk, g.drg, g.rg, g.rl, g.dpr, g.pr, g.sl] → Ext g.tl tl' → Rows tl' sv' (g.sent ++ [(g.index, g.oc)]) →
      bo'.IsDictOf (PySem.strKind g.prog g.w) (bkV g.size g.most g.mt g.up g.st g.pd g.pa g.ln g.sl (g.wt + g.oc) (g.run + 1) (max g.pk (g.run + 1)) g.sc g.t0 g.t1 g.t2 g.t3 g.t4 g.t5 u6 u7 u8 g.t9) →
      g.R (.ok (.ret .none)) { g.s with heap := h', toks := tk' }) :
    codeAny (model g.prog g.w) (ktrTop g.dp g.un g.gd g.cn g.cs g.L g.a g.ccd g.cl g.outer) (.call (.ref 254) ⟨[.ref g.bk, .int g.index g.u1, .int g.oc g.u2], []⟩) g.R g.s := by
  dsimp only [LED] at N
  k_dflt ktr_enter
  k_steps
  rename Fr _ _ _ _ => F3
  rename News _ _ _ _ => N3
  exact ret _ _ _ _ _ _ _ _ _ F3 (led_pull N3) (by walk_at "my off") (by walk_at "my ext") ((RS.mono fun p hp => .tail _ hp).append (.cons (.mk (.head _)) .nil)) (by assumption)
theorem all (d : D) : PP d := allOf (by with_unfolding_all exact main) d
end Gput_spec
section
variable {prog : Program} {w : World} {p : Program} {loose : List Str} {mean : ExcName → Option Value} {mg mb : Str → Option Value}
  {dp un : Nat} {gd : Option (List Code)} {cn : Str} {cs : Scope} {a : Addr} {ccd : Value} {cl : List (Str × Addr)} {outer : List Env} {A₀ : Around} {base h₀ : Heap} {L : Addr} {m : Str → Option Value} {s : Shared} {R : Result → Shared → Prop}
  (B : Below A₀ base outer h₀) (F : Fr h₀ L s.heap m) (X : (hd.heap_1 w.params).In h₀) (T : Top p loose mean mg mb h₀) (hk : cs.kind = .function)
include B F X T hk
set_option maxRecDepth 100000 in
set_option maxHeartbeats 4000000 in
theorem put_spec {bk drg rg rl dpr pr sl : Addr} {bo ro lo po : Obj} {size most mt up st pd wt run pk sc : Int} {pa ln : Bool} {t0 t1 t2 t3 t4 t5 t6 t7 t8 t9 : Tok} {sv : List Value} {sn : Nat} {sent : List (Int × Int)} {tl : List (Addr × Obj)}
    (N : News h₀ L s.heap (LED bk drg rg rl dpr pr sl bo ro lo po (listOf sv.toArray sn) tl))
    (ORD : ordA bk drg rg rl dpr pr sl) (OFF : OwnOff tl [bk, drg, rg, rl, dpr, pr, sl])
    (HB : bo.IsDictOf (PySem.strKind prog w) (bkV size most mt up st pd pa ln sl wt run pk sc t0 t1 t2 t3 t4 t5 t6 t7 t8 t9)) (RS : Rows tl sv sent)
    (hdp : dp + 1 < recursionLimit) (hun : un + 8 < cLine) (hsv : sv.length ≤ 256)
    {index oc : Int} {u1 u2 : Tok}
    (ret : ∀ h' tk' bo' sv' sn' tl' u6 u7 u8, Fr h₀ L h' m → News h₀ L h' (LED bk drg rg rl dpr pr sl bo' ro lo po (listOf sv'.toArray sn') tl') → OwnOff tl' [bk, drg, rg, rl, dpr, pr, sl] → Ext tl tl' → Rows tl' sv' (sent ++ [(index, oc)]) →
      bo'.IsDictOf (PySem.strKind prog w) (bkV size most mt up st pd pa ln sl (wt + oc) (run + 1) (max pk (run + 1)) sc t0 t1 t2 t3 t4 t5 u6 u7 u8 t9) →
      R (.ok (.ret .none)) { s with heap := h', toks := tk' }) :
    codeAny (model prog w) (ktrTop dp un gd cn cs L a ccd cl outer) (.call (.ref 254) ⟨[.ref bk, .int index u1, .int oc u2], []⟩) R s :=
  Gput_spec.all { d0 with prog := prog, w := w, p := p, loose := loose, mean := mean, mg := mg, mb := mb, dp := dp, un := un, gd := gd, cn := cn, cs := cs, a := a, ccd := ccd, cl := cl, outer := outer, A₀ := A₀, base := base, h₀ := h₀, L := L, m := m, s := s, R := R, bk := bk, drg := drg, rg := rg, rl := rl, dpr := dpr, pr := pr, sl := sl, bo := bo, ro := ro, lo := lo, po := po, size := size, most := most, mt := mt, up := up, st := st, pd := pd, wt := wt, run := run, pk := pk, sc := sc, pa := pa, ln := ln, t0 := t0, t1 := t1, t2 := t2, t3 := t3, t4 := t4, t5 := t5, t6 := t6, t7 := t7, t8 := t8, t9 := t9, sv := sv, sn := sn, sent := sent, tl := tl, index := index, oc := oc, u1 := u1, u2 := u2 } B F X T hk N ORD OFF HB RS hdp hun hsv ret
end

local macro_rules | `(tactic| walk_at "compareOp NotEq ref ref") => `(tactic| (k_here; (with_reducible show wpAny _ _ (compareOp CmpOp.NotEq (Value.ref _) (Value.ref _)) _ _ _); k_dflt (refine' led_ne ?kN ?g1 ?g2 ?g3 ?f1 ?f2 ?f3 ?rs' ?rs ?hs' ?hs ?hu ?_; (case kN => k_asm); (case g1 => k_mem); (case g2 => k_mem); (case g3 => k_mem); (case f1 => k_mem); (case f2 => k_mem); (case f3 => k_mem); (case rs' => assumption); (case rs => first | assumption | (rename win _ _ _ _ = _ => q9; rw [← q9]; assumption)); (case hs' => walk_at "my sub"); (case hs => walk_at "my sub"); (case hu => ktr_units))))
local macro_rules | `(tactic| walk_at "call ref") => `(tactic| (k_here; k_dflt (refine wpAny_call ?_; apply row_spec; walk_at "my stdn"; (iterate 2 (assumption)); ktr_room; ktr_units; (iterate 6 (walk_at "my fits")); (assumption)); intros; walk_at "my win"; walk_at "my end"))
local macro_rules | `(tactic| walk_at "call ref") => `(tactic| (k_here; k_dflt (refine wpAny_call ?_; apply prow_spec; walk_at "my stdn"; (iterate 2 (assumption)); ktr_room; ktr_units; (iterate 6 (walk_at "my fits")); (assumption)); intros; walk_at "my win"; walk_at "my end"))
local macro_rules | `(tactic| walk_at "call ref") => `(tactic| (k_here; k_dflt (refine wpAny_call ?_; apply paused_spec; walk_at "my std0"; (iterate 2 (k_mem)); ktr_room; ktr_units; (walk_at "my fits")); intros; walk_at "my end"))
local macro_rules | `(tactic| walk_at "call ref") => `(tactic| (k_here; k_dflt (refine wpAny_call ?_; apply lfull_spec; walk_at "my std0"; (k_mem); (rotate_left); (assumption); (rotate_right); (k_mem); ktr_room; ktr_units; (walk_at "my fits")); intros; walk_at "my end"))
local macro_rules | `(tactic| walk_at "call ref") => `(tactic| (k_here; k_dflt (refine wpAny_call ?_; apply long_spec; walk_at "my std0"; (k_mem); (assumption); ktr_room; ktr_units; (iterate 2 (walk_at "my fits"))); intros; walk_at "my end"))
section partP10
local macro_rules | `(tactic| walk_at "call ref") => `(tactic| (k_here; k_dflt (refine wpAny_call ?_; apply prow_spec; (iterate 4 k_asm); (first | exact rfl | assumption); rotate_left; assumption; rotate_right; exact led_pull2 (by k_asm); (refine offCons (offCons (by assumption) (offNe ?_ ?_ ?_ ?_ ?_ ?_ ?_)) (offNe ?_ ?_ ?_ ?_ ?_ ?_ ?_) <;> walk_at "my ne"); exact Rows.mono (by assumption) fun p hp => .tail _ (.tail _ hp); ktr_room; ktr_units; (iterate 6 (walk_at "my fits")); (assumption)); intros; walk_at "my win"; walk_at "my end"))
namespace Gsame_spec
def PP (d : D) : Prop :=
  let prog := d.prog
  let w := d.w
  let p := d.p
  let loose := d.loose
  let mean := d.mean
  let mg := d.mg
  let mb := d.mb
  let dp := d.dp
  let un := d.un
  let gd := d.gd
  let cn := d.cn
  let cs := d.cs
  let a := d.a
  let ccd := d.ccd
  let cl := d.cl
  let outer := d.outer
  let A₀ := d.A₀
  let base := d.base
  let h₀ := d.h₀
  let L := d.L
  let m := d.m
  let s := d.s
  let R := d.R
  let bk := d.bk
  let drg := d.drg
  let rg := d.rg
  let rl := d.rl
  let dpr := d.dpr
  let pr := d.pr
  let sl := d.sl
  let bo := d.bo
  let kr := d.kr
  let kp := d.kp
  let size := d.size
  let most := d.most
  let start := d.start
  let held := d.held
  let octets := d.octets
  let mt := d.mt
  let up := d.up
  let st := d.st
  let pd := d.pd
  let run := d.run
  let pk := d.pk
  let sc := d.sc
  let flow := d.flow
  let ln := d.ln
  let t0 := d.t0
  let t1 := d.t1
  let t2 := d.t2
  let t3 := d.t3
  let t4 := d.t4
  let p0 := d.p0
  let p1 := d.p1
  let p2 := d.p2
  let p3 := d.p3
  let b0 := d.b0
  let b1 := d.b1
  let b2 := d.b2
  let b3 := d.b3
  let b4 := d.b4
  let b5 := d.b5
  let b6 := d.b6
  let b7 := d.b7
  let b8 := d.b8
  let b9 := d.b9
  let rv := d.rv
  let sv := d.sv
  let rn := d.rn
  let sn := d.sn
  let ring := d.ring
  let sent := d.sent
  let tl := d.tl
  ∀ (B : Below A₀ base outer h₀) (F : Fr h₀ L s.heap m) (X : (hd.heap_1 w.params).In h₀) (T : Top p loose mean mg mb h₀) (hk : cs.kind = .function) (N : News h₀ L s.heap (LED bk drg rg rl dpr pr sl bo (rgD w.params kr size most start held octets t0 t1 t2 t3 t4 rl) (listOf rv.toArray rn) (prD w.params kp mt up st pd flow p0 p1 p2 p3 rg ln) (listOf sv.toArray sn) tl)) (ORD : ordA bk drg rg rl dpr pr sl) (OFF : OwnOff tl [bk, drg, rg, rl, dpr, pr, sl]) (RR : Rows tl rv ring) (RS : Rows tl sv sent) (HB : bo.IsDictOf (PySem.strKind prog w) (bkV size most mt up st pd flow ln sl octets run pk sc b0 b1 b2 b3 b4 b5 b6 b7 b8 b9)) (hdp : dp + 5 < recursionLimit) (hun : un + 128 < cLine) (h3 : 0 ≤ start) (h4 : start < size) (h5 : 0 ≤ held) (h6 : size ≤ 256) (hl : (ring.length : Int) ≤ size) (hle : held ≤ size) (hm0 : 0 ≤ most) (hst : st = 0 ∨ st = 1 ∨ st = 2) (hp1 : 0 ≤ pk) (hp2 : pk ≤ 4096) (hsl : (sent.length : Int) = held) (hP : ∀ k, 0 ≤ k → k < held → placeOf size start k < ring.length) (hwin : win ring size start held.toNat = sent) (hlong : (ring.length : Int) = longOf pk size) (ret : ∀ h' tk', Fr h₀ L h' m → News h₀ L h' (LED bk drg rg rl dpr pr sl bo (rgD w.params kr size most start held octets t0 t1 t2 t3 t4 rl) (listOf rv.toArray rn) (prD w.params kp mt up st pd flow p0 p1 p2 p3 rg ln) (listOf sv.toArray sn) tl) →
      R (.ok (.ret (.bool true))) { s with heap := h', toks := tk' }),
    codeAny (model prog w) (ktrTop dp un gd cn cs L a ccd cl outer) (.call (.ref 240) ⟨[.ref pr, .ref rg, .ref bk], []⟩) R s
@[irreducible] noncomputable def g : D := Classical.epsilon (h := ⟨d0⟩) fun d => ¬ PP d
set_option maxRecDepth 100000 in
set_option maxHeartbeats 8000000 in
theorem main (B : Below g.A₀ g.base g.outer g.h₀) (F : Fr g.h₀ g.L g.s.heap g.m) (X : (hd.heap_1 g.w.params).In g.h₀) (T : Top g.p g.loose g.mean g.mg g.mb g.h₀) (hk : g.cs.kind = .function) (N : News g.h₀ g.L g.s.heap (LED g.bk g.drg g.rg g.rl g.dpr g.pr g.sl g.bo (rgD g.w.params g.kr g.size g.most g.start g.held g.octets g.t0 g.t1 g.t2 g.t3 g.t4 g.rl) (listOf g.rv.toArray g.rn) (prD g.w.params g.kp g.mt g.up g.st g.pd g.flow g.p0 g.p1 g.p2 g.p3 g.rg g.ln) (listOf g.sv.toArray g.sn) g.tl)) (ORD : ordA g.bk g.drg g.rg g.rl g.dpr g.pr g.sl) (OFF : OwnOff g.tl [g.bk, g.drg, g.rg, g.rl, g.dpr, g.pr, g.sl]) (RR : Rows g.tl g.rv g.ring) (RS : Rows g.tl g.sv g.sent) (HB : g.bo.IsDictOf (PySem.strKind g.prog g.w) (bkV g.size g.most g.mt g.up g.st g.pd g.flow g.ln g.sl g.octets g.run g.pk g.sc g.b0 g.b1 g.b2 g.b3 g.b4 g.b5 g.b6 g.b7 g.b8 g.b9)) (hdp : g.dp + 5 < recursionLimit) (hun : g.un + 128 < cLine) (h3 : 0 ≤ g.start) (h4 : g.start < g.size) (h5 : 0 ≤ g.held) (h6 : g.size ≤ 256) (hl : (g.ring.length : Int) ≤ g.size) (hle : g.held ≤ g.size) (hm0 : 0 ≤ g.most) (hst : g.st = 0 ∨ g.st = 1 ∨ g.st = 2) (hp1 : 0 ≤ g.pk) (hp2 : g.pk ≤ 4096) (hsl : (g.sent.length : Int) = g.held) (hP : ∀ k, 0 ≤ k → k < g.held → placeOf g.size g.start k < g.ring.length) (hwin : win g.ring g.size g.start g.held.toNat = g.sent) (hlong : (g.ring.length : Int) = longOf g.pk g.size) (ret : ∀ h' tk', Fr g.h₀ g.L h' g.m → News g.h₀ g.L h' (LED g.bk g.drg g.rg g.rl g.dpr g.pr g.sl g.bo (rgD g.w.params g.kr g.size g.most g.start g.held g.octets g.t0 g.t1 g.t2 g.t3 g.t4 g.rl) (listOf g.rv.toArray g.rn) (prD g.w.params g.kp g.mt g.up g.st g.pd g.flow g.p0 g.p1 g.p2 g.p3 g.rg g.ln) (listOf g.sv.toArray g.sn) g.tl) →
      g.R (.ok (.ret (.bool true))) { g.s with heap := h', toks := tk' }) :
    codeAny (model g.prog g.w) (ktrTop g.dp g.un g.gd g.cn g.cs g.L g.a g.ccd g.cl g.outer) (.call (.ref 240) ⟨[.ref g.pr, .ref g.rg, .ref g.bk], []⟩) g.R g.s := by
  have hrl := RR.length
  have hsv := RS.length
  have hfull : (decide (g.size ≤ g.held) || decide (g.most ≠ 0) && decide (g.most ≤ g.octets)) = (decide (g.size ≤ (g.sv.length : Int)) || decide (0 < g.most) && decide (g.most ≤ g.octets)) := by walk_at "my bool"
  have hhs : g.held = (g.sv.length : Int) := by omega
  have hlg : (g.rv.length : Int) = longOf g.pk g.size := by rw [hrl]; exact hlong
  dsimp only [LED] at N
  k_dflt ktr_enter
  k_steps
  all_goals (
    refine ret_bool (ret _ _ (by k_asm) (by walk_at "my news")) ?_
    first
    | (simp only [hlg, beq_self_eq_true]; done)
    | (rw [hfull, beq_self_eq_true]; done)
    | (rw [← hhs, beq_self_eq_true]; done)
    | (exfalso; rename g.flow = _ => q0; rename ((_ || _) != _) = _ => q1; rw [q0] at q1; simp at q1; done)
    | (exfalso; rename g.flow = _ => q0; rename ((_ || _) != _) = _ => q1; rw [q0, Bool.or_false] at q1; exact absurd q1 (by rw [show (g.st == 2) = decide (g.st = 2) from rfl]; simp)))
theorem all (d : D) : PP d := allOf (by with_unfolding_all exact main) d
end Gsame_spec
section
variable {prog : Program} {w : World} {p : Program} {loose : List Str} {mean : ExcName → Option Value} {mg mb : Str → Option Value}
  {dp un : Nat} {gd : Option (List Code)} {cn : Str} {cs : Scope} {a : Addr} {ccd : Value} {cl : List (Str × Addr)} {outer : List Env} {A₀ : Around} {base h₀ : Heap} {L : Addr} {m : Str → Option Value} {s : Shared} {R : Result → Shared → Prop}
  (B : Below A₀ base outer h₀) (F : Fr h₀ L s.heap m) (X : (hd.heap_1 w.params).In h₀) (T : Top p loose mean mg mb h₀) (hk : cs.kind = .function)
include B F X T hk
set_option maxRecDepth 100000 in
set_option maxHeartbeats 8000000 in
theorem same_spec {bk drg rg rl dpr pr sl : Addr} {bo : Obj} {kr kp : Nat → Tok} {size most start held octets mt up st pd run pk sc : Int} {flow ln : Bool} {t0 t1 t2 t3 t4 p0 p1 p2 p3 b0 b1 b2 b3 b4 b5 b6 b7 b8 b9 : Tok} {rv sv : List Value} {rn sn : Nat} {ring sent : List (Int × Int)} {tl : List (Addr × Obj)}
    (N : News h₀ L s.heap (LED bk drg rg rl dpr pr sl bo (rgD w.params kr size most start held octets t0 t1 t2 t3 t4 rl) (listOf rv.toArray rn) (prD w.params kp mt up st pd flow p0 p1 p2 p3 rg ln) (listOf sv.toArray sn) tl))
    (ORD : ordA bk drg rg rl dpr pr sl) (OFF : OwnOff tl [bk, drg, rg, rl, dpr, pr, sl])
    (RR : Rows tl rv ring) (RS : Rows tl sv sent) (HB : bo.IsDictOf (PySem.strKind prog w) (bkV size most mt up st pd flow ln sl octets run pk sc b0 b1 b2 b3 b4 b5 b6 b7 b8 b9))
    (hdp : dp + 5 < recursionLimit) (hun : un + 128 < cLine)
    (h3 : 0 ≤ start) (h4 : start < size) (h5 : 0 ≤ held) (h6 : size ≤ 256) (hl : (ring.length : Int) ≤ size) (hle : held ≤ size) (hm0 : 0 ≤ most) (hst : st = 0 ∨ st = 1 ∨ st = 2)
    (hp1 : 0 ≤ pk) (hp2 : pk ≤ 4096) (hsl : (sent.length : Int) = held)
    (hP : ∀ k, 0 ≤ k → k < held → placeOf size start k < ring.length) (hwin : win ring size start held.toNat = sent) (hlong : (ring.length : Int) = longOf pk size)
    (ret : ∀ h' tk', Fr h₀ L h' m → News h₀ L h' (LED bk drg rg rl dpr pr sl bo (rgD w.params kr size most start held octets t0 t1 t2 t3 t4 rl) (listOf rv.toArray rn) (prD w.params kp mt up st pd flow p0 p1 p2 p3 rg ln) (listOf sv.toArray sn) tl) →
      R (.ok (.ret (.bool true))) { s with heap := h', toks := tk' }) :
    codeAny (model prog w) (ktrTop dp un gd cn cs L a ccd cl outer) (.call (.ref 240) ⟨[.ref pr, .ref rg, .ref bk], []⟩) R s :=
  Gsame_spec.all { d0 with prog := prog, w := w, p := p, loose := loose, mean := mean, mg := mg, mb := mb, dp := dp, un := un, gd := gd, cn := cn, cs := cs, a := a, ccd := ccd, cl := cl, outer := outer, A₀ := A₀, base := base, h₀ := h₀, L := L, m := m, s := s, R := R, bk := bk, drg := drg, rg := rg, rl := rl, dpr := dpr, pr := pr, sl := sl, bo := bo, kr := kr, kp := kp, size := size, most := most, start := start, held := held, octets := octets, mt := mt, up := up, st := st, pd := pd, run := run, pk := pk, sc := sc, flow := flow, ln := ln, t0 := t0, t1 := t1, t2 := t2, t3 := t3, t4 := t4, p0 := p0, p1 := p1, p2 := p2, p3 := p3, b0 := b0, b1 := b1, b2 := b2, b3 := b3, b4 := b4, b5 := b5, b6 := b6, b7 := b7, b8 := b8, b9 := b9, rv := rv, sv := sv, rn := rn, sn := sn, ring := ring, sent := sent, tl := tl } B F X T hk N ORD OFF RR RS HB hdp hun h3 h4 h5 h6 hl hle hm0 hst hp1 hp2 hsl hP hwin hlong ret
end

end partP10
local macro_rules | `(tactic| walk_at "call ref") => `(tactic| (k_here; k_dflt (refine wpAny_call ?_; apply turned_spec; walk_at "my stdn"; (iterate 2 (assumption)); ktr_room; ktr_units); intros; walk_at "my end"))
local macro_rules | `(tactic| walk_at "call ref") => `(tactic| (k_here; k_dflt (refine wpAny_call ?_; apply put_spec; walk_at "my stdn"; (iterate 3 (assumption)); ktr_room; ktr_units; (walk_at "my fits")); intros; walk_at "my len"; walk_at "my end"))
local macro_rules | `(tactic| walk_at "call ref") => `(tactic| (k_here; k_dflt (refine wpAny_call ?_; apply same_spec; walk_at "my stdn"; (iterate 4 (assumption)); ktr_room; ktr_units; (iterate 11 (walk_at "my fits")); (iterate 3 (assumption))); intros; walk_at "my end"))
theorem dict_eqs {prog : Program} {w : World} {bo : Obj} {size most mt up st pd wt run pk sc mt' up' wt' : Int} {f1 f2 ln : Bool} {sl : Addr} {t0 t1 t2 t3 t4 t5 t6 t7 t8 t9 : Tok}
    (h : bo.IsDictOf (PySem.strKind prog w) (bkV size most mt up st pd f1 ln sl wt run pk sc t0 t1 t2 t3 t4 t5 t6 t7 t8 t9)) (e1 : mt = mt') (e2 : up = up') (e3 : wt = wt') (e4 : f1 = f2) :
    bo.IsDictOf (PySem.strKind prog w) (bkV size most mt' up' st pd f2 ln sl wt' run pk sc t0 t1 t2 t3 t4 t5 t6 t7 t8 t9) := by
  subst e1 e2 e3 e4
  exact h
section
variable {prog : Program} {w : World} {p : Program} {loose : List Str} {mean : ExcName → Option Value} {mg mb : Str → Option Value}
  {dp un : Nat} {gd : Option (List Code)} {cn : Str} {cs : Scope} {a : Addr} {ccd : Value} {cl : List (Str × Addr)} {outer : List Env} {A₀ : Around} {base h₀ : Heap} {L : Addr} {m : Str → Option Value} {s : Shared} {R : Result → Shared → Prop}
  (B : Below A₀ base outer h₀) (F : Fr h₀ L s.heap m) (X : (hd.heap_1 w.params).In h₀) (T : Top p loose mean mg mb h₀) (hk : cs.kind = .function)
include B F X T hk
set_option maxRecDepth 100000 in
theorem same2_spec {bk drg rg rl dpr pr sl : Addr} {bo : Obj} {kr kp : Nat → Tok} {size most start held oct mt up up' st pd run run' pk sc mtb upb octb : Int} {flow ln flowb : Bool} {t0 t1 t2 t3 t4 p0 p1 p2 p3 b0 b1 b2 b3 b4 b5 b6 b7 b8 b9 : Tok} {rv sv : List Value} {rn sn : Nat} {ring sent : List (Int × Int)} {tl : List (Addr × Obj)}
    (N : News h₀ L s.heap (LED bk drg rg rl dpr pr sl bo (rgD w.params kr size most start held oct t0 t1 t2 t3 t4 rl) (listOf rv.toArray rn) (prD w.params kp mt up st pd flow p0 p1 p2 p3 rg ln) (listOf sv.toArray sn) tl))
    (ORD : ordA bk drg rg rl dpr pr sl) (OFF : OwnOff tl [bk, drg, rg, rl, dpr, pr, sl])
    (RR : Rows tl rv ring) (RS : Rows tl sv sent) (HB : bo.IsDictOf (PySem.strKind prog w) (bkV size most mtb upb st pd flowb ln sl octb run pk sc b0 b1 b2 b3 b4 b5 b6 b7 b8 b9))
    (I : Inv size most start held oct up' run' pk sc ring sent)
    (hdp : dp + 5 < recursionLimit) (hun : un + 128 < cLine) (hpk : pk ≤ 900) (hst : st = 0 ∨ st = 1 ∨ st = 2) (e1 : mtb = mt) (e2 : upb = up) (e3 : octb = oct) (e4 : flowb = flow)
    (ret : ∀ h' tk', Fr h₀ L h' m → News h₀ L h' (LED bk drg rg rl dpr pr sl bo (rgD w.params kr size most start held oct t0 t1 t2 t3 t4 rl) (listOf rv.toArray rn) (prD w.params kp mt up st pd flow p0 p1 p2 p3 rg ln) (listOf sv.toArray sn) tl) →
      R (.ok (.ret (.bool true))) { s with heap := h', toks := tk' }) :
    codeAny (model prog w) (ktrTop dp un gd cn cs L a ccd cl outer) (.call (.ref 240) ⟨[.ref pr, .ref rg, .ref bk], []⟩) R s :=
  same_spec B F X T hk N ORD OFF RR RS (dict_eqs HB e1 e2 e3 e4) hdp hun I.st0 I.st1 (by have := I.hd0; omega) I.s2 I.len I.hd1 I.m0 hst (by have := I.hd0; have := I.rn0; have := I.rn1; omega) (by omega) I.hd0.symm (I.places hpk) I.wn I.rl ret
set_option maxRecDepth 100000 in
theorem turned2_spec {bk drg rg rl dpr pr sl : Addr} {bo ro po so : Obj} {size most mt up st pd wt run pk sc start' held' oct' up'' run' : Int} {pa ln : Bool} {t0 t1 t2 t3 t4 t5 t6 t7 t8 t9 : Tok} {rv : List Value} {rn : Nat} {ring sent : List (Int × Int)} {tl : List (Addr × Obj)}
    (N : News h₀ L s.heap (LED bk drg rg rl dpr pr sl bo ro (listOf rv.toArray rn) po so tl))
    (ORD : ordA bk drg rg rl dpr pr sl) (OFF : OwnOff tl [bk, drg, rg, rl, dpr, pr, sl])
    (HB : bo.IsDictOf (PySem.strKind prog w) (bkV size most mt up st pd pa ln sl wt run pk sc t0 t1 t2 t3 t4 t5 t6 t7 t8 t9))
    (RR : Rows tl rv ring) (I : Inv size most start' held' oct' up'' run' pk sc ring sent)
    (hdp : dp + 1 < recursionLimit) (hun : un + 8 < cLine)
    {st' up' pd' : Int} {u1 u2 u3 : Tok}
    (ret : ∀ h' tk' sl' bo' u6 u7, Fr h₀ L h' m → News h₀ L h' (LED bk drg rg rl dpr pr sl' bo' ro (listOf rv.toArray rn) po (listOf [].toArray 0) tl) → ordA bk drg rg rl dpr pr sl' → OwnOff tl [bk, drg, rg, rl, dpr, pr, sl'] →
      bo'.IsDictOf (PySem.strKind prog w) (bkV size most mt up' st' pd' false ln sl' 0 0 pk sc t0 t1 t2 u2 u1 u3 u6 u7 t8 t9) → Rows tl [] [] → Inv size most 0 0 0 up' 0 pk sc ring [] →
      R (.ok (.ret .none)) { s with heap := h', toks := tk' }) :
    codeAny (model prog w) (ktrTop dp un gd cn cs L a ccd cl outer) (.call (.ref 247) ⟨[.ref bk, .int st' u1, .int up' u2, .int pd' u3], []⟩) R s :=
  turned_spec B F X T hk N ORD OFF HB hdp hun fun h' tk' sl' bo' u6 u7 F' N' O' P' HB' => ret h' tk' sl' bo' u6 u7 F' N' O' P' HB' .nil (I.empty up')
end

local macro_rules | `(tactic| walk_at "call ref") => `(tactic| (k_here; k_dflt (refine wpAny_call ?_; apply sent1_spec; walk_at "my stdn"; (iterate 2 (assumption)); ktr_room; ktr_units; (iterate 8 (walk_at "my fits")); (iterate 3 (assumption))); intros; walk_at "my end"))
local macro_rules | `(tactic| walk_at "call ref") => `(tactic| (k_here; k_dflt (refine wpAny_call ?_; apply panics2_spec; walk_at "my stds"; (assumption); ktr_room; ktr_units); intros; walk_at "my end"))
local macro_rules | `(tactic| walk_at "call ref") => `(tactic| (k_here; k_dflt (refine wpAny_call ?_; apply panics1_spec; walk_at "my stds"; (assumption); ktr_room; ktr_units; (iterate 5 (walk_at "my fits")); ((rename (_ || _) = true => qB; simp only [Bool.or_eq_true, Bool.and_eq_true, decide_eq_true_eq] at qB; omega))); intros; walk_at "my end"))
section partP13
local macro_rules | `(tactic| walk_at "ite") => `(tactic| first | (refine' iteT ?c ?_; (case c => assumption)) | (refine' iteF ?c ?_; (case c => assumption)))
namespace Gburst_spec
def PP (d : D) : Prop :=
  let prog := d.prog
  let w := d.w
  let p := d.p
  let loose := d.loose
  let mean := d.mean
  let mg := d.mg
  let mb := d.mb
  let dp := d.dp
  let un := d.un
  let gd := d.gd
  let cn := d.cn
  let cs := d.cs
  let a := d.a
  let ccd := d.ccd
  let outer := d.outer
  let A₀ := d.A₀
  let base := d.base
  let h₀ := d.h₀
  let L := d.L
  let m := d.m
  let s := d.s
  let R := d.R
  let bk := d.bk
  let drg := d.drg
  let rg := d.rg
  let rl := d.rl
  let dpr := d.dpr
  let pr := d.pr
  let sl := d.sl
  let bo := d.bo
  let kr := d.kr
  let kp := d.kp
  let size := d.size
  let most := d.most
  let start := d.start
  let held := d.held
  let oct := d.oct
  let mt := d.mt
  let up := d.up
  let pd := d.pd
  let run := d.run
  let pk := d.pk
  let sc := d.sc
  let flow := d.flow
  let ln := d.ln
  let t0 := d.t0
  let t1 := d.t1
  let t2 := d.t2
  let t3 := d.t3
  let t4 := d.t4
  let p0 := d.p0
  let p1 := d.p1
  let p2 := d.p2
  let p3 := d.p3
  let b0 := d.b0
  let b1 := d.b1
  let b2 := d.b2
  let b3 := d.b3
  let b4 := d.b4
  let b5 := d.b5
  let b6 := d.b6
  let b7 := d.b7
  let b8 := d.b8
  let b9 := d.b9
  let rv := d.rv
  let sv := d.sv
  let rn := d.rn
  let sn := d.sn
  let ring := d.ring
  let sent := d.sent
  let tl := d.tl
  let many := d.many
  let y := d.y
  let um := d.um
  let uy := d.uy
  ∀ (B : Below A₀ base outer h₀) (F : Fr h₀ L s.heap m) (X : (hd.heap_1 w.params).In h₀) (T : Top p loose mean mg mb h₀) (hk : cs.kind = .function) (XB : (hd.heap_1 w.params).In base) (TB : Top p loose mean mg mb base) (DD : KtsDicts (outer.filterMap (·.frame)) h₀) (N : News h₀ L s.heap (LED bk drg rg rl dpr pr sl bo (rgD w.params kr size most start held oct t0 t1 t2 t3 t4 rl) (listOf rv.toArray rn) (prD w.params kp mt up 1 pd flow p0 p1 p2 p3 rg ln) (listOf sv.toArray sn) tl)) (ORD : ordA bk drg rg rl dpr pr sl) (OFF : OwnOff tl [bk, drg, rg, rl, dpr, pr, sl]) (RR : Rows tl rv ring) (RS : Rows tl sv sent) (HB : bo.IsDictOf (PySem.strKind prog w) (bkV size most mt up 1 pd flow ln sl oct run pk sc b0 b1 b2 b3 b4 b5 b6 b7 b8 b9)) (hdp : dp + 7 < recursionLimit) (hun : un + 256 < cLine) (I : Inv size most start held oct up run pk sc ring sent) (hm0 : 0 ≤ many) (hm1 : many ≤ 120) (hpk : pk + many ≤ 900) (hy0 : 0 ≤ y) (hy1 : y ≤ 100000000) (ret : ∀ h' tk' h₂ bo' rv' rn' ring' sv' sn' sent' held' oct' up' run' pk' flow' tl' t3' t4' p1' b3' b6' b7' b8', KtsTurn (outer.filterMap (·.frame)) h₀ h₂ → Fr h₂ L h' m →
      News h₂ L h' (LED bk drg rg rl dpr pr sl bo' (rgD w.params kr size most start held' oct' t0 t1 t2 t3' t4' rl) (listOf rv'.toArray rn') (prD w.params kp mt up' 1 pd flow' p0 p1' p2 p3 rg ln) (listOf sv'.toArray sn') tl') →
      Below A₀ base outer h₂ → (hd.heap_1 w.params).In h₂ → Top p loose mean mg mb h₂ → KtsDicts (outer.filterMap (·.frame)) h₂ →
      OwnOff tl' [bk, drg, rg, rl, dpr, pr, sl] → (∀ p ∈ tl, p ∈ tl') → Rows tl' rv' ring' → Rows tl' sv' sent' → bo'.IsDictOf (PySem.strKind prog w) (bkV size most mt up' 1 pd flow' ln sl oct' run' pk' sc b0 b1 b2 b3' b4 b5 b6' b7' b8' b9) →
      Inv size most start held' oct' up' run' pk' sc ring' sent' → pk' ≤ pk + many →
      R (.ok (.ret (.bool true))) { s with heap := h', toks := tk' }),
    codeAny (model prog w) (ktrTop dp un gd cn cs L a ccd [] outer) (.call (.ref 268) ⟨[.ref pr, .ref rg, .ref bk, .int many um, .int y uy], []⟩) R s
@[irreducible] noncomputable def g : D := Classical.epsilon (h := ⟨d0⟩) fun d => ¬ PP d
set_option maxRecDepth 100000 in
set_option maxHeartbeats 16000000 in
theorem main (B : Below g.A₀ g.base g.outer g.h₀) (F : Fr g.h₀ g.L g.s.heap g.m) (X : (hd.heap_1 g.w.params).In g.h₀) (T : Top g.p g.loose g.mean g.mg g.mb g.h₀) (hk : g.cs.kind = .function) (XB : (hd.heap_1 g.w.params).In g.base) (TB : Top g.p g.loose g.mean g.mg g.mb g.base) (DD : KtsDicts (g.outer.filterMap (·.frame)) g.h₀) (N : News g.h₀ g.L g.s.heap (LED g.bk g.drg g.rg g.rl g.dpr g.pr g.sl g.bo (rgD g.w.params g.kr g.size g.most g.start g.held g.oct g.t0 g.t1 g.t2 g.t3 g.t4 g.rl) (listOf g.rv.toArray g.rn) (prD g.w.params g.kp g.mt g.up 1 g.pd g.flow g.p0 g.p1 g.p2 g.p3 g.rg g.ln) (listOf g.sv.toArray g.sn) g.tl)) (ORD : ordA g.bk g.drg g.rg g.rl g.dpr g.pr g.sl) (OFF : OwnOff g.tl [g.bk, g.drg, g.rg, g.rl, g.dpr, g.pr, g.sl]) (RR : Rows g.tl g.rv g.ring) (RS : Rows g.tl g.sv g.sent) (HB : g.bo.IsDictOf (PySem.strKind g.prog g.w) (bkV g.size g.most g.mt g.up 1 g.pd g.flow g.ln g.sl g.oct g.run g.pk g.sc g.b0 g.b1 g.b2 g.b3 g.b4 g.b5 g.b6 g.b7 g.b8 g.b9)) (hdp : g.dp + 7 < recursionLimit) (hun : g.un + 256 < cLine) (I : Inv g.size g.most g.start g.held g.oct g.up g.run g.pk g.sc g.ring g.sent) (hm0 : 0 ≤ g.many) (hm1 : g.many ≤ 120) (hpk : g.pk + g.many ≤ 900) (hy0 : 0 ≤ g.y) (hy1 : g.y ≤ 100000000) (ret : ∀ h' tk' h₂ bo' rv' rn' ring' sv' sn' sent' held' oct' up' run' pk' flow' tl' t3' t4' p1' b3' b6' b7' b8', KtsTurn (g.outer.filterMap (·.frame)) g.h₀ h₂ → Fr h₂ g.L h' g.m →
      News h₂ g.L h' (LED g.bk g.drg g.rg g.rl g.dpr g.pr g.sl bo' (rgD g.w.params g.kr g.size g.most g.start held' oct' g.t0 g.t1 g.t2 t3' t4' g.rl) (listOf rv'.toArray rn') (prD g.w.params g.kp g.mt up' 1 g.pd flow' g.p0 p1' g.p2 g.p3 g.rg g.ln) (listOf sv'.toArray sn') tl') →
      Below g.A₀ g.base g.outer h₂ → (hd.heap_1 g.w.params).In h₂ → Top g.p g.loose g.mean g.mg g.mb h₂ → KtsDicts (g.outer.filterMap (·.frame)) h₂ →
      OwnOff tl' [g.bk, g.drg, g.rg, g.rl, g.dpr, g.pr, g.sl] → (∀ p ∈ g.tl, p ∈ tl') → Rows tl' rv' ring' → Rows tl' sv' sent' → bo'.IsDictOf (PySem.strKind g.prog g.w) (bkV g.size g.most g.mt up' 1 g.pd flow' g.ln g.sl oct' run' pk' g.sc g.b0 g.b1 g.b2 b3' g.b4 g.b5 b6' b7' b8' g.b9) →
      Inv g.size g.most g.start held' oct' up' run' pk' g.sc ring' sent' → pk' ≤ g.pk + g.many →
      g.R (.ok (.ret (.bool true))) { g.s with heap := h', toks := tk' }) :
    codeAny (model g.prog g.w) (ktrTop g.dp g.un g.gd g.cn g.cs g.L g.a g.ccd [] g.outer) (.call (.ref 268) ⟨[.ref g.pr, .ref g.rg, .ref g.bk, .int g.many g.um, .int g.y g.uy], []⟩) g.R g.s := by
  dsimp only [LED] at N
  k_dflt (walk_at "my enterS")
  k_steps
  refine Halt.out ?_
  rename Fr _ _ _ _ => F1
  rename News _ _ _ _ => N1
  rename IsRange _ _ _ _ _ _ _ _ => G1
  have F2 := know (know (know (know F1 (Str.ofString "y") _ rfl) (Str.ofString "book") _ rfl) (Str.ofString "ring") _ rfl) (Str.ofString "pr") _ rfl
  refine range_inv2 (n := (g.many - 0).toNat) (fun i m₁ nx => ∃ bo' rv' rn' ring' sv' sn' sent' held' oct' up' run' pk' flow' tl' t3' t4' p1' b3' b6' b7' b8', ∃ u : Str → Option Value,
      nx = LED g.bk g.drg g.rg g.rl g.dpr g.pr g.sl bo' (rgD g.w.params g.kr g.size g.most g.start held' oct' g.t0 g.t1 g.t2 t3' t4' g.rl) (listOf rv'.toArray rn') (prD g.w.params g.kp g.mt up' 1 g.pd flow' g.p0 p1' g.p2 g.p3 g.rg g.ln) (listOf sv'.toArray sn') tl' ∧
      m₁ = (fun z => if z = Str.ofString "pr" then some (Value.ref g.pr) else if z = Str.ofString "ring" then some (Value.ref g.rg) else if z = Str.ofString "book" then some (Value.ref g.bk) else if z = Str.ofString "y" then some (Value.int g.y g.uy) else u z) ∧
      OwnOff tl' [g.bk, g.drg, g.rg, g.rl, g.dpr, g.pr, g.sl] ∧ Rows tl' rv' ring' ∧ Rows tl' sv' sent' ∧ bo'.IsDictOf (PySem.strKind g.prog g.w) (bkV g.size g.most g.mt up' 1 g.pd flow' g.ln g.sl oct' run' pk' g.sc g.b0 g.b1 g.b2 b3' g.b4 g.b5 b6' b7' b8' g.b9) ∧
      Inv g.size g.most g.start held' oct' up' run' pk' g.sc ring' sent' ∧ pk' ≤ g.pk + i ∧ ∀ p ∈ g.tl, p ∈ tl') rfl G1 ?_ ?_ F2 N1 ?_ ?_ ?_
  · exact small_one (by omega) (by omega) (by omega) (by omega)
  · exact rangeSize_nat _ _
  · exact ⟨g.bo, g.rv, g.rn, g.ring, g.sv, g.sn, g.sent, g.held, g.oct, g.up, g.run, g.pk, g.flow, g.tl, _, _, _, _, _, _, _, _, rfl, rfl, OFF, RR, RS, HB, I, by omega, fun _ h => h⟩
  · rintro i t m₁ nx h tk own hi hnt hoff ⟨bo', rv', rn', ring', sv', sn', sent', held', oct', up', run', pk', flow', tl', t3', t4', p1', b3', b6', b7', b8', u, rfl, rfl, o1, r1, r2, hb1, I1, k1, k2⟩ F₁ N₁
    have hO := own_off7 o1 hoff
    have r1' : Rows (tl' ++ own) rv' ring' := r1.mono fun p hp => List.mem_append_left _ hp
    have r2' : Rows (tl' ++ own) sv' sent' := r2.mono fun p hp => List.mem_append_left _ hp
    have i1 := I1.s1
    have i2 := I1.s2
    have i3 := I1.m0
    have i4 := I1.st0
    have i5 := I1.st1
    have i6 := I1.hd0
    have i7 := I1.hd1
    have i8 := I1.len
    have i9 := I1.sc1
    have i10 := I1.sc2
    have i11 := r2.length
    have i12 := I1.rn1
    have i13 := I1.rn0
    dsimp only [LED] at N₁
    simp only [List.cons_append] at N₁
    by_cases hfb : (decide (g.size ≤ (sv'.length : Int)) || decide (0 < g.most) && decide (g.most ≤ oct')) = true
    · have hQ1 := I1.places (by omega)
      have hQ2 := I1.wn
      have hQ3 := I1.rl
      have hQ4 := I1.octB
      k_steps
      all_goals (k_dflt (refine' ret _ _ _ bo' rv' _ ring' sv' _ sent' held' oct' up' run' pk' flow' (tl' ++ own) _ _ _ _ _ _ _ ?kT ?kF ?kN ?kB ?kX ?kP ?kD ?kO ?kS ?kR1 ?kR2 ?kH I1 ?kE; (case kF => k_asm); (case kN => walk_at "my N"); (case kB => assumption); (case kX => assumption); (case kP => assumption); (case kD => assumption); (case kT => first | assumption | exact KtsTurn.refl); (case kO => assumption); (case kS => exact fun p hp => List.mem_append_left _ (k2 p hp)); (case kR1 => assumption); (case kR2 => assumption); (case kH => assumption); (case kE => omega)))
    · have hn := hfb
      simp only [Bool.or_eq_true, Bool.and_eq_true, decide_eq_true_eq] at hn
      have j1 : held' < g.size := by omega
      have j2 : g.most = 0 ∨ oct' < g.most := by omega
      have j3 := I1.next (by omega) j1
      generalize hPe : placeOf g.size g.start held' = P at j3
      have q1 : g.size ≤ g.start + held' → P = g.start + held' - g.size := fun q => by rw [← hPe]; exact if_pos q
      have q2 : g.start + held' < g.size → P = g.start + held' := fun q => by rw [← hPe]; exact if_neg (by omega)
      have sc0 := scale_bd (a := g.y.fdiv 3 + (0 + (i : Int)) * (0 + (i : Int))) (sc := g.sc) (by omega)
      have f30 := fmod3 (g.y + (0 + (i : Int)))
      k_steps
      all_goals first
        | (exfalso; omega)
        | (exfalso; rename (_ != _) = true => q9; refine absurd q9 ?_; rw [Bool.not_eq_true, bne_eq_false_iff_eq]; simp only [List.length_append, List.length_cons, List.length_nil]; walk_at "my bool")
        | (exfalso; rename _ ≠ _ => q9; simp only [List.length_append, List.length_cons, List.length_nil] at q9; omega)
        | skip
      rename Fr _ _ _ _ => F3
      rename News _ _ _ _ => N3
      refine inv_end2 (tl := g.tl) (know (know (know (know F3 (Str.ofString "y") _ rfl) (Str.ofString "book") _ rfl) (Str.ofString "ring") _ rfl) (Str.ofString "pr") _ rfl) (led_pull N3) (fun p hp => .tail _ (Ext.sub (by assumption : Ext (tl' ++ own) _) p (List.mem_append_right _ hp))) hnt (by walk_at "my off") (fun p hp => .tail _ (Ext.sub (by assumption : Ext (tl' ++ own) _) p (List.mem_append_left _ (k2 p hp)))) hoff (fun p hp => by simp [LED, k2 p hp])
        ⟨_, _, _, _, _, _, sent' ++ [(_, _)], _, _, _, _, _, _, _, _, _, _, _, _, _, _, _, rfl, rfl, tidy_off (fun p hp => .tail _ (Ext.sub (by assumption : Ext (tl' ++ own) _) p (List.mem_append_left _ (k2 p hp)))) (by walk_at "my off"), tidy_rows (Rows.mono (by assumption) fun p hp => .tail _ hp), tidy_rows ((r2'.mono fun p hp => .tail _ (Ext.sub (by assumption) p hp)).append (.cons (.mk (.head _)) .nil)), dict_flow (by assumption) (by simp only [List.length_append, List.length_cons, List.length_nil]; walk_at "my bool"), I1.add (by omega) j1 hPe (by omega) sc0.1 sc0.2, by omega, tidy_has⟩
  · rintro m₁ nx h tk ⟨bo', rv', rn', ring', sv', sn', sent', held', oct', up', run', pk', flow', tl', t3', t4', p1', b3', b6', b7', b8', u, rfl, rfl, o1, r1, r2, hb1, I1, k1, k2⟩ F₁ N₁
    have i1 := I1.s1
    have i2 := I1.s2
    have i3 := I1.m0
    have i4 := I1.st0
    have i5 := I1.st1
    have i6 := I1.hd0
    have i7 := I1.hd1
    have i8 := I1.len
    have i11 := r2.length
    have i12 := I1.rn1
    have i13 := I1.rn0
    dsimp only [LED] at N₁
    have hQ1 := I1.places (by omega)
    have hQ2 := I1.wn
    have hQ3 := I1.rl
    have hQ4 := I1.octB
    by_cases hfb : (decide (g.size ≤ (sv'.length : Int)) || decide (0 < g.most) && decide (g.most ≤ oct')) = true
    all_goals (
      k_steps
      all_goals (k_dflt (refine' ret _ _ _ bo' rv' _ ring' sv' _ sent' held' oct' up' run' pk' flow' tl' _ _ _ _ _ _ _ ?kT ?kF ?kN ?kB ?kX ?kP ?kD ?kO ?kS ?kR1 ?kR2 ?kH I1 ?kE; (case kF => k_asm); (case kN => walk_at "my N"); (case kB => assumption); (case kX => assumption); (case kP => assumption); (case kD => assumption); (case kT => first | assumption | exact KtsTurn.refl); (case kO => assumption); (case kS => exact k2); (case kR1 => assumption); (case kR2 => assumption); (case kH => assumption); (case kE => omega))))
theorem all (d : D) : PP d := allOf (by with_unfolding_all exact main) d
end Gburst_spec
section
variable {prog : Program} {w : World} {p : Program} {loose : List Str} {mean : ExcName → Option Value} {mg mb : Str → Option Value}
  {dp un : Nat} {gd : Option (List Code)} {cn : Str} {cs : Scope} {a : Addr} {ccd : Value} {outer : List Env} {A₀ : Around} {base h₀ : Heap} {L : Addr} {m : Str → Option Value} {s : Shared} {R : Result → Shared → Prop}
  (B : Below A₀ base outer h₀) (F : Fr h₀ L s.heap m) (X : (hd.heap_1 w.params).In h₀) (T : Top p loose mean mg mb h₀) (hk : cs.kind = .function)
  (XB : (hd.heap_1 w.params).In base) (TB : Top p loose mean mg mb base) (DD : KtsDicts (outer.filterMap (·.frame)) h₀)
include B F X T hk XB TB DD
set_option maxRecDepth 100000 in
set_option maxHeartbeats 16000000 in
theorem burst_spec {bk drg rg rl dpr pr sl : Addr} {bo : Obj} {kr kp : Nat → Tok} {size most start held oct mt up pd run pk sc : Int} {flow ln : Bool} {t0 t1 t2 t3 t4 p0 p1 p2 p3 b0 b1 b2 b3 b4 b5 b6 b7 b8 b9 : Tok} {rv sv : List Value} {rn sn : Nat} {ring sent : List (Int × Int)} {tl : List (Addr × Obj)}
    (N : News h₀ L s.heap (LED bk drg rg rl dpr pr sl bo (rgD w.params kr size most start held oct t0 t1 t2 t3 t4 rl) (listOf rv.toArray rn) (prD w.params kp mt up 1 pd flow p0 p1 p2 p3 rg ln) (listOf sv.toArray sn) tl))
    (ORD : ordA bk drg rg rl dpr pr sl) (OFF : OwnOff tl [bk, drg, rg, rl, dpr, pr, sl])
    (RR : Rows tl rv ring) (RS : Rows tl sv sent) (HB : bo.IsDictOf (PySem.strKind prog w) (bkV size most mt up 1 pd flow ln sl oct run pk sc b0 b1 b2 b3 b4 b5 b6 b7 b8 b9))
    (hdp : dp + 7 < recursionLimit) (hun : un + 256 < cLine)
    (I : Inv size most start held oct up run pk sc ring sent) {many y : Int} {um uy : Tok} (hm0 : 0 ≤ many) (hm1 : many ≤ 120) (hpk : pk + many ≤ 900) (hy0 : 0 ≤ y) (hy1 : y ≤ 100000000)
    (ret : ∀ h' tk' h₂ bo' rv' rn' ring' sv' sn' sent' held' oct' up' run' pk' flow' tl' t3' t4' p1' b3' b6' b7' b8', KtsTurn (outer.filterMap (·.frame)) h₀ h₂ → Fr h₂ L h' m →
      News h₂ L h' (LED bk drg rg rl dpr pr sl bo' (rgD w.params kr size most start held' oct' t0 t1 t2 t3' t4' rl) (listOf rv'.toArray rn') (prD w.params kp mt up' 1 pd flow' p0 p1' p2 p3 rg ln) (listOf sv'.toArray sn') tl') →
      Below A₀ base outer h₂ → (hd.heap_1 w.params).In h₂ → Top p loose mean mg mb h₂ → KtsDicts (outer.filterMap (·.frame)) h₂ →
      OwnOff tl' [bk, drg, rg, rl, dpr, pr, sl] → (∀ p ∈ tl, p ∈ tl') → Rows tl' rv' ring' → Rows tl' sv' sent' → bo'.IsDictOf (PySem.strKind prog w) (bkV size most mt up' 1 pd flow' ln sl oct' run' pk' sc b0 b1 b2 b3' b4 b5 b6' b7' b8' b9) →
      Inv size most start held' oct' up' run' pk' sc ring' sent' → pk' ≤ pk + many →
      R (.ok (.ret (.bool true))) { s with heap := h', toks := tk' }) :
    codeAny (model prog w) (ktrTop dp un gd cn cs L a ccd [] outer) (.call (.ref 268) ⟨[.ref pr, .ref rg, .ref bk, .int many um, .int y uy], []⟩) R s :=
  Gburst_spec.all { d0 with prog := prog, w := w, p := p, loose := loose, mean := mean, mg := mg, mb := mb, dp := dp, un := un, gd := gd, cn := cn, cs := cs, a := a, ccd := ccd, outer := outer, A₀ := A₀, base := base, h₀ := h₀, L := L, m := m, s := s, R := R, bk := bk, drg := drg, rg := rg, rl := rl, dpr := dpr, pr := pr, sl := sl, bo := bo, kr := kr, kp := kp, size := size, most := most, start := start, held := held, oct := oct, mt := mt, up := up, pd := pd, run := run, pk := pk, sc := sc, flow := flow, ln := ln, t0 := t0, t1 := t1, t2 := t2, t3 := t3, t4 := t4, p0 := p0, p1 := p1, p2 := p2, p3 := p3, b0 := b0, b1 := b1, b2 := b2, b3 := b3, b4 := b4, b5 := b5, b6 := b6, b7 := b7, b8 := b8, b9 := b9, rv := rv, sv := sv, rn := rn, sn := sn, ring := ring, sent := sent, tl := tl, many := many, y := y, um := um, uy := uy } B F X T hk XB TB DD N ORD OFF RR RS HB hdp hun I hm0 hm1 hpk hy0 hy1 ret
end

end partP13
section partP14
local macro_rules | `(tactic| walk_at "pad 0") => `(tactic| skip)
local macro_rules | `(tactic| walk_at "pad 1") => `(tactic| skip)
local macro_rules | `(tactic| walk_at "eval ListComp") => `(tactic| (k_here; (with_reducible show wpAny _ _ (eval (PySem.Expr.ListComp _ [⟨_, _, [_], _⟩] _ _) _) _ _ _); k_dflt (refine LCt.ListComp_T (F₀ := by k_asm) (by with_unfolding_all rfl) (by decide) (by rfl) (by decide) (by rfl) ?_)))
local macro_rules | `(tactic| walk_at "eval ListComp") => `(tactic| (k_here; (with_reducible show wpAny _ _ (eval (PySem.Expr.ListComp _ [⟨_, _, [], _⟩] _ _) _) _ _ _); k_dflt (refine LCg.ListComp_U (F₀ := by k_asm) (by with_unfolding_all rfl) (by decide) (by rfl) (by decide) (by rfl) ?_)))
local macro_rules | `(tactic| walk_at "CompSrcT") => `(tactic| (k_here; refine Halt.mk ?_))
local macro_rules | `(tactic| walk_at "CompSrc") => `(tactic| (k_here; refine Halt.mk ?_))
local macro_rules | `(tactic| walk_at "CompEnd") => `(tactic| (k_here; refine Halt.mk ?_))
local macro_rules | `(tactic| walk_at "callWith builtin:sum") => `(tactic| (k_here; refine callWith_builtin1 ?_))
local macro_rules | `(tactic| walk_at "ite") => `(tactic| first | (refine' iteT ?c ?_; (case c => assumption)) | (refine' iteF ?c ?_; (case c => assumption)))
namespace Gaccepted_spec
def PP (d : D) : Prop :=
  let prog := d.prog
  let w := d.w
  let p := d.p
  let loose := d.loose
  let mean := d.mean
  let mg := d.mg
  let mb := d.mb
  let dp := d.dp
  let un := d.un
  let gd := d.gd
  let cn := d.cn
  let cs := d.cs
  let a := d.a
  let ccd := d.ccd
  let cl := d.cl
  let outer := d.outer
  let A₀ := d.A₀
  let base := d.base
  let h₀ := d.h₀
  let L := d.L
  let m := d.m
  let s := d.s
  let R := d.R
  let bk := d.bk
  let drg := d.drg
  let rg := d.rg
  let rl := d.rl
  let dpr := d.dpr
  let pr := d.pr
  let sl := d.sl
  let bo := d.bo
  let kr := d.kr
  let kp := d.kp
  let size := d.size
  let most := d.most
  let start := d.start
  let held := d.held
  let oct := d.oct
  let mt := d.mt
  let up := d.up
  let st := d.st
  let pd := d.pd
  let run := d.run
  let pk := d.pk
  let sc := d.sc
  let flow := d.flow
  let ln := d.ln
  let t0 := d.t0
  let t1 := d.t1
  let t2 := d.t2
  let t3 := d.t3
  let t4 := d.t4
  let p0 := d.p0
  let p1 := d.p1
  let p2 := d.p2
  let p3 := d.p3
  let b0 := d.b0
  let b1 := d.b1
  let b2 := d.b2
  let b3 := d.b3
  let b4 := d.b4
  let b5 := d.b5
  let b6 := d.b6
  let b7 := d.b7
  let b8 := d.b8
  let b9 := d.b9
  let rv := d.rv
  let sv := d.sv
  let rn := d.rn
  let sn := d.sn
  let ring := d.ring
  let sent := d.sent
  let tl := d.tl
  let n := d.n
  let un9 := d.un9
  ∀ (B : Below A₀ base outer h₀) (F : Fr h₀ L s.heap m) (X : (hd.heap_1 w.params).In h₀) (T : Top p loose mean mg mb h₀) (hk : cs.kind = .function) (N : News h₀ L s.heap (LED bk drg rg rl dpr pr sl bo (rgD w.params kr size most start held oct t0 t1 t2 t3 t4 rl) (listOf rv.toArray rn) (prD w.params kp mt up st pd flow p0 p1 p2 p3 rg ln) (listOf sv.toArray sn) tl)) (ORD : ordA bk drg rg rl dpr pr sl) (OFF : OwnOff tl [bk, drg, rg, rl, dpr, pr, sl]) (RR : Rows tl rv ring) (RS : Rows tl sv sent) (HB : bo.IsDictOf (PySem.strKind prog w) (bkV size most mt up st pd flow ln sl oct run pk sc b0 b1 b2 b3 b4 b5 b6 b7 b8 b9)) (hdp : dp + 7 < recursionLimit) (hun : un + 256 < cLine) (I : Inv size most start held oct up run pk sc ring sent) (hpk : pk ≤ 900) (hst : st = 0 ∨ st = 1 ∨ st = 2) (ret : ∀ h' tk' bo' rv' rn' ring' sl' sv' sn' start' held' oct' mt' up' flow' run' tl' t2' t3' t4' p0' p1' b2' b3' b6' b7', Fr h₀ L h' m →
      News h₀ L h' (LED bk drg rg rl dpr pr sl' bo' (rgD w.params kr size most start' held' oct' t0 t1 t2' t3' t4' rl) (listOf rv'.toArray rn') (prD w.params kp mt' up' st pd flow' p0' p1' p2 p3 rg ln) (listOf sv'.toArray sn') tl') →
      ordA bk drg rg rl dpr pr sl' → OwnOff tl' [bk, drg, rg, rl, dpr, pr, sl'] → (∀ p ∈ tl, p ∈ tl') → Rows tl' rv' ring' → Rows tl' sv' (sent.filter fun r => decide (n < r.1)) →
      bo'.IsDictOf (PySem.strKind prog w) (bkV size most mt' up' st pd flow' ln sl' oct' run' pk sc b0 b1 b2' b3' b4 b5 b6' b7' b8 b9) →
      ((mt < n ∧ mt' = n ∧ up' = max up (n + 1) ∧ flow' = false) ∨ (¬ mt < n ∧ mt' = mt ∧ up' = up ∧ flow' = flow)) →
      Inv size most start' held' oct' up' run' pk sc ring' (sent.filter fun r => decide (n < r.1)) →
      R (.ok (.ret (.bool true))) { s with heap := h', toks := tk' }),
    codeAny (model prog w) (ktrTop dp un gd cn cs L a ccd cl outer) (.call (.ref 273) ⟨[.ref pr, .ref rg, .ref bk, .int n un9], []⟩) R s
@[irreducible] noncomputable def g : D := Classical.epsilon (h := ⟨d0⟩) fun d => ¬ PP d
set_option maxRecDepth 100000 in
set_option maxHeartbeats 16000000 in
theorem main (B : Below g.A₀ g.base g.outer g.h₀) (F : Fr g.h₀ g.L g.s.heap g.m) (X : (hd.heap_1 g.w.params).In g.h₀) (T : Top g.p g.loose g.mean g.mg g.mb g.h₀) (hk : g.cs.kind = .function) (N : News g.h₀ g.L g.s.heap (LED g.bk g.drg g.rg g.rl g.dpr g.pr g.sl g.bo (rgD g.w.params g.kr g.size g.most g.start g.held g.oct g.t0 g.t1 g.t2 g.t3 g.t4 g.rl) (listOf g.rv.toArray g.rn) (prD g.w.params g.kp g.mt g.up g.st g.pd g.flow g.p0 g.p1 g.p2 g.p3 g.rg g.ln) (listOf g.sv.toArray g.sn) g.tl)) (ORD : ordA g.bk g.drg g.rg g.rl g.dpr g.pr g.sl) (OFF : OwnOff g.tl [g.bk, g.drg, g.rg, g.rl, g.dpr, g.pr, g.sl]) (RR : Rows g.tl g.rv g.ring) (RS : Rows g.tl g.sv g.sent) (HB : g.bo.IsDictOf (PySem.strKind g.prog g.w) (bkV g.size g.most g.mt g.up g.st g.pd g.flow g.ln g.sl g.oct g.run g.pk g.sc g.b0 g.b1 g.b2 g.b3 g.b4 g.b5 g.b6 g.b7 g.b8 g.b9)) (hdp : g.dp + 7 < recursionLimit) (hun : g.un + 256 < cLine) (I : Inv g.size g.most g.start g.held g.oct g.up g.run g.pk g.sc g.ring g.sent) (hpk : g.pk ≤ 900) (hst : g.st = 0 ∨ g.st = 1 ∨ g.st = 2) (ret : ∀ h' tk' bo' rv' rn' ring' sl' sv' sn' start' held' oct' mt' up' flow' run' tl' t2' t3' t4' p0' p1' b2' b3' b6' b7', Fr g.h₀ g.L h' g.m →
      News g.h₀ g.L h' (LED g.bk g.drg g.rg g.rl g.dpr g.pr sl' bo' (rgD g.w.params g.kr g.size g.most start' held' oct' g.t0 g.t1 t2' t3' t4' g.rl) (listOf rv'.toArray rn') (prD g.w.params g.kp mt' up' g.st g.pd flow' p0' p1' g.p2 g.p3 g.rg g.ln) (listOf sv'.toArray sn') tl') →
      ordA g.bk g.drg g.rg g.rl g.dpr g.pr sl' → OwnOff tl' [g.bk, g.drg, g.rg, g.rl, g.dpr, g.pr, sl'] → (∀ p ∈ g.tl, p ∈ tl') → Rows tl' rv' ring' → Rows tl' sv' (g.sent.filter fun r => decide (g.n < r.1)) →
      bo'.IsDictOf (PySem.strKind g.prog g.w) (bkV g.size g.most mt' up' g.st g.pd flow' g.ln sl' oct' run' g.pk g.sc g.b0 g.b1 b2' b3' g.b4 g.b5 b6' b7' g.b8 g.b9) →
      ((g.mt < g.n ∧ mt' = g.n ∧ up' = max g.up (g.n + 1) ∧ flow' = false) ∨ (¬ g.mt < g.n ∧ mt' = g.mt ∧ up' = g.up ∧ flow' = g.flow)) →
      Inv g.size g.most start' held' oct' up' run' g.pk g.sc ring' (g.sent.filter fun r => decide (g.n < r.1)) →
      g.R (.ok (.ret (.bool true))) { g.s with heap := h', toks := tk' }) :
    codeAny (model g.prog g.w) (ktrTop g.dp g.un g.gd g.cn g.cs g.L g.a g.ccd g.cl g.outer) (.call (.ref 273) ⟨[.ref g.pr, .ref g.rg, .ref g.bk, .int g.n g.un9], []⟩) g.R g.s := by
  have i1 := I.s1
  have i2 := I.s2
  have i3 := I.m0
  have i4 := I.st0
  have i5 := I.st1
  have i6 := I.hd0
  have i7 := I.hd1
  have i8 := I.len
  have i11 := RS.length
  have i12 := I.rn1
  have i13 := I.rn0
  have hP1 := I.places hpk
  dsimp only [LED] at N
  k_dflt (walk_at "my enterC")
  rename Fr _ _ _ _ => F1
  rename News _ _ _ _ => N1
  obtain ⟨T0, N2, hm0, hs0, hd0⟩ := pull_tail N1
  clear N1
  have O2 : OwnOff T0 [g.bk, g.drg, g.rg, g.rl, g.dpr, g.pr, g.sl] := by
    intro p hp b hb
    rcases hd0 p hp with rfl | hp
    · exact offNe (by walk_at "my ne") (by walk_at "my ne") (by walk_at "my ne") (by walk_at "my ne") (by walk_at "my ne") (by walk_at "my ne") (by walk_at "my ne") b hb
    · exact OFF p hp b hb
  have RR2 := RR.mono hs0
  have RS2 := RS.mono hs0
  dsimp only [LED] at N2
  rcases (show (g.mt < g.n ∧ ¬ ((true != decide (g.mt < g.n)) = true)) ∨ (¬ g.mt < g.n ∧ ¬ ((false != decide (g.mt < g.n)) = true)) from by by_cases h : g.mt < g.n <;> simp [h]) with ⟨hn, hq⟩ | ⟨hn, hq⟩
  all_goals (
    k_steps
    refine Halt.out ?_
    rename Ext _ _ => S9
    rename freeRun _ _ _ _ _ _ = _ => E9
    obtain ⟨t9, et⟩ := ext_name S9
    subst et
    have RS9 := RS2.mono S9.sub
    have hm9 := S9.sub _ hm0
    refine LCt.CompSrcT.ledger rfl (by k_asm) (by k_asm) (by k_mem) ?_ ?_
    · rw [List.size_toArray, PySem.sizeLine_eq]; omega
    · intro g9
      refine compT_ind (fun i ys => Rows t9 ys ((g.sent.take i).filter fun r => decide (g.n < r.1))) ?_ ?_ _ 0 [] (Nat.zero_add _) .nil
      · intro ys hys
        have I2 := I.free hpk E9 (Int.le_refl g.up)
        rw [List.size_toArray, show g.sv.length = g.sent.length from i11, List.take_length] at hys
        generalize hFs : (g.sent.filter fun r => decide (g.n < r.1)) = Fs at hys I2 ret
        have j1 := I2.s1
        have j4 := I2.st0
        have j5 := I2.st1
        have j6 := I2.hd0
        have j7 := I2.hd1
        have j8 := I2.len
        have j9 := hys.length
        unfold LCg.FinE
        intro D9 h9 tk9 F9 N9 o9
        have o8 := o9
        simp only [LCg.Off1, and_true] at o9
        have O8 : ordA g.bk g.drg g.rg g.rl g.dpr g.pr D9 := by first | walk_at "my ord" | (dsimp only [ordA]; omega)
        have O7 : OwnOff t9 [g.bk, g.drg, g.rg, g.rl, g.dpr, g.pr, D9] := off_new1 (by assumption) (by simpa only [LCg.Off1] using o8.2.2.2.2.2.2.2)
        (try simp only [List.nil_append, List.cons_append] at N9)
        (try dsimp only)
        k_steps
        refine Halt.out ?_
        refine LCg.CompSrc.ledger rfl (by k_asm) (by k_asm) (by k_mem) ?_ ?_
        · rw [List.size_toArray, PySem.sizeLine_eq]; omega
        · intro g8
          refine compU_ind (fun i zs => IntsAre zs ((Fs.take i).map (·.2))) ?_ ?_ _ 0 [] (Nat.zero_add _) .nil
          · intro zs hzs
            rw [List.size_toArray, show ys.length = Fs.length from j9, List.take_length] at hzs
            unfold LCg.FinE
            intro D7 h7 tk7 F7 N7 o7
            simp only [LCg.Off1, and_true] at o7
            (try simp only [List.nil_append, List.cons_append] at N7)
            (try dsimp only)
            have hR1 := I2.places hpk
            have hR2 := I2.wn
            have hR3 := I2.rl
            have hR4 := I2.oc
            subst hR4
            k_steps
            all_goals (
              rename Fr _ _ _ _ => F6
              rename News _ _ _ _ => N6
              refine ret _ _ _ _ _ _ D9 ys _ _ _ _ _ _ _ _ t9 _ _ _ _ _ _ _ _ _ F6 N6 O8 O7 (fun p hp => S9.sub p (hs0 p hp)) (by assumption) hys (by assumption) ?_ ?_
              · first
                | exact .inl ⟨hn, rfl, rfl, rfl⟩
                | exact .inr ⟨hn, rfl, rfl, rfl⟩
              · exact I2.upTo (by omega) (by first | exact if_pos (by omega) | exact if_neg (by omega)))
          · intro i zs v I9 oI C9 oC D7 m₂ h7 tk7 E' hi hj hP hC hx F7 N7 off ne
            obtain ⟨r, hr, hrow⟩ := row_at hys hP
            cases hrow with
            | @mk a9 i9 o9' ti9 tt9 n9 hmr =>
              k_steps
              refine Halt.out ?_
              rename Fr _ _ _ _ => F8
              rename News _ _ _ _ => N8
              refine LCg.CompEnd.intro F8 N8 _ (fun p hp => hp) off (.inr ⟨_, by k_mem, rfl, _, rfl⟩) ⟨rfl, ?_⟩
              rw [map_snoc hr]
              exact ints_snoc hj
      · intro i ys v I9 oI C9 oC D9 m₂ h9 tk9 E' hi hj hP hC hx F9 N9 off ne
        obtain ⟨r, hr, hrow⟩ := row_at RS9 hP
        cases hrow with
        | @mk a9 i9 o9 ti9 tt9 n9 hmr =>
          k_steps
          all_goals (
            refine Halt.out ?_
            rename Fr _ _ _ _ => F8
            rename News _ _ _ _ => N8)
          · refine LCg.CompEnd.intro F8 N8 _ (fun p hp => hp) off (.inr ⟨_, by k_mem, rfl, _, rfl⟩) ⟨rfl, ?_⟩
            rw [filt_yes hr (decide_eq_true (by first | assumption | omega))]
            exact hj.append (.cons (.mk hmr) .nil)
          · refine LCg.CompEnd.intro F8 N8 _ (fun p hp => hp) off (.inr ⟨_, by k_mem, rfl, _, rfl⟩) ⟨rfl, ?_⟩
            rw [filt_no hr (decide_eq_false (by first | assumption | omega))]
            exact hj)
theorem all (d : D) : PP d := allOf (by with_unfolding_all exact main) d
end Gaccepted_spec
section
variable {prog : Program} {w : World} {p : Program} {loose : List Str} {mean : ExcName → Option Value} {mg mb : Str → Option Value}
  {dp un : Nat} {gd : Option (List Code)} {cn : Str} {cs : Scope} {a : Addr} {ccd : Value} {cl : List (Str × Addr)} {outer : List Env} {A₀ : Around} {base h₀ : Heap} {L : Addr} {m : Str → Option Value} {s : Shared} {R : Result → Shared → Prop}
  (B : Below A₀ base outer h₀) (F : Fr h₀ L s.heap m) (X : (hd.heap_1 w.params).In h₀) (T : Top p loose mean mg mb h₀) (hk : cs.kind = .function)
include B F X T hk
set_option maxRecDepth 100000 in
set_option maxHeartbeats 16000000 in
theorem accepted_spec {bk drg rg rl dpr pr sl : Addr} {bo : Obj} {kr kp : Nat → Tok} {size most start held oct mt up st pd run pk sc : Int} {flow ln : Bool} {t0 t1 t2 t3 t4 p0 p1 p2 p3 b0 b1 b2 b3 b4 b5 b6 b7 b8 b9 : Tok} {rv sv : List Value} {rn sn : Nat} {ring sent : List (Int × Int)} {tl : List (Addr × Obj)}
    (N : News h₀ L s.heap (LED bk drg rg rl dpr pr sl bo (rgD w.params kr size most start held oct t0 t1 t2 t3 t4 rl) (listOf rv.toArray rn) (prD w.params kp mt up st pd flow p0 p1 p2 p3 rg ln) (listOf sv.toArray sn) tl))
    (ORD : ordA bk drg rg rl dpr pr sl) (OFF : OwnOff tl [bk, drg, rg, rl, dpr, pr, sl])
    (RR : Rows tl rv ring) (RS : Rows tl sv sent) (HB : bo.IsDictOf (PySem.strKind prog w) (bkV size most mt up st pd flow ln sl oct run pk sc b0 b1 b2 b3 b4 b5 b6 b7 b8 b9))
    (hdp : dp + 7 < recursionLimit) (hun : un + 256 < cLine)
    (I : Inv size most start held oct up run pk sc ring sent) {n : Int} {un9 : Tok} (hpk : pk ≤ 900) (hst : st = 0 ∨ st = 1 ∨ st = 2)
    (ret : ∀ h' tk' bo' rv' rn' ring' sl' sv' sn' start' held' oct' mt' up' flow' run' tl' t2' t3' t4' p0' p1' b2' b3' b6' b7', Fr h₀ L h' m →
      News h₀ L h' (LED bk drg rg rl dpr pr sl' bo' (rgD w.params kr size most start' held' oct' t0 t1 t2' t3' t4' rl) (listOf rv'.toArray rn') (prD w.params kp mt' up' st pd flow' p0' p1' p2 p3 rg ln) (listOf sv'.toArray sn') tl') →
      ordA bk drg rg rl dpr pr sl' → OwnOff tl' [bk, drg, rg, rl, dpr, pr, sl'] → (∀ p ∈ tl, p ∈ tl') → Rows tl' rv' ring' → Rows tl' sv' (sent.filter fun r => decide (n < r.1)) →
      bo'.IsDictOf (PySem.strKind prog w) (bkV size most mt' up' st pd flow' ln sl' oct' run' pk sc b0 b1 b2' b3' b4 b5 b6' b7' b8 b9) →
      ((mt < n ∧ mt' = n ∧ up' = max up (n + 1) ∧ flow' = false) ∨ (¬ mt < n ∧ mt' = mt ∧ up' = up ∧ flow' = flow)) →
      Inv size most start' held' oct' up' run' pk sc ring' (sent.filter fun r => decide (n < r.1)) →
      R (.ok (.ret (.bool true))) { s with heap := h', toks := tk' }) :
    codeAny (model prog w) (ktrTop dp un gd cn cs L a ccd cl outer) (.call (.ref 273) ⟨[.ref pr, .ref rg, .ref bk, .int n un9], []⟩) R s :=
  Gaccepted_spec.all { d0 with prog := prog, w := w, p := p, loose := loose, mean := mean, mg := mg, mb := mb, dp := dp, un := un, gd := gd, cn := cn, cs := cs, a := a, ccd := ccd, cl := cl, outer := outer, A₀ := A₀, base := base, h₀ := h₀, L := L, m := m, s := s, R := R, bk := bk, drg := drg, rg := rg, rl := rl, dpr := dpr, pr := pr, sl := sl, bo := bo, kr := kr, kp := kp, size := size, most := most, start := start, held := held, oct := oct, mt := mt, up := up, st := st, pd := pd, run := run, pk := pk, sc := sc, flow := flow, ln := ln, t0 := t0, t1 := t1, t2 := t2, t3 := t3, t4 := t4, p0 := p0, p1 := p1, p2 := p2, p3 := p3, b0 := b0, b1 := b1, b2 := b2, b3 := b3, b4 := b4, b5 := b5, b6 := b6, b7 := b7, b8 := b8, b9 := b9, rv := rv, sv := sv, rn := rn, sn := sn, ring := ring, sent := sent, tl := tl, n := n, un9 := un9 } B F X T hk N ORD OFF RR RS HB hdp hun I hpk hst ret
end

end partP14
local macro_rules | `(tactic| walk_at "call ref") => `(tactic| (k_here; k_dflt (refine wpAny_call ?_; apply replicate_spec; walk_at "my stdn"; (assumption); ktr_room; ktr_units); intros; walk_at "my end"))
local macro_rules | `(tactic| walk_at "call ref") => `(tactic| (k_here; k_dflt (refine wpAny_call ?_; apply probe1_spec; walk_at "my stdn"; (assumption); ktr_room; ktr_units); intros; walk_at "my end"))
local macro_rules | `(tactic| walk_at "call ref") => `(tactic| (k_here; k_dflt (refine wpAny_call ?_; apply probe2_spec; walk_at "my stdn"; (assumption); ktr_room; ktr_units; (walk_at "my fits")); intros; walk_at "my end"))
local macro_rules | `(tactic| walk_at "call ref") => `(tactic| (k_here; k_dflt (refine wpAny_call ?_; apply snap_spec; walk_at "my stdn"; (assumption); ktr_room; ktr_units); intros; walk_at "my end"))
local macro_rules | `(tactic| walk_at "call ref") => `(tactic| (k_here; k_dflt (refine wpAny_call ?_; apply same2_spec; walk_at "my stdn"; (iterate 5 (assumption)); ktr_room; ktr_units; (iterate 2 (walk_at "my fits")); (iterate 3 (first | exact rfl | omega)); (first | exact rfl | assumption | walk_at "my bool")); intros; walk_at "my end"))
local macro_rules | `(tactic| walk_at "call ref") => `(tactic| (k_here; k_dflt (refine wpAny_call ?_; apply turned2_spec; walk_at "my stdn"; (iterate 4 (assumption)); ktr_room; ktr_units); intros; walk_at "my end"))
local macro_rules | `(tactic| walk_at "call ref") => `(tactic| (k_here; k_dflt (refine wpAny_call ?_; apply accepted_spec; walk_at "my stdn"; (iterate 4 (assumption)); ktr_room; ktr_units; (assumption); (iterate 2 (walk_at "my fits"))); intros; walk_at "my end"))
namespace Grefused_spec
def PP (d : D) : Prop :=
  let prog := d.prog
  let w := d.w
  let p := d.p
  let loose := d.loose
  let mean := d.mean
  let mg := d.mg
  let mb := d.mb
  let dp := d.dp
  let un := d.un
  let gd := d.gd
  let cn := d.cn
  let cs := d.cs
  let a := d.a
  let ccd := d.ccd
  let cl := d.cl
  let outer := d.outer
  let A₀ := d.A₀
  let base := d.base
  let h₀ := d.h₀
  let L := d.L
  let m := d.m
  let s := d.s
  let R := d.R
  let bk := d.bk
  let drg := d.drg
  let rg := d.rg
  let rl := d.rl
  let dpr := d.dpr
  let pr := d.pr
  let sl := d.sl
  let bo := d.bo
  let kr := d.kr
  let kp := d.kp
  let size := d.size
  let most := d.most
  let start := d.start
  let held := d.held
  let oct := d.oct
  let mt := d.mt
  let up := d.up
  let run := d.run
  let pk := d.pk
  let sc := d.sc
  let flow := d.flow
  let ln := d.ln
  let t0 := d.t0
  let t1 := d.t1
  let t2 := d.t2
  let t3 := d.t3
  let t4 := d.t4
  let p0 := d.p0
  let p1 := d.p1
  let p2 := d.p2
  let p3 := d.p3
  let b0 := d.b0
  let b1 := d.b1
  let b2 := d.b2
  let b3 := d.b3
  let b4 := d.b4
  let b5 := d.b5
  let b6 := d.b6
  let b7 := d.b7
  let b8 := d.b8
  let b9 := d.b9
  let rv := d.rv
  let sv := d.sv
  let rn := d.rn
  let sn := d.sn
  let ring := d.ring
  let sent := d.sent
  let tl := d.tl
  let y := d.y
  let uy := d.uy
  ∀ (B : Below A₀ base outer h₀) (F : Fr h₀ L s.heap m) (X : (hd.heap_1 w.params).In h₀) (T : Top p loose mean mg mb h₀) (hk : cs.kind = .function) (N : News h₀ L s.heap (LED bk drg rg rl dpr pr sl bo (rgD w.params kr size most start held oct t0 t1 t2 t3 t4 rl) (listOf rv.toArray rn) (prD w.params kp mt up 1 0 flow p0 p1 p2 p3 rg ln) (listOf sv.toArray sn) tl)) (ORD : ordA bk drg rg rl dpr pr sl) (OFF : OwnOff tl [bk, drg, rg, rl, dpr, pr, sl]) (RR : Rows tl rv ring) (RS : Rows tl sv sent) (HB : bo.IsDictOf (PySem.strKind prog w) (bkV size most mt up 1 0 flow ln sl oct run pk sc b0 b1 b2 b3 b4 b5 b6 b7 b8 b9)) (hdp : dp + 8 < recursionLimit) (hun : un + 300 < cLine) (I : Inv size most start held oct up run pk sc ring sent) (hpk : pk ≤ 900) (hy0 : 0 ≤ y) (ret : ∀ h' tk' bo' rv' rn' ring' sl' sv' sn' sent' start' held' oct' mt' up' flow' run' tl' t2' t3' t4' p0' p1' p2' p3' b2' b3' b4' b5' b6' b7', Fr h₀ L h' m →
      News h₀ L h' (LED bk drg rg rl dpr pr sl' bo' (rgD w.params kr size most start' held' oct' t0 t1 t2' t3' t4' rl) (listOf rv'.toArray rn') (prD w.params kp mt' up' 1 0 flow' p0' p1' p2' p3' rg ln) (listOf sv'.toArray sn') tl') →
      ordA bk drg rg rl dpr pr sl' → OwnOff tl' [bk, drg, rg, rl, dpr, pr, sl'] → (∀ p ∈ tl, p ∈ tl') → Rows tl' rv' ring' → Rows tl' sv' sent' →
      bo'.IsDictOf (PySem.strKind prog w) (bkV size most mt' up' 1 0 flow' ln sl' oct' run' pk sc b0 b1 b2' b3' b4' b5' b6' b7' b8 b9) →
      Inv size most start' held' oct' up' run' pk sc ring' sent' →
      R (.ok (.ret (.bool true))) { s with heap := h', toks := tk' }),
    codeAny (model prog w) (ktrTop dp un gd cn cs L a ccd cl outer) (.call (.ref 280) ⟨[.ref pr, .ref rg, .ref bk, .int y uy], []⟩) R s
@[irreducible] noncomputable def g : D := Classical.epsilon (h := ⟨d0⟩) fun d => ¬ PP d
set_option maxRecDepth 100000 in
set_option maxHeartbeats 16000000 in
theorem main (B : Below g.A₀ g.base g.outer g.h₀) (F : Fr g.h₀ g.L g.s.heap g.m) (X : (hd.heap_1 g.w.params).In g.h₀) (T : Top g.p g.loose g.mean g.mg g.mb g.h₀) (hk : g.cs.kind = .function) (N : News g.h₀ g.L g.s.heap (LED g.bk g.drg g.rg g.rl g.dpr g.pr g.sl g.bo (rgD g.w.params g.kr g.size g.most g.start g.held g.oct g.t0 g.t1 g.t2 g.t3 g.t4 g.rl) (listOf g.rv.toArray g.rn) (prD g.w.params g.kp g.mt g.up 1 0 g.flow g.p0 g.p1 g.p2 g.p3 g.rg g.ln) (listOf g.sv.toArray g.sn) g.tl)) (ORD : ordA g.bk g.drg g.rg g.rl g.dpr g.pr g.sl) (OFF : OwnOff g.tl [g.bk, g.drg, g.rg, g.rl, g.dpr, g.pr, g.sl]) (RR : Rows g.tl g.rv g.ring) (RS : Rows g.tl g.sv g.sent) (HB : g.bo.IsDictOf (PySem.strKind g.prog g.w) (bkV g.size g.most g.mt g.up 1 0 g.flow g.ln g.sl g.oct g.run g.pk g.sc g.b0 g.b1 g.b2 g.b3 g.b4 g.b5 g.b6 g.b7 g.b8 g.b9)) (hdp : g.dp + 8 < recursionLimit) (hun : g.un + 300 < cLine) (I : Inv g.size g.most g.start g.held g.oct g.up g.run g.pk g.sc g.ring g.sent) (hpk : g.pk ≤ 900) (hy0 : 0 ≤ g.y) (ret : ∀ h' tk' bo' rv' rn' ring' sl' sv' sn' sent' start' held' oct' mt' up' flow' run' tl' t2' t3' t4' p0' p1' p2' p3' b2' b3' b4' b5' b6' b7', Fr g.h₀ g.L h' g.m →
      News g.h₀ g.L h' (LED g.bk g.drg g.rg g.rl g.dpr g.pr sl' bo' (rgD g.w.params g.kr g.size g.most start' held' oct' g.t0 g.t1 t2' t3' t4' g.rl) (listOf rv'.toArray rn') (prD g.w.params g.kp mt' up' 1 0 flow' p0' p1' p2' p3' g.rg g.ln) (listOf sv'.toArray sn') tl') →
      ordA g.bk g.drg g.rg g.rl g.dpr g.pr sl' → OwnOff tl' [g.bk, g.drg, g.rg, g.rl, g.dpr, g.pr, sl'] → (∀ p ∈ g.tl, p ∈ tl') → Rows tl' rv' ring' → Rows tl' sv' sent' →
      bo'.IsDictOf (PySem.strKind g.prog g.w) (bkV g.size g.most mt' up' 1 0 flow' g.ln sl' oct' run' g.pk g.sc g.b0 g.b1 b2' b3' b4' b5' b6' b7' g.b8 g.b9) →
      Inv g.size g.most start' held' oct' up' run' g.pk g.sc ring' sent' →
      g.R (.ok (.ret (.bool true))) { g.s with heap := h', toks := tk' }) :
    codeAny (model g.prog g.w) (ktrTop g.dp g.un g.gd g.cn g.cs g.L g.a g.ccd g.cl g.outer) (.call (.ref 280) ⟨[.ref g.pr, .ref g.rg, .ref g.bk, .int g.y g.uy], []⟩) g.R g.s := by
  have i5 := I.rn1
  have R0 : Rows g.tl [] [] := .nil
  have I0 := I.empty (g.mt + 1)
  dsimp only [LED] at N
  k_dflt ktr_enter
  k_steps
  all_goals first | (exfalso; omega) | skip
  · rename Fr _ _ _ _ => F6
    rename News _ _ _ _ => N6
    exact ret _ _ _ _ _ _ _ _ _ _ _ _ _ _ _ _ _ _ _ _ _ _ _ _ _ _ _ _ _ _ _ F6 N6 ORD OFF (fun _ h => h) RR RS HB I
  · rename Fr _ _ _ _ => F6
    rename News _ _ _ _ => N6
    exact ret _ _ _ _ _ _ _ _ _ _ _ _ _ _ _ _ _ _ _ _ _ _ _ _ _ _ _ _ _ _ _ F6 N6 (by assumption) (by assumption) (by assumption) (by assumption) (by assumption) (dict_eqs (by assumption) rfl (by omega) rfl rfl) (Inv.empty (by assumption) _)
theorem all (d : D) : PP d := allOf (by with_unfolding_all exact main) d
end Grefused_spec
section
variable {prog : Program} {w : World} {p : Program} {loose : List Str} {mean : ExcName → Option Value} {mg mb : Str → Option Value}
  {dp un : Nat} {gd : Option (List Code)} {cn : Str} {cs : Scope} {a : Addr} {ccd : Value} {cl : List (Str × Addr)} {outer : List Env} {A₀ : Around} {base h₀ : Heap} {L : Addr} {m : Str → Option Value} {s : Shared} {R : Result → Shared → Prop}
  (B : Below A₀ base outer h₀) (F : Fr h₀ L s.heap m) (X : (hd.heap_1 w.params).In h₀) (T : Top p loose mean mg mb h₀) (hk : cs.kind = .function)
include B F X T hk
set_option maxRecDepth 100000 in
set_option maxHeartbeats 16000000 in
theorem refused_spec {bk drg rg rl dpr pr sl : Addr} {bo : Obj} {kr kp : Nat → Tok} {size most start held oct mt up run pk sc : Int} {flow ln : Bool} {t0 t1 t2 t3 t4 p0 p1 p2 p3 b0 b1 b2 b3 b4 b5 b6 b7 b8 b9 : Tok} {rv sv : List Value} {rn sn : Nat} {ring sent : List (Int × Int)} {tl : List (Addr × Obj)}
    (N : News h₀ L s.heap (LED bk drg rg rl dpr pr sl bo (rgD w.params kr size most start held oct t0 t1 t2 t3 t4 rl) (listOf rv.toArray rn) (prD w.params kp mt up 1 0 flow p0 p1 p2 p3 rg ln) (listOf sv.toArray sn) tl))
    (ORD : ordA bk drg rg rl dpr pr sl) (OFF : OwnOff tl [bk, drg, rg, rl, dpr, pr, sl])
    (RR : Rows tl rv ring) (RS : Rows tl sv sent) (HB : bo.IsDictOf (PySem.strKind prog w) (bkV size most mt up 1 0 flow ln sl oct run pk sc b0 b1 b2 b3 b4 b5 b6 b7 b8 b9))
    (hdp : dp + 8 < recursionLimit) (hun : un + 300 < cLine)
    (I : Inv size most start held oct up run pk sc ring sent) {y : Int} {uy : Tok} (hpk : pk ≤ 900) (hy0 : 0 ≤ y)
    (ret : ∀ h' tk' bo' rv' rn' ring' sl' sv' sn' sent' start' held' oct' mt' up' flow' run' tl' t2' t3' t4' p0' p1' p2' p3' b2' b3' b4' b5' b6' b7', Fr h₀ L h' m →
      News h₀ L h' (LED bk drg rg rl dpr pr sl' bo' (rgD w.params kr size most start' held' oct' t0 t1 t2' t3' t4' rl) (listOf rv'.toArray rn') (prD w.params kp mt' up' 1 0 flow' p0' p1' p2' p3' rg ln) (listOf sv'.toArray sn') tl') →
      ordA bk drg rg rl dpr pr sl' → OwnOff tl' [bk, drg, rg, rl, dpr, pr, sl'] → (∀ p ∈ tl, p ∈ tl') → Rows tl' rv' ring' → Rows tl' sv' sent' →
      bo'.IsDictOf (PySem.strKind prog w) (bkV size most mt' up' 1 0 flow' ln sl' oct' run' pk sc b0 b1 b2' b3' b4' b5' b6' b7' b8 b9) →
      Inv size most start' held' oct' up' run' pk sc ring' sent' →
      R (.ok (.ret (.bool true))) { s with heap := h', toks := tk' }) :
    codeAny (model prog w) (ktrTop dp un gd cn cs L a ccd cl outer) (.call (.ref 280) ⟨[.ref pr, .ref rg, .ref bk, .int y uy], []⟩) R s :=
  Grefused_spec.all { d0 with prog := prog, w := w, p := p, loose := loose, mean := mean, mg := mg, mb := mb, dp := dp, un := un, gd := gd, cn := cn, cs := cs, a := a, ccd := ccd, cl := cl, outer := outer, A₀ := A₀, base := base, h₀ := h₀, L := L, m := m, s := s, R := R, bk := bk, drg := drg, rg := rg, rl := rl, dpr := dpr, pr := pr, sl := sl, bo := bo, kr := kr, kp := kp, size := size, most := most, start := start, held := held, oct := oct, mt := mt, up := up, run := run, pk := pk, sc := sc, flow := flow, ln := ln, t0 := t0, t1 := t1, t2 := t2, t3 := t3, t4 := t4, p0 := p0, p1 := p1, p2 := p2, p3 := p3, b0 := b0, b1 := b1, b2 := b2, b3 := b3, b4 := b4, b5 := b5, b6 := b6, b7 := b7, b8 := b8, b9 := b9, rv := rv, sv := sv, rn := rn, sn := sn, ring := ring, sent := sent, tl := tl, y := y, uy := uy } B F X T hk N ORD OFF RR RS HB hdp hun I hpk hy0 ret
end

local macro_rules | `(tactic| walk_at "call ref") => `(tactic| (k_here; k_dflt (refine wpAny_call ?_; apply refused_spec; walk_at "my stdn"; (iterate 4 (assumption)); ktr_room; ktr_units; (assumption); (iterate 2 (walk_at "my fits"))); intros; walk_at "my end"))
section partP16
local macro_rules | `(tactic| walk_at "LeaveS") => `(tactic| (k_dflt (refine' leaveS_r ?F ?N ?T ?_; (case F => k_asm); (case N => k_asm); (case T => exact KtsTurn.trans (by assumption) (by assumption)); k_whole); intro kg kT kF kN kB kX₀ kP kD; (have kX := kFor kF kX₀); (try k_lift kB); kts_tail))
namespace Gsnapshot_spec
def PP (d : D) : Prop :=
  let prog := d.prog
  let w := d.w
  let p := d.p
  let loose := d.loose
  let mean := d.mean
  let mg := d.mg
  let mb := d.mb
  let dp := d.dp
  let un := d.un
  let gd := d.gd
  let cn := d.cn
  let cs := d.cs
  let a := d.a
  let ccd := d.ccd
  let outer := d.outer
  let A₀ := d.A₀
  let base := d.base
  let h₀ := d.h₀
  let L := d.L
  let m := d.m
  let s := d.s
  let R := d.R
  let bk := d.bk
  let drg := d.drg
  let rg := d.rg
  let rl := d.rl
  let dpr := d.dpr
  let pr := d.pr
  let sl := d.sl
  let bo := d.bo
  let kr := d.kr
  let kp := d.kp
  let size := d.size
  let most := d.most
  let start := d.start
  let held := d.held
  let oct := d.oct
  let mt := d.mt
  let up := d.up
  let run := d.run
  let pk := d.pk
  let sc := d.sc
  let flow := d.flow
  let ln := d.ln
  let t0 := d.t0
  let t1 := d.t1
  let t2 := d.t2
  let t3 := d.t3
  let t4 := d.t4
  let p0 := d.p0
  let p1 := d.p1
  let p2 := d.p2
  let p3 := d.p3
  let b0 := d.b0
  let b1 := d.b1
  let b2 := d.b2
  let b3 := d.b3
  let b4 := d.b4
  let b5 := d.b5
  let b6 := d.b6
  let b7 := d.b7
  let b8 := d.b8
  let b9 := d.b9
  let rv := d.rv
  let sv := d.sv
  let rn := d.rn
  let sn := d.sn
  let ring := d.ring
  let sent := d.sent
  let tl := d.tl
  let y := d.y
  let uy := d.uy
  ∀ (B : Below A₀ base outer h₀) (F : Fr h₀ L s.heap m) (X : (hd.heap_1 w.params).In h₀) (T : Top p loose mean mg mb h₀) (hk : cs.kind = .function) (XB : (hd.heap_1 w.params).In base) (TB : Top p loose mean mg mb base) (DD : KtsDicts (outer.filterMap (·.frame)) h₀) (N : News h₀ L s.heap (LED bk drg rg rl dpr pr sl bo (rgD w.params kr size most start held oct t0 t1 t2 t3 t4 rl) (listOf rv.toArray rn) (prD w.params kp mt up 1 0 flow p0 p1 p2 p3 rg ln) (listOf sv.toArray sn) tl)) (ORD : ordA bk drg rg rl dpr pr sl) (OFF : OwnOff tl [bk, drg, rg, rl, dpr, pr, sl]) (RR : Rows tl rv ring) (RS : Rows tl sv sent) (HB : bo.IsDictOf (PySem.strKind prog w) (bkV size most mt up 1 0 flow ln sl oct run pk sc b0 b1 b2 b3 b4 b5 b6 b7 b8 b9)) (hdp : dp + 8 < recursionLimit) (hun : un + 300 < cLine) (I : Inv size most start held oct up run pk sc ring sent) (hpk : pk ≤ 900) (hy0 : 0 ≤ y) (ret : ∀ h' tk' h₂ bo' rv' rn' ring' sl' sv' sn' sent' start' held' oct' mt' up' flow' run' tl' t2' t3' t4' p0' p1' p2' p3' b2' b3' b4' b5' b6' b7', KtsTurn (outer.filterMap (·.frame)) h₀ h₂ → Fr h₂ L h' m →
      News h₂ L h' (LED bk drg rg rl dpr pr sl' bo' (rgD w.params kr size most start' held' oct' t0 t1 t2' t3' t4' rl) (listOf rv'.toArray rn') (prD w.params kp mt' up' 1 0 flow' p0' p1' p2' p3' rg ln) (listOf sv'.toArray sn') tl') →
      Below A₀ base outer h₂ → (hd.heap_1 w.params).In h₂ → Top p loose mean mg mb h₂ → KtsDicts (outer.filterMap (·.frame)) h₂ →
      ordA bk drg rg rl dpr pr sl' → OwnOff tl' [bk, drg, rg, rl, dpr, pr, sl'] → (∀ p ∈ tl, p ∈ tl') → Rows tl' rv' ring' → Rows tl' sv' sent' →
      bo'.IsDictOf (PySem.strKind prog w) (bkV size most mt' up' 1 0 flow' ln sl' oct' run' pk sc b0 b1 b2' b3' b4' b5' b6' b7' b8 b9) →
      Inv size most start' held' oct' up' run' pk sc ring' sent' →
      R (.ok (.ret (.bool true))) { s with heap := h', toks := tk' }),
    codeAny (model prog w) (ktrTop dp un gd cn cs L a ccd [] outer) (.call (.ref 287) ⟨[.ref pr, .ref rg, .ref bk, .int y uy], []⟩) R s
@[irreducible] noncomputable def g : D := Classical.epsilon (h := ⟨d0⟩) fun d => ¬ PP d
set_option maxRecDepth 100000 in
set_option maxHeartbeats 16000000 in
theorem main (B : Below g.A₀ g.base g.outer g.h₀) (F : Fr g.h₀ g.L g.s.heap g.m) (X : (hd.heap_1 g.w.params).In g.h₀) (T : Top g.p g.loose g.mean g.mg g.mb g.h₀) (hk : g.cs.kind = .function) (XB : (hd.heap_1 g.w.params).In g.base) (TB : Top g.p g.loose g.mean g.mg g.mb g.base) (DD : KtsDicts (g.outer.filterMap (·.frame)) g.h₀) (N : News g.h₀ g.L g.s.heap (LED g.bk g.drg g.rg g.rl g.dpr g.pr g.sl g.bo (rgD g.w.params g.kr g.size g.most g.start g.held g.oct g.t0 g.t1 g.t2 g.t3 g.t4 g.rl) (listOf g.rv.toArray g.rn) (prD g.w.params g.kp g.mt g.up 1 0 g.flow g.p0 g.p1 g.p2 g.p3 g.rg g.ln) (listOf g.sv.toArray g.sn) g.tl)) (ORD : ordA g.bk g.drg g.rg g.rl g.dpr g.pr g.sl) (OFF : OwnOff g.tl [g.bk, g.drg, g.rg, g.rl, g.dpr, g.pr, g.sl]) (RR : Rows g.tl g.rv g.ring) (RS : Rows g.tl g.sv g.sent) (HB : g.bo.IsDictOf (PySem.strKind g.prog g.w) (bkV g.size g.most g.mt g.up 1 0 g.flow g.ln g.sl g.oct g.run g.pk g.sc g.b0 g.b1 g.b2 g.b3 g.b4 g.b5 g.b6 g.b7 g.b8 g.b9)) (hdp : g.dp + 8 < recursionLimit) (hun : g.un + 300 < cLine) (I : Inv g.size g.most g.start g.held g.oct g.up g.run g.pk g.sc g.ring g.sent) (hpk : g.pk ≤ 900) (hy0 : 0 ≤ g.y) (ret : ∀ h' tk' h₂ bo' rv' rn' ring' sl' sv' sn' sent' start' held' oct' mt' up' flow' run' tl' t2' t3' t4' p0' p1' p2' p3' b2' b3' b4' b5' b6' b7', KtsTurn (g.outer.filterMap (·.frame)) g.h₀ h₂ → Fr h₂ g.L h' g.m →
      News h₂ g.L h' (LED g.bk g.drg g.rg g.rl g.dpr g.pr sl' bo' (rgD g.w.params g.kr g.size g.most start' held' oct' g.t0 g.t1 t2' t3' t4' g.rl) (listOf rv'.toArray rn') (prD g.w.params g.kp mt' up' 1 0 flow' p0' p1' p2' p3' g.rg g.ln) (listOf sv'.toArray sn') tl') →
      Below g.A₀ g.base g.outer h₂ → (hd.heap_1 g.w.params).In h₂ → Top g.p g.loose g.mean g.mg g.mb h₂ → KtsDicts (g.outer.filterMap (·.frame)) h₂ →
      ordA g.bk g.drg g.rg g.rl g.dpr g.pr sl' → OwnOff tl' [g.bk, g.drg, g.rg, g.rl, g.dpr, g.pr, sl'] → (∀ p ∈ g.tl, p ∈ tl') → Rows tl' rv' ring' → Rows tl' sv' sent' →
      bo'.IsDictOf (PySem.strKind g.prog g.w) (bkV g.size g.most mt' up' 1 0 flow' g.ln sl' oct' run' g.pk g.sc g.b0 g.b1 b2' b3' b4' b5' b6' b7' g.b8 g.b9) →
      Inv g.size g.most start' held' oct' up' run' g.pk g.sc ring' sent' →
      g.R (.ok (.ret (.bool true))) { g.s with heap := h', toks := tk' }) :
    codeAny (model g.prog g.w) (ktrTop g.dp g.un g.gd g.cn g.cs g.L g.a g.ccd [] g.outer) (.call (.ref 287) ⟨[.ref g.pr, .ref g.rg, .ref g.bk, .int g.y g.uy], []⟩) g.R g.s := by
  have i5 := I.rn1
  have y12 : 0 ≤ g.y.fmod 12 := Int.fmod_nonneg_of_pos g.y (by decide)
  have S0 : ∀ p ∈ g.tl, p ∈ g.tl := fun _ h => h
  dsimp only [LED] at N
  k_dflt (walk_at "my enterS")
  k_steps
  all_goals (k_dflt (refine' ret _ _ _ _ _ _ _ _ _ _ _ _ _ _ _ _ _ _ _ _ _ _ _ _ _ _ _ _ _ _ _ _ ?kT ?kF ?kN ?kB ?kX ?kP ?kD ?kO ?kP2 ?kS ?kR1 ?kR2 ?kH ?kI; (case kF => k_asm); (case kN => walk_at "my N"); (case kB => assumption); (case kX => assumption); (case kP => assumption); (case kD => assumption); (case kT => assumption); (case kO => assumption); (case kP2 => assumption); (case kS => assumption); (case kR1 => assumption); (case kR2 => assumption); (case kH => assumption); (case kI => assumption)))
theorem all (d : D) : PP d := allOf (by with_unfolding_all exact main) d
end Gsnapshot_spec
section
variable {prog : Program} {w : World} {p : Program} {loose : List Str} {mean : ExcName → Option Value} {mg mb : Str → Option Value}
  {dp un : Nat} {gd : Option (List Code)} {cn : Str} {cs : Scope} {a : Addr} {ccd : Value} {outer : List Env} {A₀ : Around} {base h₀ : Heap} {L : Addr} {m : Str → Option Value} {s : Shared} {R : Result → Shared → Prop}
  (B : Below A₀ base outer h₀) (F : Fr h₀ L s.heap m) (X : (hd.heap_1 w.params).In h₀) (T : Top p loose mean mg mb h₀) (hk : cs.kind = .function)
  (XB : (hd.heap_1 w.params).In base) (TB : Top p loose mean mg mb base) (DD : KtsDicts (outer.filterMap (·.frame)) h₀)
include B F X T hk XB TB DD
set_option maxRecDepth 100000 in
set_option maxHeartbeats 16000000 in
theorem snapshot_spec {bk drg rg rl dpr pr sl : Addr} {bo : Obj} {kr kp : Nat → Tok} {size most start held oct mt up run pk sc : Int} {flow ln : Bool} {t0 t1 t2 t3 t4 p0 p1 p2 p3 b0 b1 b2 b3 b4 b5 b6 b7 b8 b9 : Tok} {rv sv : List Value} {rn sn : Nat} {ring sent : List (Int × Int)} {tl : List (Addr × Obj)}
    (N : News h₀ L s.heap (LED bk drg rg rl dpr pr sl bo (rgD w.params kr size most start held oct t0 t1 t2 t3 t4 rl) (listOf rv.toArray rn) (prD w.params kp mt up 1 0 flow p0 p1 p2 p3 rg ln) (listOf sv.toArray sn) tl))
    (ORD : ordA bk drg rg rl dpr pr sl) (OFF : OwnOff tl [bk, drg, rg, rl, dpr, pr, sl])
    (RR : Rows tl rv ring) (RS : Rows tl sv sent) (HB : bo.IsDictOf (PySem.strKind prog w) (bkV size most mt up 1 0 flow ln sl oct run pk sc b0 b1 b2 b3 b4 b5 b6 b7 b8 b9))
    (hdp : dp + 8 < recursionLimit) (hun : un + 300 < cLine)
    (I : Inv size most start held oct up run pk sc ring sent) {y : Int} {uy : Tok} (hpk : pk ≤ 900) (hy0 : 0 ≤ y)
    (ret : ∀ h' tk' h₂ bo' rv' rn' ring' sl' sv' sn' sent' start' held' oct' mt' up' flow' run' tl' t2' t3' t4' p0' p1' p2' p3' b2' b3' b4' b5' b6' b7', KtsTurn (outer.filterMap (·.frame)) h₀ h₂ → Fr h₂ L h' m →
      News h₂ L h' (LED bk drg rg rl dpr pr sl' bo' (rgD w.params kr size most start' held' oct' t0 t1 t2' t3' t4' rl) (listOf rv'.toArray rn') (prD w.params kp mt' up' 1 0 flow' p0' p1' p2' p3' rg ln) (listOf sv'.toArray sn') tl') →
      Below A₀ base outer h₂ → (hd.heap_1 w.params).In h₂ → Top p loose mean mg mb h₂ → KtsDicts (outer.filterMap (·.frame)) h₂ →
      ordA bk drg rg rl dpr pr sl' → OwnOff tl' [bk, drg, rg, rl, dpr, pr, sl'] → (∀ p ∈ tl, p ∈ tl') → Rows tl' rv' ring' → Rows tl' sv' sent' →
      bo'.IsDictOf (PySem.strKind prog w) (bkV size most mt' up' 1 0 flow' ln sl' oct' run' pk sc b0 b1 b2' b3' b4' b5' b6' b7' b8 b9) →
      Inv size most start' held' oct' up' run' pk sc ring' sent' →
      R (.ok (.ret (.bool true))) { s with heap := h', toks := tk' }) :
    codeAny (model prog w) (ktrTop dp un gd cn cs L a ccd [] outer) (.call (.ref 287) ⟨[.ref pr, .ref rg, .ref bk, .int y uy], []⟩) R s :=
  Gsnapshot_spec.all { d0 with prog := prog, w := w, p := p, loose := loose, mean := mean, mg := mg, mb := mb, dp := dp, un := un, gd := gd, cn := cn, cs := cs, a := a, ccd := ccd, outer := outer, A₀ := A₀, base := base, h₀ := h₀, L := L, m := m, s := s, R := R, bk := bk, drg := drg, rg := rg, rl := rl, dpr := dpr, pr := pr, sl := sl, bo := bo, kr := kr, kp := kp, size := size, most := most, start := start, held := held, oct := oct, mt := mt, up := up, run := run, pk := pk, sc := sc, flow := flow, ln := ln, t0 := t0, t1 := t1, t2 := t2, t3 := t3, t4 := t4, p0 := p0, p1 := p1, p2 := p2, p3 := p3, b0 := b0, b1 := b1, b2 := b2, b3 := b3, b4 := b4, b5 := b5, b6 := b6, b7 := b7, b8 := b8, b9 := b9, rv := rv, sv := sv, rn := rn, sn := sn, ring := ring, sent := sent, tl := tl, y := y, uy := uy } B F X T hk XB TB DD N ORD OFF RR RS HB hdp hun I hpk hy0 ret
end

end partP16
local macro_rules | `(tactic| walk_at "call ref") => `(tactic| (k_here; k_dflt (refine wpAny_call ?_; apply snapshot_spec; walk_at "my stds"; (iterate 4 (assumption)); ktr_room; ktr_units; (assumption); (iterate 2 (walk_at "my fits"))); intros; walk_at "my end"))
local macro_rules | `(tactic| walk_at "pad 0") => `(tactic| skip)
namespace Gcomes_spec
def PP (d : D) : Prop :=
  let prog := d.prog
  let w := d.w
  let p := d.p
  let loose := d.loose
  let mean := d.mean
  let mg := d.mg
  let mb := d.mb
  let dp := d.dp
  let un := d.un
  let gd := d.gd
  let cn := d.cn
  let cs := d.cs
  let a := d.a
  let ccd := d.ccd
  let outer := d.outer
  let A₀ := d.A₀
  let base := d.base
  let h₀ := d.h₀
  let L := d.L
  let m := d.m
  let s := d.s
  let R := d.R
  let bk := d.bk
  let drg := d.drg
  let rg := d.rg
  let rl := d.rl
  let dpr := d.dpr
  let pr := d.pr
  let sl := d.sl
  let bo := d.bo
  let kr := d.kr
  let kp := d.kp
  let size := d.size
  let most := d.most
  let start := d.start
  let held := d.held
  let oct := d.oct
  let mt := d.mt
  let up := d.up
  let run := d.run
  let pk := d.pk
  let sc := d.sc
  let flow := d.flow
  let ln := d.ln
  let t0 := d.t0
  let t1 := d.t1
  let t2 := d.t2
  let t3 := d.t3
  let t4 := d.t4
  let p0 := d.p0
  let p1 := d.p1
  let p2 := d.p2
  let p3 := d.p3
  let b0 := d.b0
  let b1 := d.b1
  let b2 := d.b2
  let b3 := d.b3
  let b4 := d.b4
  let b5 := d.b5
  let b6 := d.b6
  let b7 := d.b7
  let b8 := d.b8
  let b9 := d.b9
  let rv := d.rv
  let sv := d.sv
  let rn := d.rn
  let sn := d.sn
  let ring := d.ring
  let sent := d.sent
  let tl := d.tl
  let x := d.x
  let ux := d.ux
  ∀ (B : Below A₀ base outer h₀) (F : Fr h₀ L s.heap m) (X : (hd.heap_1 w.params).In h₀) (T : Top p loose mean mg mb h₀) (hk : cs.kind = .function) (XB : (hd.heap_1 w.params).In base) (TB : Top p loose mean mg mb base) (DD : KtsDicts (outer.filterMap (·.frame)) h₀) (N : News h₀ L s.heap (LED bk drg rg rl dpr pr sl bo (rgD w.params kr size most start held oct t0 t1 t2 t3 t4 rl) (listOf rv.toArray rn) (prD w.params kp mt up 1 0 flow p0 p1 p2 p3 rg ln) (listOf sv.toArray sn) tl)) (ORD : ordA bk drg rg rl dpr pr sl) (OFF : OwnOff tl [bk, drg, rg, rl, dpr, pr, sl]) (RR : Rows tl rv ring) (RS : Rows tl sv sent) (HB : bo.IsDictOf (PySem.strKind prog w) (bkV size most mt up 1 0 flow ln sl oct run pk sc b0 b1 b2 b3 b4 b5 b6 b7 b8 b9)) (hdp : dp + 9 < recursionLimit) (hun : un + 320 < cLine) (I : Inv size most start held oct up run pk sc ring sent) (hpk : pk ≤ 900) (hx0 : 0 ≤ x) (ret : ∀ h' tk' h₂ bo' rv' rn' ring' sl' sv' sn' sent' start' held' oct' mt' up' flow' run' tl' t2' t3' t4' p0' p1' p2' p3' b2' b3' b4' b5' b6' b7', KtsTurn (outer.filterMap (·.frame)) h₀ h₂ → Fr h₂ L h' m →
      News h₂ L h' (LED bk drg rg rl dpr pr sl' bo' (rgD w.params kr size most start' held' oct' t0 t1 t2' t3' t4' rl) (listOf rv'.toArray rn') (prD w.params kp mt' up' 1 0 flow' p0' p1' p2' p3' rg ln) (listOf sv'.toArray sn') tl') →
      Below A₀ base outer h₂ → (hd.heap_1 w.params).In h₂ → Top p loose mean mg mb h₂ → KtsDicts (outer.filterMap (·.frame)) h₂ →
      ordA bk drg rg rl dpr pr sl' → OwnOff tl' [bk, drg, rg, rl, dpr, pr, sl'] → (∀ p ∈ tl, p ∈ tl') → Rows tl' rv' ring' → Rows tl' sv' sent' →
      bo'.IsDictOf (PySem.strKind prog w) (bkV size most mt' up' 1 0 flow' ln sl' oct' run' pk sc b0 b1 b2' b3' b4' b5' b6' b7' b8 b9) →
      Inv size most start' held' oct' up' run' pk sc ring' sent' →
      R (.ok (.ret (.bool true))) { s with heap := h', toks := tk' }),
    codeAny (model prog w) (ktrTop dp un gd cn cs L a ccd [] outer) (.call (.ref 294) ⟨[.ref pr, .ref rg, .ref bk, .int x ux], []⟩) R s
@[irreducible] noncomputable def g : D := Classical.epsilon (h := ⟨d0⟩) fun d => ¬ PP d
set_option maxRecDepth 100000 in
set_option maxHeartbeats 16000000 in
theorem main (B : Below g.A₀ g.base g.outer g.h₀) (F : Fr g.h₀ g.L g.s.heap g.m) (X : (hd.heap_1 g.w.params).In g.h₀) (T : Top g.p g.loose g.mean g.mg g.mb g.h₀) (hk : g.cs.kind = .function) (XB : (hd.heap_1 g.w.params).In g.base) (TB : Top g.p g.loose g.mean g.mg g.mb g.base) (DD : KtsDicts (g.outer.filterMap (·.frame)) g.h₀) (N : News g.h₀ g.L g.s.heap (LED g.bk g.drg g.rg g.rl g.dpr g.pr g.sl g.bo (rgD g.w.params g.kr g.size g.most g.start g.held g.oct g.t0 g.t1 g.t2 g.t3 g.t4 g.rl) (listOf g.rv.toArray g.rn) (prD g.w.params g.kp g.mt g.up 1 0 g.flow g.p0 g.p1 g.p2 g.p3 g.rg g.ln) (listOf g.sv.toArray g.sn) g.tl)) (ORD : ordA g.bk g.drg g.rg g.rl g.dpr g.pr g.sl) (OFF : OwnOff g.tl [g.bk, g.drg, g.rg, g.rl, g.dpr, g.pr, g.sl]) (RR : Rows g.tl g.rv g.ring) (RS : Rows g.tl g.sv g.sent) (HB : g.bo.IsDictOf (PySem.strKind g.prog g.w) (bkV g.size g.most g.mt g.up 1 0 g.flow g.ln g.sl g.oct g.run g.pk g.sc g.b0 g.b1 g.b2 g.b3 g.b4 g.b5 g.b6 g.b7 g.b8 g.b9)) (hdp : g.dp + 9 < recursionLimit) (hun : g.un + 320 < cLine) (I : Inv g.size g.most g.start g.held g.oct g.up g.run g.pk g.sc g.ring g.sent) (hpk : g.pk ≤ 900) (hx0 : 0 ≤ g.x) (ret : ∀ h' tk' h₂ bo' rv' rn' ring' sl' sv' sn' sent' start' held' oct' mt' up' flow' run' tl' t2' t3' t4' p0' p1' p2' p3' b2' b3' b4' b5' b6' b7', KtsTurn (g.outer.filterMap (·.frame)) g.h₀ h₂ → Fr h₂ g.L h' g.m →
      News h₂ g.L h' (LED g.bk g.drg g.rg g.rl g.dpr g.pr sl' bo' (rgD g.w.params g.kr g.size g.most start' held' oct' g.t0 g.t1 t2' t3' t4' g.rl) (listOf rv'.toArray rn') (prD g.w.params g.kp mt' up' 1 0 flow' p0' p1' p2' p3' g.rg g.ln) (listOf sv'.toArray sn') tl') →
      Below g.A₀ g.base g.outer h₂ → (hd.heap_1 g.w.params).In h₂ → Top g.p g.loose g.mean g.mg g.mb h₂ → KtsDicts (g.outer.filterMap (·.frame)) h₂ →
      ordA g.bk g.drg g.rg g.rl g.dpr g.pr sl' → OwnOff tl' [g.bk, g.drg, g.rg, g.rl, g.dpr, g.pr, sl'] → (∀ p ∈ g.tl, p ∈ tl') → Rows tl' rv' ring' → Rows tl' sv' sent' →
      bo'.IsDictOf (PySem.strKind g.prog g.w) (bkV g.size g.most mt' up' 1 0 flow' g.ln sl' oct' run' g.pk g.sc g.b0 g.b1 b2' b3' b4' b5' b6' b7' g.b8 g.b9) →
      Inv g.size g.most start' held' oct' up' run' g.pk g.sc ring' sent' →
      g.R (.ok (.ret (.bool true))) { g.s with heap := h', toks := tk' }) :
    codeAny (model g.prog g.w) (ktrTop g.dp g.un g.gd g.cn g.cs g.L g.a g.ccd [] g.outer) (.call (.ref 294) ⟨[.ref g.pr, .ref g.rg, .ref g.bk, .int g.x g.ux], []⟩) g.R g.s := by
  have i1 := I.s1
  have i2 := I.s2
  have i3 := I.m0
  have i5 := I.rn1
  have i6 := I.hd0
  have i7 := I.hd1
  have i11 := RS.length
  have y0 : 0 ≤ g.x.fdiv 9 := Int.fdiv_nonneg hx0 (by decide)
  have yl : 0 < (g.sv.length : Int) → 0 ≤ (g.x.fdiv 9).fmod (g.sv.length : Int) ∧ (g.x.fdiv 9).fmod (g.sv.length : Int) < g.sv.length := fun h => ⟨Int.fmod_nonneg_of_pos _ h, Int.fmod_lt_of_pos _ h⟩
  have S0 : ∀ p ∈ g.tl, p ∈ g.tl := fun _ h => h
  dsimp only [LED] at N
  k_dflt (walk_at "my enterS")
  k_steps
  all_goals (k_dflt (refine' ret _ _ _ _ _ _ _ _ _ _ _ _ _ _ _ _ _ _ _ _ _ _ _ _ _ _ _ _ _ _ _ _ ?kT ?kF ?kN ?kB ?kX ?kP ?kD ?kO ?kP2 ?kS ?kR1 ?kR2 ?kH ?kI; (case kF => k_asm); (case kN => walk_at "my N"); (case kB => assumption); (case kX => assumption); (case kP => assumption); (case kD => assumption); (case kT => first | assumption | exact KtsTurn.refl); (case kO => assumption); (case kP2 => assumption); (case kS => assumption); (case kR1 => assumption); (case kR2 => assumption); (case kH => first | assumption | exact dict_eqs (by assumption) rfl rfl rfl (by walk_at "my bool")); (case kI => assumption)))
theorem all (d : D) : PP d := allOf (by with_unfolding_all exact main) d
end Gcomes_spec
section
variable {prog : Program} {w : World} {p : Program} {loose : List Str} {mean : ExcName → Option Value} {mg mb : Str → Option Value}
  {dp un : Nat} {gd : Option (List Code)} {cn : Str} {cs : Scope} {a : Addr} {ccd : Value} {outer : List Env} {A₀ : Around} {base h₀ : Heap} {L : Addr} {m : Str → Option Value} {s : Shared} {R : Result → Shared → Prop}
  (B : Below A₀ base outer h₀) (F : Fr h₀ L s.heap m) (X : (hd.heap_1 w.params).In h₀) (T : Top p loose mean mg mb h₀) (hk : cs.kind = .function)
  (XB : (hd.heap_1 w.params).In base) (TB : Top p loose mean mg mb base) (DD : KtsDicts (outer.filterMap (·.frame)) h₀)
include B F X T hk XB TB DD
set_option maxRecDepth 100000 in
set_option maxHeartbeats 16000000 in
theorem comes_spec {bk drg rg rl dpr pr sl : Addr} {bo : Obj} {kr kp : Nat → Tok} {size most start held oct mt up run pk sc : Int} {flow ln : Bool} {t0 t1 t2 t3 t4 p0 p1 p2 p3 b0 b1 b2 b3 b4 b5 b6 b7 b8 b9 : Tok} {rv sv : List Value} {rn sn : Nat} {ring sent : List (Int × Int)} {tl : List (Addr × Obj)}
    (N : News h₀ L s.heap (LED bk drg rg rl dpr pr sl bo (rgD w.params kr size most start held oct t0 t1 t2 t3 t4 rl) (listOf rv.toArray rn) (prD w.params kp mt up 1 0 flow p0 p1 p2 p3 rg ln) (listOf sv.toArray sn) tl))
    (ORD : ordA bk drg rg rl dpr pr sl) (OFF : OwnOff tl [bk, drg, rg, rl, dpr, pr, sl])
    (RR : Rows tl rv ring) (RS : Rows tl sv sent) (HB : bo.IsDictOf (PySem.strKind prog w) (bkV size most mt up 1 0 flow ln sl oct run pk sc b0 b1 b2 b3 b4 b5 b6 b7 b8 b9))
    (hdp : dp + 9 < recursionLimit) (hun : un + 320 < cLine)
    (I : Inv size most start held oct up run pk sc ring sent) {x : Int} {ux : Tok} (hpk : pk ≤ 900) (hx0 : 0 ≤ x)
    (ret : ∀ h' tk' h₂ bo' rv' rn' ring' sl' sv' sn' sent' start' held' oct' mt' up' flow' run' tl' t2' t3' t4' p0' p1' p2' p3' b2' b3' b4' b5' b6' b7', KtsTurn (outer.filterMap (·.frame)) h₀ h₂ → Fr h₂ L h' m →
      News h₂ L h' (LED bk drg rg rl dpr pr sl' bo' (rgD w.params kr size most start' held' oct' t0 t1 t2' t3' t4' rl) (listOf rv'.toArray rn') (prD w.params kp mt' up' 1 0 flow' p0' p1' p2' p3' rg ln) (listOf sv'.toArray sn') tl') →
      Below A₀ base outer h₂ → (hd.heap_1 w.params).In h₂ → Top p loose mean mg mb h₂ → KtsDicts (outer.filterMap (·.frame)) h₂ →
      ordA bk drg rg rl dpr pr sl' → OwnOff tl' [bk, drg, rg, rl, dpr, pr, sl'] → (∀ p ∈ tl, p ∈ tl') → Rows tl' rv' ring' → Rows tl' sv' sent' →
      bo'.IsDictOf (PySem.strKind prog w) (bkV size most mt' up' 1 0 flow' ln sl' oct' run' pk sc b0 b1 b2' b3' b4' b5' b6' b7' b8 b9) →
      Inv size most start' held' oct' up' run' pk sc ring' sent' →
      R (.ok (.ret (.bool true))) { s with heap := h', toks := tk' }) :
    codeAny (model prog w) (ktrTop dp un gd cn cs L a ccd [] outer) (.call (.ref 294) ⟨[.ref pr, .ref rg, .ref bk, .int x ux], []⟩) R s :=
  Gcomes_spec.all { d0 with prog := prog, w := w, p := p, loose := loose, mean := mean, mg := mg, mb := mb, dp := dp, un := un, gd := gd, cn := cn, cs := cs, a := a, ccd := ccd, outer := outer, A₀ := A₀, base := base, h₀ := h₀, L := L, m := m, s := s, R := R, bk := bk, drg := drg, rg := rg, rl := rl, dpr := dpr, pr := pr, sl := sl, bo := bo, kr := kr, kp := kp, size := size, most := most, start := start, held := held, oct := oct, mt := mt, up := up, run := run, pk := pk, sc := sc, flow := flow, ln := ln, t0 := t0, t1 := t1, t2 := t2, t3 := t3, t4 := t4, p0 := p0, p1 := p1, p2 := p2, p3 := p3, b0 := b0, b1 := b1, b2 := b2, b3 := b3, b4 := b4, b5 := b5, b6 := b6, b7 := b7, b8 := b8, b9 := b9, rv := rv, sv := sv, rn := rn, sn := sn, ring := ring, sent := sent, tl := tl, x := x, ux := ux } B F X T hk XB TB DD N ORD OFF RR RS HB hdp hun I hpk hx0 ret
end

local macro_rules | `(tactic| walk_at "call ref") => `(tactic| (k_here; k_dflt (refine wpAny_call ?_; apply burst_spec; walk_at "my stds"; (iterate 4 (assumption)); ktr_room; ktr_units; (assumption); (iterate 5 (walk_at "my fits"))); intros; walk_at "my turn"; walk_at "my end"))
local macro_rules | `(tactic| walk_at "call ref") => `(tactic| (k_here; k_dflt (refine wpAny_call ?_; apply comes_spec; walk_at "my stds"; (iterate 4 (assumption)); ktr_room; ktr_units; (assumption); (iterate 2 (walk_at "my fits"))); intros; walk_at "my turn"; walk_at "my end"))
local macro_rules | `(tactic| walk_at "execs cons") => `(tactic| (k_here; dsimp only))
local macro_rules | `(tactic| walk_at "execs nil") => `(tactic| (k_here; dsimp only))
local macro_rules | `(tactic| walk_at "eval Call") => `(tactic| (k_here; (with_reducible show wpAny _ _ (eval (Expr.Call (Expr.Name _ _) _ [] _) _) _ _ _); k_dflt (refine Call_ ?_)))
local macro_rules | `(tactic| walk_at "ite") => `(tactic| first | (refine' iteT ?c ?_; (case c => assumption)) | (refine' iteF ?c ?_; (case c => assumption)))
local macro_rules | `(tactic| walk_at "call ref") => `(tactic| (k_here; k_dflt (refine wpAny_call ?_; apply add_spec; walk_at "my stdn"; (iterate 2 (assumption)); ktr_room; ktr_units; (iterate 7 (walk_at "my fits")); (iterate 3 (assumption))); intro h9 tk9 rv9 rn9 tl9 t3 t4 F9 N9 O9 E9 R9; have R8 := Rows.mono (by assumption) (Ext.sub E9); have R6 := R9; walk_at "my end"))
local macro_rules | `(tactic| walk_at "call ref") => `(tactic| (k_here; k_dflt (refine wpAny_call ?_; apply put_spec; walk_at "my stdn"; (iterate 3 (assumption)); ktr_room; ktr_units; (walk_at "my fits")); intro h9 tk9 bo9 sv9 sn9 tl9 u6 u7 u8 F9 N9 P9 E9 R9 HB9; have R7 := Rows.mono (by assumption) (Ext.sub E9); walk_at "my end"))
theorem fdiv_small {i n : Int} (h0 : 0 ≤ i) (h1 : i ≤ 20) (hn : 0 < n) : 0 ≤ i.fdiv n ∧ i.fdiv n ≤ 20 := by
  rw [Int.fdiv_eq_ediv_of_nonneg _ (by omega)]
  refine ⟨Int.ediv_nonneg h0 (by omega), ?_⟩
  have := Int.ediv_le_self n h0
  omega
theorem fdiv_bd {a : Int} (h0 : 0 ≤ a) (h1 : a ≤ 2000000) : 0 ≤ a.fdiv 21 ∧ a.fdiv 21 ≤ 100000000 := by
  rw [Int.fdiv_eq_ediv_of_nonneg _ (by decide)]
  omega
section
variable {prog : Program} {w : World} {p : Program} {loose : List Str} {mean : ExcName → Option Value} {mg mb : Str → Option Value}
  {dp un : Nat} {gd : Option (List Code)} {cn : Str} {cs : Scope} {a : Addr} {ccd : Value} {cl : List (Str × Addr)} {outer : List Env} {A₀ : Around} {base h₀ : Heap} {L : Addr} {m : Str → Option Value} {s : Shared} {R : Result → Shared → Prop}
  (B : Below A₀ base outer h₀) (F : Fr h₀ L s.heap m) (X : (hd.heap_1 w.params).In h₀) (T : Top p loose mean mg mb h₀) (hk : cs.kind = .function)
include B F X T hk
set_option maxRecDepth 100000 in
set_option maxHeartbeats 4000000 in
theorem draw_spec {nl : Addr} {nv : List Value} {nn : Nat} {ns : List Int} {news : List (Addr × Obj)} (N : News h₀ L s.heap news) (m1 : (nl, listOf nv.toArray nn) ∈ news)
    (hdp : dp + 1 < recursionLimit) (hun : un + 8 < cLine) (I : IntsAre nv ns) (l1 : 0 < ns.length) (l2 : ns.length ≤ 10) (b1 : ∀ v ∈ ns, 0 ≤ v ∧ v ≤ 999982)
    {i : Int} {ti : Tok} (i0 : 0 ≤ i) (i1 : i ≤ 20)
    (ret : ∀ h' tk' v t', 0 ≤ v → v ≤ 2000000 → Fr h₀ L h' m → News h₀ L h' news → R (.ok (.ret (.int v t'))) { s with heap := h', toks := tk' }) :
    codeAny (model prog w) (ktrTop dp un gd cn cs L a ccd cl outer) (.call (.ref 219) ⟨[.ref nl, .int i ti], []⟩) R s := by
  have hl := I.length
  have g0 : 0 ≤ i.fmod (nv.length : Int) := Int.fmod_nonneg_of_pos _ (by omega)
  have g1 : i.fmod (nv.length : Int) < nv.length := Int.fmod_lt_of_pos _ (by omega)
  have g2 := fdiv_small i0 i1 (n := (nv.length : Int)) (by omega)
  have g3 := getD_items b1 (i.fmod (nv.length : Int)).toNat
  k_dflt ktr_enter
  k_steps
  exact ret _ _ _ _ (by omega) (by omega) (by k_asm) (by k_asm)
end

local macro_rules | `(tactic| walk_at "call ref") => `(tactic| (k_here; k_dflt (refine wpAny_call ?_; apply draw_spec; walk_at "my std0"; (k_mem); ktr_room; ktr_units; (assumption); (iterate 2 (walk_at "my fits")); (assumption); (iterate 2 (walk_at "my fits"))); intros; walk_at "my end"))
inductive LJ5 (prog : Program) (w : World) (h₀ : Heap) (L : Addr) (s s' : Shared) : Prop
  | mk (h' : Heap) (tk : Nat) (nl : Addr) (nv : List Value) (nn : Nat) (ns : List Int) (bk drg rg rl dpr pr sl : Addr) (bo : Obj) (kr kp : Nat → Tok) (size most mt sc up : Int) (ln : Bool) (t0 t1 t2 t3 t4 p0 p1 p2 p3 b0 b1 b2 b3 b4 b5 b6 b7 b8 b9 : Tok) (u : Str → Option Value) : s' = { s with heap := h', toks := tk } →
    Fr h₀ L h' (fun z => if z = Str.ofString "pr" then some (Value.ref pr) else if z = Str.ofString "ring" then some (Value.ref rg) else if z = Str.ofString "book" then some (Value.ref bk) else if z = Str.ofString "nums" then some (Value.ref nl) else u z) →
    News h₀ L h' (LED bk drg rg rl dpr pr sl bo (rgD w.params kr size most 0 0 0 t0 t1 t2 t3 t4 rl) (listOf [].toArray 0) (prD w.params kp mt up 0 0 false p0 p1 p2 p3 rg ln) (listOf [].toArray 0) [(nl, listOf nv.toArray nn)]) →
    ordA bk drg rg rl dpr pr sl →
    OwnOff [(nl, listOf nv.toArray nn)] [bk, drg, rg, rl, dpr, pr, sl] →
    IntsAre nv ns →
    0 < ns.length →
    ns.length ≤ 10 →
    (∀ v ∈ ns, 0 ≤ v ∧ v ≤ 999982) →
    bo.IsDictOf (PySem.strKind prog w) (bkV size most mt 0 0 0 false ln sl 0 0 0 sc b0 b1 b2 b3 b4 b5 b6 b7 b8 b9) →
    6 ≤ size →
    size ≤ 256 →
    0 ≤ most →
    1 ≤ sc →
    sc ≤ 1048576 → LJ5 prog w h₀ L s s'
inductive Core (prog : Program) (w : World) (nl : Addr) (nv : List Value) (nn : Nat) (bk drg rg rl dpr pr : Addr) (ex : List (Addr × Obj)) (vn : Str) (vv : Value) (b : Int) (m : Str → Option Value) (nx : List (Addr × Obj)) : Prop
  | mk (bo : Obj) (kr kp : Nat → Tok) (size most start held oct mt up run pk sc : Int) (flow ln : Bool) (sl : Addr) (rv sv : List Value) (rn sn : Nat) (ring sent : List (Int × Int)) (tl : List (Addr × Obj)) (t0 t1 t2 t3 t4 p0 p1 p2 p3 b0 b1 b2 b3 b4 b5 b6 b7 b8 b9 : Tok) (u : Str → Option Value) : nx = LED bk drg rg rl dpr pr sl bo (rgD w.params kr size most start held oct t0 t1 t2 t3 t4 rl) (listOf rv.toArray rn) (prD w.params kp mt up 1 0 flow p0 p1 p2 p3 rg ln) (listOf sv.toArray sn) tl →
    m = (fun z => if z = Str.ofString "pr" then some (Value.ref pr) else if z = Str.ofString "ring" then some (Value.ref rg) else if z = Str.ofString "book" then some (Value.ref bk) else if z = Str.ofString "nums" then some (Value.ref nl) else if z = vn then some vv else u z) →
    ordA bk drg rg rl dpr pr sl →
    OwnOff tl [bk, drg, rg, rl, dpr, pr, sl] →
    (nl, listOf nv.toArray nn) ∈ tl →
    (∀ p ∈ ex, p ∈ tl) →
    Rows tl rv ring →
    Rows tl sv sent →
    bo.IsDictOf (PySem.strKind prog w) (bkV size most mt up 1 0 flow ln sl oct run pk sc b0 b1 b2 b3 b4 b5 b6 b7 b8 b9) →
    Inv size most start held oct up run pk sc ring sent →
    pk ≤ b → Core prog w nl nv nn bk drg rg rl dpr pr ex vn vv b m nx
inductive LJ6 (prog : Program) (w : World) (b : Int) (h₀ : Heap) (L : Addr) (s s' : Shared) : Prop
  | mk (h' : Heap) (tk : Nat) (nl : Addr) (nv : List Value) (nn : Nat) (ns : List Int) (bk drg rg rl dpr pr : Addr) (m : Str → Option Value) (nx : List (Addr × Obj)) : s' = { s with heap := h', toks := tk } →
    Fr h₀ L h' m →
    News h₀ L h' nx →
    Core prog w nl nv nn bk drg rg rl dpr pr [] (Str.ofString "nums") (.ref nl) b m nx →
    IntsAre nv ns →
    0 < ns.length →
    ns.length ≤ 10 →
    (∀ v ∈ ns, 0 ≤ v ∧ v ≤ 999982) → LJ6 prog w b h₀ L s s'
theorem Core.mono {prog : Program} {w : World} {nl : Addr} {nv : List Value} {nn : Nat} {bk drg rg rl dpr pr : Addr} {ex : List (Addr × Obj)} {vn : Str} {vv : Value} {b b' : Int} {m : Str → Option Value} {nx : List (Addr × Obj)}
    (h : Core prog w nl nv nn bk drg rg rl dpr pr ex vn vv b m nx) (hb : b ≤ b') : Core prog w nl nv nn bk drg rg rl dpr pr ex vn vv b' m nx := by
  obtain ⟨bo, kr, kp, size, most, start, held, oct, mt, up, run, pk, sc, flow, ln, sl, rv, sv, rn, sn, ring, sent, tl, t0, t1, t2, t3, t4, p0, p1, p2, p3, b0, b1, b2, b3, b4, b5, b6, b7, b8, b9, u, e1, e2, r1, r2, r3, r4, r5, r6, r7, r8, r9⟩ := h
  exact ⟨bo, kr, kp, size, most, start, held, oct, mt, up, run, pk, sc, flow, ln, sl, rv, sv, rn, sn, ring, sent, tl, t0, t1, t2, t3, t4, p0, p1, p2, p3, b0, b1, b2, b3, b4, b5, b6, b7, b8, b9, u, e1, e2, r1, r2, r3, r4, r5, r6, r7, r8, Int.le_trans r9 hb⟩
inductive LJb (pr rg bk nl : Addr) (B : Int) (tB : Tok) (nx : List (Addr × Obj)) (h₀ : Heap) (L : Addr) (s s' : Shared) : Prop
  | mk (h' : Heap) (tk : Nat) (Y W : Int) (ty tw : Tok) (u : Str → Option Value) : s' = { s with heap := h', toks := tk } →
    Fr h₀ L h' (fun z => if z = Str.ofString "pr" then some (Value.ref pr) else if z = Str.ofString "ring" then some (Value.ref rg) else if z = Str.ofString "book" then some (Value.ref bk) else if z = Str.ofString "nums" then some (Value.ref nl) else if z = Str.ofString "burst" then some (Value.int B tB) else if z = Str.ofString "y" then some (Value.int Y ty) else if z = Str.ofString "many" then some (Value.int W tw) else u z) →
    News h₀ L h' nx →
    0 ≤ Y →
    Y ≤ 2000000 →
    0 ≤ W →
    W ≤ 120 → LJb pr rg bk nl B tB nx h₀ L s s'
theorem Inv.start {size most up sc : Int} (s1 : 6 ≤ size) (s2 : size ≤ 256) (m0 : 0 ≤ most) (c1 : 1 ≤ sc) (c2 : sc ≤ 1048576) : Inv size most 0 0 0 up 0 0 sc [] [] where
  s1 := s1
  s2 := s2
  m0 := m0
  st0 := Int.le_refl 0
  st1 := by omega
  hd0 := rfl
  hd1 := by omega
  rl := rfl
  wn := rfl
  oc := rfl
  ob := fun r hr => nomatch hr
  sc1 := c1
  sc2 := c2
  so := .nil
  ub := fun r hr => nomatch hr
  rn0 := Int.le_refl 0
  rn1 := Int.le_refl 0
  rs := by simp
theorem led_made {P : Params} {h₀ h : Heap} {L bk drg rg rl dpr pr sl : Addr} {bo : Obj} {size most mt up : Int} {ln : Bool} {x : Addr × Obj} {t0 t1 t2 t3 t4 p0 p1 p2 p3 k0 k1 k2 k3 k4 k5 c0 c1 c2 c3 c4 c5 c6 c7 : Tok}
    (N : News h₀ L h [(pr, instObj 208 dpr), (dpr, dictOf [en P "match" c0 (.int mt p0), en P "upto" c1 (.int up p1), en P "state" c2 (.int 0 p2), en P "pending_snapshot" c3 (.int 0 p3), en P "recent_active" c4 (.bool false), en P "flow_paused" c5 (.bool false), en P "inflights" c6 (.ref rg), en P "learner" c7 (.bool ln)] 8),
      (rl, listOf #[] 0), (rg, instObj 124 drg), (drg, dictOf [en P "size" k0 (.int size t0), en P "max_octets" k1 (.int most t1), en P "start" k2 (.int 0 t2), en P "held" k3 (.int 0 t3), en P "octets" k4 (.int 0 t4), en P "ring" k5 (.ref rl)] 6), (sl, listOf #[] 0), (bk, bo), x]) :
    ∃ kr kp, News h₀ L h (LED bk drg rg rl dpr pr sl bo (rgD P kr size most 0 0 0 t0 t1 t2 t3 t4 rl) (listOf [].toArray 0) (prD P kp mt up 0 0 false p0 p1 p2 p3 rg ln) (listOf [].toArray 0) [x]) := by
  refine ⟨fun i => [k0, k1, k2, k3, k4, k5].getD i 0, fun i => [c0, c1, c2, c3, c4, c5, c6, c7].getD i 0, fun p hp => N p ?_⟩
  simp only [LED, List.mem_cons, List.not_mem_nil, or_false] at hp ⊢
  rcases hp with h | h | h | h | h | h | h | h
  · exact .inr (.inr (.inr (.inr (.inr (.inr (.inl h))))))
  · exact .inr (.inr (.inr (.inr (.inl h))))
  · exact .inr (.inr (.inr (.inl h)))
  · exact .inr (.inr (.inl h))
  · exact .inr (.inl h)
  · exact .inl h
  · exact .inr (.inr (.inr (.inr (.inr (.inl h)))))
  · exact .inr (.inr (.inr (.inr (.inr (.inr (.inr h))))))
theorem dd_of {h₀ h : Heap} {L : Addr} {m : Str → Option Value} (_F : Fr h₀ L h m) : KtsDicts (([] : List Env).filterMap (·.frame)) h₀ := ktsDicts_nil
theorem fmod_bd21 {Y : Int} (_h : 0 ≤ Y) : 0 ≤ Y.fmod 21 ∧ Y.fmod 21 < 21 := ⟨Int.fmod_nonneg_of_pos _ (by decide), Int.fmod_lt_of_pos _ (by decide)⟩
theorem fmod_bd111 {Y : Int} (_h : 0 ≤ Y) : 0 ≤ Y.fmod 111 ∧ Y.fmod 111 < 111 := ⟨Int.fmod_nonneg_of_pos _ (by decide), Int.fmod_lt_of_pos _ (by decide)⟩
theorem below_of {h₀ h : Heap} {L : Addr} {m : Str → Option Value} (_F : Fr h₀ L h m) : Below callerA h₀ [] h₀ := below_caller h₀
inductive LJ8 (prog : Program) (w : World) (h₀ : Heap) (L : Addr) (s s' : Shared) : Prop
  | mk (h' : Heap) (tk : Nat) (bk drg rg rl dpr pr sl : Addr) (bo : Obj) (kr kp : Nat → Tok) (size most start held oct mt up up' run pk sc : Int) (flow ln : Bool) (rv sv : List Value) (rn sn : Nat) (ring sent : List (Int × Int)) (tl : List (Addr × Obj)) (t0 t1 t2 t3 t4 p0 p1 p2 p3 b0 b1 b2 b3 b4 b5 b6 b7 b8 b9 : Tok) (u : Str → Option Value) : s' = { s with heap := h', toks := tk } →
    Fr h₀ L h' (fun z => if z = Str.ofString "pr" then some (Value.ref pr) else if z = Str.ofString "ring" then some (Value.ref rg) else if z = Str.ofString "book" then some (Value.ref bk) else u z) →
    News h₀ L h' (LED bk drg rg rl dpr pr sl bo (rgD w.params kr size most start held oct t0 t1 t2 t3 t4 rl) (listOf rv.toArray rn) (prD w.params kp mt up 1 0 flow p0 p1 p2 p3 rg ln) (listOf sv.toArray sn) tl) →
    ordA bk drg rg rl dpr pr sl →
    OwnOff tl [bk, drg, rg, rl, dpr, pr, sl] →
    Rows tl rv ring →
    Rows tl sv sent →
    bo.IsDictOf (PySem.strKind prog w) (bkV size most mt up 1 0 flow ln sl oct run pk sc b0 b1 b2 b3 b4 b5 b6 b7 b8 b9) →
    Inv size most start held oct up' run pk sc ring sent →
    pk ≤ 900 → LJ8 prog w h₀ L s s'
inductive LJ9 (prog : Program) (w : World) (h₀ : Heap) (L : Addr) (s s' : Shared) : Prop
  | mk (h' : Heap) (tk : Nat) (bk drg rg rl dpr pr sl : Addr) (bo : Obj) (kr kp : Nat → Tok) (size most mt up up' run run' pk sc : Int) (flow ln : Bool) (rv : List Value) (rn : Nat) (ring : List (Int × Int)) (tl : List (Addr × Obj)) (t0 t1 t2 t3 t4 p0 p1 p2 p3 b0 b1 b2 b3 b4 b5 b6 b7 b8 b9 : Tok) (u : Str → Option Value) : s' = { s with heap := h', toks := tk } →
    Fr h₀ L h' (fun z => if z = Str.ofString "pr" then some (Value.ref pr) else if z = Str.ofString "ring" then some (Value.ref rg) else if z = Str.ofString "book" then some (Value.ref bk) else u z) →
    News h₀ L h' (LED bk drg rg rl dpr pr sl bo (rgD w.params kr size most 0 0 0 t0 t1 t2 t3 t4 rl) (listOf rv.toArray rn) (prD w.params kp mt up 1 0 flow p0 p1 p2 p3 rg ln) (listOf [].toArray 0) tl) →
    ordA bk drg rg rl dpr pr sl →
    OwnOff tl [bk, drg, rg, rl, dpr, pr, sl] →
    Rows tl rv ring →
    Rows tl [] [] →
    bo.IsDictOf (PySem.strKind prog w) (bkV size most mt up 1 0 flow ln sl 0 run pk sc b0 b1 b2 b3 b4 b5 b6 b7 b8 b9) →
    Inv size most 0 0 0 up' run' pk sc ring [] →
    pk ≤ 900 → LJ9 prog w h₀ L s s'
theorem halt_post {M : Model} {A : Around} {α : Type} {m : Sem α} {Q : α → Shared → Prop} {E : Value → Shared → Prop} {s : Shared} (h : wpAny M A m (fun f s' => Halt (Q f s')) E s) : wpAny M A m Q E s := wpAny_mono h (fun _ _ x => x.mk) fun _ _ x => x
theorem good_true {cl : Str → Option Addr} {mean : ExcName → Option Value} {d : WData} {s₁ s' : Shared} {L : Addr} {m : Str → Option Value} (F : Fr s₁.heap L s'.heap m) (hg : s₁.gens = #[]) (e1 : s'.os = s₁.os) (e2 : s'.gens = s₁.gens) :
    GoodW PySem.Challenge.rw_xm0846_01.row.claim cl mean [d] s₁ (.ok (.ret (.bool true))) s' := by
  refine ⟨.inl ⟨_, .bool true, [], rfl, fun _ => rfl, .bool true, ?_, fun _ => ⟨.nil, fun _ h => nomatch h⟩⟩, F.keep, e1, e2.trans hg⟩
  have q : (WTm.eq .res (.lit (.bool true))).value [] { args := [d], res := some (.bool true), after := [d] } = some (.bool (true == true)) := w_eq_bool (by simp [WTm.value]) w_lit
  show (WShape.has [] (.bool true) .bool && WTm.holds [] (.eq .res (.lit (.bool true))) { args := [d], res := some (.bool true), after := [d] }) = true
  rw [show WTm.holds [] (.eq .res (.lit (.bool true))) { args := [d], res := some (.bool true), after := [d] } = true by unfold WTm.holds; rw [q]; rfl]
  rfl

local macro_rules | `(tactic| k_qdec) => `(tactic| decide +kernel)
set_option maxRecDepth 100000 in
set_option maxHeartbeats 16000000 in
theorem law_holds : PySem.Challenge.rw_xm0846_01.Holds := hd (by
  w_strict (k_go0
            (all_goals try k_fold)
            rename Fr _ _ _ _ => F0
            rename World => ww
            rename Below _ _ _ _ => K0
            have K1 := below_of F0
            clear K0
            with_reducible refine execs_cut F0 3 LJ1 ?_ ?_
            · (try k_fold)
              dsimp only [List.take_succ_cons, List.take_zero]
              k_steps
              · rename Fr _ _ _ _ => F1
                rename News _ _ _ _ => N1
                exact ⟨_, _, _, [_], _, [556], _, _, _, rfl, know (know F1 (Str.ofString "x") _ rfl) (Str.ofString "nums") _ rfl, fun p hp => N1 p (List.mem_cons.mpr (.inl (List.mem_singleton.mp hp))), .cons _ _ .nil, by decide, by decide, by decide, by decide, by decide⟩
              · rename Fr _ _ _ _ => F1
                rename News _ _ _ _ => N1
                rename IntsAre _ (List.map _ _) => I1
                have b := rem_ints I1
                have c := getD_items b.2 (Int.toNat 0)
                exact ⟨_, _, _, _, _, _, _, _, _, rfl, know (know F1 (Str.ofString "x") _ rfl) (Str.ofString "nums") _ rfl, fun p hp => N1 p (List.mem_cons.mpr (.inl (List.mem_singleton.mp hp))), I1, by omega, b.1, b.2, c.1, c.2⟩
            · rintro s' ⟨h', tk, nl, nv, nn, ns, x, t, u, rfl, F1, N1, I1, l1, l2, b1, x0, x1⟩
              clear F0
              dsimp only [List.drop]
              with_reducible refine execs_cut F1 2 LJ2 ?_ ?_
              · (try k_fold)
                dsimp only [List.take_succ_cons, List.take_zero]
                k_steps
                all_goals (
                  rename Fr _ _ _ _ => F2
                  rename News _ _ _ _ => N2
                  exact ⟨_, _, nl, nv, nn, ns, x, _, _, _, _, _, _, rfl, know (know (know (know F2 (Str.ofString "scale") _ rfl) (Str.ofString "most") _ rfl) (Str.ofString "x") _ rfl) (Str.ofString "nums") _ rfl, newsP N2 (by k_mem), I1, l1, l2, b1, x0, x1, rfl, by decide, by decide⟩)
              · clear F1 N1
                rintro s' ⟨h', tk, nl, nv, nn, ns, x, t, M, t1, sc, t2, u, rfl, F1, N1, I1, l1, l2, b1, x0, x1, M0, s0, s1⟩
                dsimp only [List.drop]
                with_reducible refine execs_cut F1 1 LJ3 ?_ ?_
                · (try k_fold)
                  dsimp only [List.take_succ_cons, List.take_zero]
                  have y0 : 0 ≤ (x.fdiv 3).fmod 40 := Int.fmod_nonneg_of_pos _ (by decide)
                  k_steps
                  all_goals (
                    rename Fr _ _ _ _ => F2
                    rename News _ _ _ _ => N2
                    exact ⟨_, _, nl, nv, nn, ns, x, _, _, _, _, _, _, _, _, rfl, know (know (know (know (know F2 (Str.ofString "match") _ rfl) (Str.ofString "scale") _ rfl) (Str.ofString "most") _ rfl) (Str.ofString "x") _ rfl) (Str.ofString "nums") _ rfl, newsP N2 (by k_mem), I1, l1, l2, b1, x0, x1, M0, s0, s1, by first | omega | ((have z9 : (0 : Int) ≤ 2 ^ Int.toNat 33 := by decide); omega)⟩)
                · clear F1 N1
                  rintro s' ⟨h', tk, nl, nv, nn, ns, x, t, M, t1, sc, t2, mt, t3, u, rfl, F1, N1, I1, l1, l2, b1, x0, x1, M0, s0, s1, m0⟩
                  dsimp only [List.drop]
                  with_reducible refine execs_cut F1 1 LJ4 ?_ ?_
                  · (try k_fold)
                    dsimp only [List.take_succ_cons, List.take_zero]
                    have y0 : 0 ≤ (x.fdiv 1506).fmod 200 := Int.fmod_nonneg_of_pos _ (by decide)
                    have y1 : (x.fdiv 1506).fmod 200 < 200 := Int.fmod_lt_of_pos _ (by decide)
                    k_steps
                    all_goals (
                      rename Fr _ _ _ _ => F2
                      rename News _ _ _ _ => N2
                      exact ⟨_, _, nl, nv, nn, ns, x, _, _, _, _, _, _, _, _, rfl, know (know (know (know (know F2 (Str.ofString "match") _ rfl) (Str.ofString "scale") _ rfl) (Str.ofString "most") _ rfl) (Str.ofString "x") _ rfl) (Str.ofString "nums") _ rfl, newsP N2 (by k_mem), I1, l1, l2, b1, x0, x1, by first | omega | exact Int.mul_nonneg (by omega) (by omega), s0, s1, m0⟩)
                  · clear F1 N1
                    rintro s' ⟨h', tk, nl, nv, nn, ns, x, t, M, t1, sc, t2, mt, t3, u, rfl, F1, N1, I1, l1, l2, b1, x0, x1, M0, s0, s1, m0⟩
                    dsimp only [List.drop]
                    with_reducible refine execs_cut F1 3 (LJ5 PySem.Challenge.rw_xm0846_01.row.prog ww) ?_ ?_
                    · (try k_fold)
                      dsimp only [List.take_succ_cons, List.take_zero]
                      k_steps
                      rename Fr _ _ _ _ => F2
                      rename News _ _ _ _ => N2
                      rename Obj.IsDictOf _ _ _ => H2
                      have q : 0 ≤ x.fmod 502 := Int.fmod_nonneg_of_pos _ (by decide)
                      k_dflt (obtain ⟨kr, kp, N3⟩ := led_made N2)
                      exact ⟨_, _, nl, nv, nn, ns, _, _, _, _, _, _, _, _, kr, kp, _, M, mt, sc, _, _, _, _, _, _, _, _, _, _, _, _, _, _, _, _, _, _, _, _, _, _, rfl, know (know (know (know F2 (Str.ofString "nums") _ rfl) (Str.ofString "book") _ rfl) (Str.ofString "ring") _ rfl) (Str.ofString "pr") _ rfl, N3, by dsimp only [ordA]; omega, offCons (fun _ h => nomatch h) (offNe (by omega) (by omega) (by omega) (by omega) (by omega) (by omega) (by omega)), I1, l1, l2, b1, H2, by omega, by omega, M0, s0, s1⟩
                    · clear F1 N1
                      rintro s' ⟨h', tk, nl, nv, nn, ns, bk, drg, rg, rl, dpr, pr, sl, bo, kr, kp, size, most, mt, sc, up, ln, c0, c1, c2, c3, c4, p0, p1, p2, p3, b0, b1, b2, b3, b4, b5, b6, b7, b8, b9, u, rfl, F1, N1, O1, P1, I1, l1, l2, q1, H1, g1, g2, g3, s0, s1⟩
                      dsimp only [List.drop]
                      have DD := dd_of F1
                      have I0 : Inv size most 0 0 0 up 0 0 sc [] [] := Inv.start g1 g2 g3 s0 s1
                      have R0 : Rows [(nl, listOf nv.toArray nn)] [] [] := .nil
                      with_reducible refine execs_cut F1 2 (LJ6 PySem.Challenge.rw_xm0846_01.row.prog ww 0) ?_ ?_
                      · (try k_fold)
                        dsimp only [List.take_succ_cons, List.take_zero]
                        k_steps
                        rename Fr _ _ _ _ => F2
                        rename News _ _ _ _ => N2
                        rename Obj.IsDictOf _ _ _ => H2
                        rename Inv _ _ _ _ _ _ _ _ _ _ _ => I2
                        exact ⟨_, _, nl, nv, nn, ns, bk, drg, rg, rl, dpr, pr, _, _, rfl, know (know (know (know (know F2 (Str.ofString "nums") _ rfl) (Str.ofString "nums") _ rfl) (Str.ofString "book") _ rfl) (Str.ofString "ring") _ rfl) (Str.ofString "pr") _ rfl, N2, ⟨_, kr, kp, size, most, 0, 0, 0, mt, _, 0, 0, sc, false, ln, _, [], [], _, _, [], [], _, _, _, _, _, _, _, _, _, _, _, _, _, _, _, _, _, _, _, _, _, rfl, rfl, by assumption, by assumption, .head _, (fun _ h => nomatch h), R0, R0, H2, I2, by omega⟩, I1, l1, l2, q1⟩
                      · clear F1 N1 I0 R0 H1 g1 g2 g3 s0 s1 O1 P1
                        rintro s' ⟨h', tk, nl, nv, nn, ns, bk, drg, rg, rl, dpr, pr, m, nx, rfl, F1, N1, C1, I1, l1, l2, q1⟩
                        dsimp only [List.drop]
                        with_reducible refine execs_cut F1 1 (LJ6 PySem.Challenge.rw_xm0846_01.row.prog ww 360) ?_ ?_
                        · (try k_fold)
                          dsimp only [List.take_succ_cons, List.take_zero]
                          k_steps
                          refine Halt.out ?_
                          rename Fr _ _ _ _ => F3
                          rename News _ _ _ _ => N3
                          rename IsRange _ _ _ _ _ _ _ _ => G1
                          refine range_inv2 (n := 3) (fun i m₁ nx => Core PySem.Challenge.rw_xm0846_01.row.prog ww nl nv nn bk drg rg rl dpr pr [] (Str.ofString "nums") (.ref nl) (120 * (i : Int)) m₁ nx) rfl G1 rfl rfl F3 N3 (C1.mono (by omega)) ?_ ?_
                          · rintro i t m₁ nx h tk own hi hnt hoff ⟨bo, kr, kp, size, most, start, held, oct, mt, up, run, pk, sc, flow, ln, sl, rv, sv, rn, sn, ring, sent, tl, t0, t1, t2, t3, t4, p0, p1, p2, p3, b0, b1, b2, b3, b4, b5, b6, b7, b8, b9, u, rfl, rfl, O1, P1, n1, x1, R1, Q1, H1, J1, k1⟩ F₁ N₁
                            have i1 := J1.s1
                            have i2 := J1.s2
                            have i3 := J1.m0
                            have i6 := J1.hd0
                            have i7 := J1.hd1
                            have i12 := J1.rn1
                            have i13 := J1.rn0
                            have iL := J1.len
                            have iN := I1.length
                            have i0 : 0 ≤ (0 : Int) + (i : Int) := by omega
                            dsimp only [LED] at N₁
                            simp only [List.cons_append] at N₁
                            have hO := own_off7 P1 hoff
                            have R1' : Rows (tl ++ own) rv ring := R1.mono fun p hp => List.mem_append_left _ hp
                            have Q1' : Rows (tl ++ own) sv sent := Q1.mono fun p hp => List.mem_append_left _ hp
                            have n1' := List.mem_append_left own n1
                            with_reducible refine execs_cut F₁ 3 (LJb pr rg bk nl (0 + (i : Int)) t (LED bk drg rg rl dpr pr sl bo (rgD ww.params kr size most start held oct t0 t1 t2 t3 t4 rl) (listOf rv.toArray rn) (prD ww.params kp mt up 1 0 flow p0 p1 p2 p3 rg ln) (listOf sv.toArray sn) (tl ++ own))) ?_ ?_
                            · (try k_fold)
                              dsimp only [List.take_succ_cons, List.take_zero]
                              k_steps
                              all_goals (
                                rename Fr _ _ _ _ => F2
                                rename News _ _ _ _ => N2
                                rename _ ≤ 2000000 => V1
                                rename (0 : Int) ≤ _ => V0
                                have w1 := fmod_bd21 V0
                                have w2 := fmod_bd111 V0
                                exact ⟨_, _, _, _, _, _, _, rfl, know (know (know (know (know (know (know F2 (Str.ofString "many") _ rfl) (Str.ofString "y") _ rfl) (Str.ofString "burst") _ rfl) (Str.ofString "nums") _ rfl) (Str.ofString "book") _ rfl) (Str.ofString "ring") _ rfl) (Str.ofString "pr") _ rfl, N2, V0, V1, by omega, by omega⟩)
                            · clear F₁ N₁
                              rintro s' ⟨h', tk, Y, W, ty, tw, u, rfl, F₁, N₁, Y0, Y1, W0, W1⟩
                              dsimp only [List.drop]
                              dsimp only [LED] at N₁
                              have y9 := fdiv_bd Y0 Y1
                              k_steps
                              refine Halt.out ?_
                              rename Fr _ _ _ _ => F3
                              rename News _ _ _ _ => N3
                              rename IsRange _ _ _ _ _ _ _ _ => G2
                              rename ∀ p ∈ tl ++ own, p ∈ _ => S9
                              rename Obj.IsDictOf _ _ _ => H9
                              rename Inv _ _ _ _ _ _ _ _ _ _ _ => I9
                              refine range_inv2 (n := 2) (fun j m₁ nx => Core PySem.Challenge.rw_xm0846_01.row.prog ww nl nv nn bk drg rg rl dpr pr own (Str.ofString "burst") (.int (0 + (i : Int)) t) (120 * ((i : Int) + 1)) m₁ nx) rfl G2 rfl rfl F3 N3 ?_ ?_ ?_
                              · exact ⟨_, kr, kp, size, most, start, _, _, mt, _, _, _, sc, _, ln, sl, _, _, _, _, _, _, _, _, _, _, _, _, _, _, _, _, _, _, _, _, _, _, _, _, _, _, _, rfl, rfl, O1, by assumption, S9 _ n1', fun p hp => S9 p (List.mem_append_right _ hp), by assumption, by assumption, H9, I9, by omega⟩
                              · clear F3 N3 S9 H9 I9 F₁ N₁ R1' Q1' n1' H1 J1 R1 Q1 hO i1 i2 i3 i6 i7 i12 i13 iL
                                rintro j tj m₁ nx h tk own2 hj hnt2 hoff2 ⟨bob, krb, kpb, sizeb, mostb, startb, heldb, octb, mtb, upb, runb, pkb, scb, flowb, lnb, slb, rvb, svb, rnb, snb, ringb, sentb, tlb, t0b, t1b, t2b, t3b, t4b, p0b, p1b, p2b, p3b, b0b, b1b, b2b, b3b, b4b, b5b, b6b, b7b, b8b, b9b, ub, rfl, rfl, O1b, P1b, n1b, x1b, R1b, Q1b, H1b, J1b, k1b⟩ F₂ N₂
                                have hk2 : ∀ p ∈ (nl, listOf nv.toArray nn) :: own, p ∈ tlb := fun p hp => (List.mem_cons.mp hp).elim (fun e => e ▸ n1b) (x1b p)
                                dsimp only [LED] at N₂
                                simp only [List.cons_append] at N₂
                                have hO := own_off7 P1b hoff2
                                have R2' : Rows (tlb ++ own2) rvb ringb := R1b.mono fun p hp => List.mem_append_left _ hp
                                have Q2' : Rows (tlb ++ own2) svb sentb := Q1b.mono fun p hp => List.mem_append_left _ hp
                                have n2' := List.mem_append_left own2 n1b
                                k_steps
                                rename Fr _ _ _ _ => F4
                                rename News _ _ _ _ => N4
                                rename ∀ p ∈ tlb ++ own2, p ∈ _ => S9
                                refine inv_end2 (tl := (nl, listOf nv.toArray nn) :: own) (know (know (know (know (know F4 (Str.ofString "burst") _ rfl) (Str.ofString "nums") _ rfl) (Str.ofString "book") _ rfl) (Str.ofString "ring") _ rfl) (Str.ofString "pr") _ rfl) N4 (fun p hp => S9 p (List.mem_append_right _ hp)) hnt2 (by assumption) (fun p hp => S9 p (List.mem_append_left _ (hk2 p hp))) hoff2 (fun p hp => by simp [LED, hk2 p hp])
                                  ⟨_, krb, kpb, sizeb, mostb, _, _, _, _, _, _, pkb, scb, _, lnb, _, _, _, _, _, _, _, _, _, _, _, _, _, _, _, _, _, _, _, _, _, _, _, _, _, _, _, _, rfl, rfl, by assumption, tidy_off (fun p hp => S9 p (List.mem_append_left _ (hk2 p hp))) (by assumption), tidy_has _ (.head _), fun p hp => tidy_has _ (.tail _ hp), tidy_rows (by assumption), tidy_rows (by assumption), by assumption, by assumption, k1b⟩
                              · clear F3 N3 S9 H9 I9 F₁ N₁ R1' Q1' n1' H1 J1 R1 Q1 hO i1 i2 i3 i6 i7 i12 i13 iL
                                rintro m₁ nx h tk ⟨boc, krc, kpc, sizec, mostc, startc, heldc, octc, mtc, upc, runc, pkc, scc, flowc, lnc, slc, rvc, svc, rnc, snc, ringc, sentc, tlc, t0c, t1c, t2c, t3c, t4c, p0c, p1c, p2c, p3c, b0c, b1c, b2c, b3c, b4c, b5c, b6c, b7c, b8c, b9c, uc, rfl, rfl, O1c, P1c, n1c, x1c, R1c, Q1c, H1c, J1c, k1c⟩ F₂ N₂
                                dsimp only [LED] at N₂
                                k_steps
                                rename Fr _ _ _ _ => F4
                                rename News _ _ _ _ => N4
                                have hk3 : ∀ p ∈ [(nl, listOf nv.toArray nn)], p ∈ tlc := fun p hp => (List.mem_singleton.mp hp) ▸ n1c
                                have hk4 : ∀ p ∈ [(nl, listOf nv.toArray nn)], p ∈ tl := fun p hp => (List.mem_singleton.mp hp) ▸ n1
                                refine inv_end2 (tl := [(nl, listOf nv.toArray nn)]) (know (know (know (know (know F4 (Str.ofString "nums") _ rfl) (Str.ofString "nums") _ rfl) (Str.ofString "book") _ rfl) (Str.ofString "ring") _ rfl) (Str.ofString "pr") _ rfl) N4 x1c hnt P1c hk3 hoff (fun p hp => by simp [LED, hk4 p hp])
                                  ⟨_, krc, kpc, sizec, mostc, _, _, _, _, _, _, pkc, scc, _, lnc, _, _, _, _, _, _, _, _, _, _, _, _, _, _, _, _, _, _, _, _, _, _, _, _, _, _, _, _, rfl, rfl, O1c, tidy_off hk3 P1c, tidy_has _ (.head _), (fun p hp => nomatch hp), tidy_rows R1c, tidy_rows Q1c, H1c, J1c, by omega⟩
                          · rintro m₁ nx h tk C2 F₂ N₂
                            k_steps
                            exact ⟨_, _, nl, nv, nn, ns, bk, drg, rg, rl, dpr, pr, _, _, rfl, F₂, N₂, C2.mono (by decide), I1, l1, l2, q1⟩
                        · clear F1 N1 C1
                          rintro s' ⟨h', tk, nl, nv, nn, ns, bk, drg, rg, rl, dpr, pr, m, nx, rfl, F1, N1, ⟨bo, kr, kp, size, most, start, held, oct, mt, up, run, pk, sc, flow, ln, sl, rv, sv, rn, sn, ring, sent, tl, t0, t1, t2, t3, t4, p0, p1, p2, p3, b0, b1, b2, b3, b4, b5, b6, b7, b8, b9, u, rfl, rfl, O1, P1, n1, x1, R1, Q1, H1, J1, k1⟩, I1, l1, l2, q1⟩
                          dsimp only [List.drop]
                          dsimp only [LED] at N1
                          have i1 := J1.s1
                          have i2 := J1.s2
                          have i3 := J1.m0
                          have i4 := J1.st0
                          have i5 := J1.st1
                          have i6 := J1.hd0
                          have i7 := J1.hd1
                          have iL := J1.len
                          have i12 := J1.rn1
                          have i13 := J1.rn0
                          have i9 := J1.octB
                          have i11 := Q1.length
                          with_reducible refine execs_cut F1 5 (LJ8 PySem.Challenge.rw_xm0846_01.row.prog ww) ?_ ?_
                          · (try k_fold)
                            dsimp only [List.take_succ_cons, List.take_zero]
                            by_cases hfb : (decide (size ≤ (sv.length : Int)) || decide (0 < most) && decide (most ≤ oct)) = true
                            · have hfr : (decide (size ≤ held) || (decide (most ≠ 0) && decide (most ≤ oct))) = true := by
                                simp only [Bool.or_eq_true, Bool.and_eq_true, decide_eq_true_eq] at hfb ⊢
                                omega
                              have hq : ¬ ((true != (decide (size ≤ (sv.length : Int)) || decide (0 < most) && decide (most ≤ oct))) = true) := by rw [hfb]; decide
                              k_steps
                              rename Fr _ _ _ _ => F2
                              rename News _ _ _ _ => N2
                              rename KtsTurn _ _ _ => T2
                              k_dflt (replace F2 := turn_nil T2 F2)
                              k_dflt (replace N2 := turn_nilN T2 N2)
                              exact ⟨_, _, bk, drg, rg, rl, dpr, pr, sl, bo, kr, kp, size, most, start, held, oct, mt, up, up, run, pk, sc, flow, ln, rv, sv, _, _, ring, sent, tl, t0, t1, t2, t3, t4, p0, p1, p2, p3, b0, b1, b2, b3, b4, b5, b6, b7, b8, b9, _, rfl, know (know (know F2 (Str.ofString "book") _ rfl) (Str.ofString "ring") _ rfl) (Str.ofString "pr") _ rfl, by walk_at "my N", O1, P1, R1, Q1, H1, J1, by omega⟩
                            · have hn := hfb
                              simp only [Bool.or_eq_true, Bool.and_eq_true, decide_eq_true_eq] at hn
                              have j1 : held < size := by omega
                              have j2 : most = 0 ∨ oct < most := by omega
                              have j3 := J1.next (by omega) j1
                              generalize hPe : placeOf size start held = P at j3
                              have w1 : size ≤ start + held → P = start + held - size := fun q => by rw [← hPe]; exact if_pos q
                              have w2 : start + held < size → P = start + held := fun q => by rw [← hPe]; exact if_neg (by omega)
                              have A1 := J1.add (by omega) j1 hPe (last := up + 1) (o := 2) (by omega) (by omega) (by have := J1.sc1; omega)
                              have hq : ¬ ((false != (decide (size ≤ (sv.length : Int)) || decide (0 < most) && decide (most ≤ oct))) = true) := by rw [Bool.not_eq_true] at hfb; rw [hfb]; decide
                              k_steps
                              rename Fr _ _ _ _ => F2
                              rename News _ _ _ _ => N2
                              exact ⟨_, _, bk, drg, rg, rl, dpr, pr, sl, _, kr, kp, size, most, start, held + 1, oct + 2, mt, up, _, _, _, sc, flow, ln, _, _, _, _, _, _, _, _, _, _, _, _, _, _, _, _, _, _, _, _, _, _, _, _, _, _, _, rfl, know (know (know F2 (Str.ofString "book") _ rfl) (Str.ofString "ring") _ rfl) (Str.ofString "pr") _ rfl, N2, O1, by assumption, by assumption, by assumption, by assumption, A1, by omega⟩
                          · clear F1 N1
                            rintro s' ⟨h', tk, bk, drg, rg, rl, dpr, pr, sl, bo, kr, kp, size, most, start, held, oct, mt, up, up', run, pk, sc, flow, ln, rv, sv, rn, sn, ring, sent, tl, t0, t1, t2, t3, t4, p0, p1, p2, p3, b0, b1, b2, b3, b4, b5, b6, b7, b8, b9, u, rfl, F1, N1, O1, P1, R1, Q1, H1, J1, k1⟩
                            dsimp only [List.drop]
                            dsimp only [LED] at N1
                            have R0 : Rows tl [] [] := .nil
                            have J0 := J1.empty up
                            with_reducible refine execs_cut F1 3 (LJ9 PySem.Challenge.rw_xm0846_01.row.prog ww) ?_ ?_
                            · (try k_fold)
                              dsimp only [List.take_succ_cons, List.take_zero]
                              k_steps
                              rename Fr _ _ _ _ => F2
                              rename News _ _ _ _ => N2
                              rename Obj.IsDictOf _ _ _ => H2
                              exact ⟨_, _, bk, drg, rg, rl, dpr, pr, _, _, kr, kp, size, most, mt, up, _, run, _, pk, sc, flow, ln, rv, _, ring, tl, _, _, _, _, _, _, _, _, _, _, _, _, _, _, _, _, _, _, _, _, rfl, F2, led_new N2, by dsimp only [ordA]; omega, off_new7 P1 (by assumption), R1, R0, H2, J0, k1⟩
                            · clear F1 N1 R1 Q1 J1 H1 O1 P1
                              rintro s' ⟨h', tk, bk, drg, rg, rl, dpr, pr, sl, bo, kr, kp, size, most, mt, up, up', run, run', pk, sc, flow, ln, rv, rn, ring, tl, t0, t1, t2, t3, t4, p0, p1, p2, p3, b0, b1, b2, b3, b4, b5, b6, b7, b8, b9, u, rfl, F1, N1, O1, P1, R1, Q1, H1, J1, k1⟩
                              dsimp only [List.drop]
                              dsimp only [LED] at N1
                              refine halt_post ?_
                              (try k_fold)
                              k_steps
                              refine Halt.out ?_
                              rename Fr _ _ _ _ => F9
                              exact good_true F9 (by assumption) rfl rfl))

end Mine
theorem PySem.Challenge.cw_xm0846_01_holds : PySem.Challenge.rw_xm0846_01.Holds := by
  exact Mine.law_holds
