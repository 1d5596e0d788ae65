import PyProof.Rows.All
import Wide.All
import OpenK.AllK
import Wide.FinOn
import Lean
import PySem.Challenge.RW_og0002_01
open PySem PySem.W PySem.Calls PyProof.Rows
set_option Elab.async false
set_option linter.unusedVariables false
set_option compiler.extract_closed false
namespace Mine
section
set_option maxRecDepth 100000
theorem left_boot {p q : Program} {loose : List Str} {Xt : Shared → Bool} {α : Type} {Yf : Shared → α} {Ya : World → α} {N : Nat}
    (e : opening p = plainProg p.main.scope.names) (hN : Nat.ble 600 N = true) (f : ∀ s, fenceModules? p s = some s)
    (h : ∀ (w : World) (os : OsState), (match (boot_heap w.params).isNs mainGlobals with
      | true => (PySem.W.Fast.tw14082659384304107361 PySem.W.Fast.tw14364793385576792824 p w (boot_heap w.params).objs.size ((boot_heap w.params).nsMap mainGlobals "__annotations__") N ⟨boot_heap w.params, Array.mk [], boot_drawn, boot_toks, os⟩ (topStub p)).bind fun s₁ =>
          match staticsOk (importedModules p.main.body) (boot_heap w.params) s₁.heap && namesBound p s₁.heap && gensDone s₁ && laidKept (boot_heap w.params) s₁.heap with
          | true => some (PySem.W.Fast.tw4187177175401517315 q loose (importedModules p.main.body) Xt true s₁, Yf s₁)
          | false => none
      | false => none) = some (openGood q loose, Ya w)) : LeftO p q loose Xt Yf Ya N := fun w => by
  obtain ⟨⟨h0, gs, d, k, os⟩, e1, e2⟩ := Option.map_eq_some_iff.mp (boot_open e hN f w)
  obtain ⟨rfl, rfl, rfl, rfl⟩ : h0 = boot_heap w.params ∧ gs = Array.mk [] ∧ d = boot_drawn ∧ k = boot_toks := by simpa using e2
  have hh := h w os
  unfold openEnds
  rw [e1, ← hh, ← PySem.W.Fast.te14082659384304107361, ← PySem.W.Fast.te14364793385576792824, ← PySem.W.Fast.te4187177175401517315]
  show (topFrom treeTable p w N _).map _ = _
  unfold topFrom
  dsimp only
  cases (boot_heap w.params).isNs mainGlobals
  · rfl
  · show Option.map _ (Option.bind _ _) = Option.bind _ _
    cases topRun treeTable p w (boot_heap w.params).objs.size ((boot_heap w.params).nsMap mainGlobals "__annotations__") N ⟨boot_heap w.params, Array.mk [], boot_drawn, boot_toks, os⟩ (topStub p) with
    | none => rfl
    | some s₁ =>
      show Option.map _ (match staticsOk (importedModules p.main.body) (boot_heap w.params) s₁.heap && namesBound p s₁.heap && gensDone s₁ && laidKept (boot_heap w.params) s₁.heap with | true => some s₁ | false => none) = (match staticsOk (importedModules p.main.body) (boot_heap w.params) s₁.heap && namesBound p s₁.heap && gensDone s₁ && laidKept (boot_heap w.params) s₁.heap with | true => _ | false => none)
      cases staticsOk (importedModules p.main.body) (boot_heap w.params) s₁.heap && namesBound p s₁.heap && gensDone s₁ && laidKept (boot_heap w.params) s₁.heap <;> rfl
theorem said_ok : PySem.Challenge.rw_og0002_01.wellSaid = true := by
  unfold OpenLaw.wellSaid OpenRow.wellSaid
  try unfold OpenRow.partSaid
  try unfold looksOpen
  repeat' (with_reducible refine look_both ?_ ?_)
  all_goals decide +kernel
noncomputable def hd.view_39 : Program := { PySem.Challenge.pw_og0002_01 with main := { PySem.Challenge.pw_og0002_01.main with body := (PySem.Challenge.pw_og0002_01.main.body.drop 1).take 2 ++ ((PySem.Challenge.pw_og0002_01.main.body.drop 4).take 1 ++ ((PySem.Challenge.pw_og0002_01.main.body.drop 6).take 6 ++ PySem.Challenge.pw_og0002_01.main.body.drop 13)) } }
section
set_option hygiene false in
local macro_rules | `(tactic| o_head $H:term) => `(tactic| (
  refine holds_open (q := hd.view_39) (loose := [Str.ofString "LazyError"]) (Xt := fun s => xlAt hd.view_39 [] s && recOk (RowW.records PySem.Challenge.rw_og0002_01.row.toRowW) s) (XP := XL hd.view_39 []) (Yf := Hook.obs $H) (Ya := Hook.val $H) (YP := Hook.says $H) (N := 3556) ?hl (Hook.of $H) (Hook.keeps $H) (fun s e => xl_of s (Bool.and_eq_true_iff.mp e).1) XL.keeps (by rfl) (by rfl) (by rfl) (fun s e => recFacts_of (Bool.and_eq_true_iff.mp e).2) (by rfl) (by assumption) (by decide +kernel) ⟨rfl, rfl, rfl, rfl, rfl, by decide +kernel⟩ ?hw ?hc
  case hl =>
    refine left_boot (by kernel_rfl) (by decide) (fun s => by kernel_rfl) (fun w os => ?_)
    kernel_rfl))
set_option hygiene false in
local macro_rules | `(tactic| o_law) => `(tactic| refine holds_law said_ok fun said => ?_)
set_option maxRecDepth 100000 in
set_option maxHeartbeats 8000000 in
open_top hd for PySem.Challenge.rw_og0002_01
end

end
section
/-- the entries of a Word's dict -/
structure WB where
  q0 : Int
  q1 : Int
  q2 : Int
  q3 : Int
  q4 : Int
  q5 : Int
  u0 : Tok
  u1 : Tok
  u2 : Tok
  u3 : Tok
  u4 : Tok
  u5 : Tok
  kind : Str
  kt : Tok
  text : Str
  tt : Tok
  line : Int
  lt : Tok
  col : Int
  ct : Tok
  value : Value
  first : Bool

abbrev wordD (b : WB) : Obj := dictOf [⟨b.q0, .str (Str.ofString "kind") b.u0, .str b.kind b.kt⟩, ⟨b.q1, .str (Str.ofString "text") b.u1, .str b.text b.tt⟩, ⟨b.q2, .str (Str.ofString "line") b.u2, .int b.line b.lt⟩,
  ⟨b.q3, .str (Str.ofString "column") b.u3, .int b.col b.ct⟩, ⟨b.q4, .str (Str.ofString "value") b.u4, b.value⟩, ⟨b.q5, .str (Str.ofString "is_first") b.u5, .bool b.first⟩] 6

/-- the entries of a Layout's dict -/
structure LB where
  k0 : Int
  k1 : Int
  k2 : Int
  k3 : Int
  k4 : Int
  k5 : Int
  k6 : Int
  k7 : Int
  t0 : Tok
  t1 : Tok
  t2 : Tok
  t3 : Tok
  t4 : Tok
  t5 : Tok
  t6 : Tok
  t7 : Tok
  wl : Addr
  pos : Int
  pt : Tok
  stk : Addr
  shown : Value
  op : Bool
  em : Bool
  fo : Bool
  al : Bool

abbrev layD (b : LB) : Obj := dictOf [⟨b.k0, .str (Str.ofString "words") b.t0, .ref b.wl⟩, ⟨b.k1, .str (Str.ofString "at") b.t1, .int b.pos b.pt⟩, ⟨b.k2, .str (Str.ofString "stack") b.t2, .ref b.stk⟩,
  ⟨b.k3, .str (Str.ofString "shown") b.t3, b.shown⟩, ⟨b.k4, .str (Str.ofString "is_opening") b.t4, .bool b.op⟩, ⟨b.k5, .str (Str.ofString "is_empty") b.t5, .bool b.em⟩, ⟨b.k6, .str (Str.ofString "is_forced") b.t6, .bool b.fo⟩,
  ⟨b.k7, .str (Str.ofString "is_aligned") b.t7, .bool b.al⟩] 8

/-- the caller's ground: the frame at hand, what stands below it, the written part, the top -/
structure Cx (w : World) (mean : ExcName → Option Value) (mg mb : Str → Option Value) (A A₀ : Around) (base h₀ : Heap) (outer : List Env) (env : Env) (L : Addr) (m : Str → Option Value) (h : Heap) : Prop where
  B : Below A₀ base outer h₀
  F : Fr h₀ L h m
  X : (Mine.hd.heap_1 w.params).In h₀
  T : Top Mine.hd.view_39 (looseW Mine.hd.view_39 [Str.ofString "LazyError"]) mean mg mb h₀
  fr : A.frames = some (env :: outer)
  loc : env.frame = some L
  kd : env.scope.kind = .function
  hd : A.handled = none


theorem news_tail {h₀ h : Heap} {L : Addr} {p : Addr × Obj} {l : List (Addr × Obj)} (N : News h₀ L h (p :: l)) : News h₀ L h l := fun q hq => N q (.tail _ hq)

theorem ints_last {vs : List Value} {ns : List Int} (hi : IntsAre vs ns) (hne : ns ≠ []) : ∃ t, vs[vs.length - 1]? = some (.int (ns.getLastD 0) t) ∧ 0 < vs.length := by
  induction hi with
  | nil => exact absurd rfl hne
  | @cons vs' ns' i t r ih =>
    cases r with
    | nil => exact ⟨_, rfl, by simp⟩
    | cons j t' r' =>
      obtain ⟨t2, h1, h2⟩ := ih (by simp)
      refine ⟨t2, ?_, by simp⟩
      simp only [List.length_cons, Nat.add_sub_cancel] at h1 ⊢
      rw [List.getElem?_cons_succ]
      simpa using h1

theorem item_last {prog : Program} {w : World} {A : Around} {E : Value → Shared → Prop} {s : Shared} {value slice : PySem.Expr} {l : Addr} {vs : List Value} {ns : List Int} {u : Tok} {Q : Value → Shared → Prop}
    (hl : s.heap.IsList l vs.toArray) (hi : IntsAre vs ns) (hne : ns ≠ []) (h : ∀ t, Q (.int (ns.getLastD 0) t) s)
    (hs : subscripted slice false (.ref l) (.int (-1) u) = operate [.ref l, .int (-1) u] (getItem (.ref l) (.int (-1) u)) := by with_unfolding_all rfl) :
    wpAny (model prog w) A (subscriptTail value slice (.ref l) (.int (-1) u)) Q E s := by
  obtain ⟨t, h1, h2⟩ := ints_last hi hne
  refine tail_any hl.typeIs slot_list_getitem.lookup (wpAny_getItem_list_neg hl (by decide) ?_ (by decide) ?_ (h t)) hs
  · simp; omega
  · have : ((-1 : Int) + (vs.toArray.size : Nat)).toNat = vs.length - 1 := by simp; omega
    rw [this]; simpa using h1

theorem all_ne_of_lt {l : List (Addr × Obj)} {d : Addr} (h : ∀ p ∈ l, p.1 < d) : ∀ p ∈ l, p.1 ≠ d := fun p hp => Nat.ne_of_lt (h p hp)
theorem lt_of_allLt {d : Addr} : ∀ {l : List (Addr × Obj)}, AllLt d l → ∀ p ∈ l, p.1 < d
  | [], _, _, hp => nomatch hp
  | _ :: _, h, _, .head _ => h.1
  | _ :: _, h, _, .tail _ hp => lt_of_allLt h.2 _ hp
theorem all_ne_of_allLt {l : List (Addr × Obj)} {d : Addr} (h : AllLt d l) : ∀ p ∈ l, p.1 ≠ d := all_ne_of_lt (lt_of_allLt h)

/-- a word of the layout's own, made behind all that the ledger holds -/
structure VWord (W : List (Addr × Obj)) (dx stk xd x : Nat) (vb : WB) (t : Str) : Prop where
  l1 : dx < xd
  l2 : stk < xd
  l3 : xd < x
  l4 : ∀ p ∈ W, p.1 < xd
  kind : vb.kind = Str.ofString "special"
  text : vb.text = t
  value : ∃ tv, vb.value = .str (Str.ofString "virtual") tv

theorem VWord.of {W : List (Addr × Obj)} {dx stk xd x : Addr} {o₁ o₂ : Obj} {vb : WB} {t : Str} {tv : Tok} (h : ∀ p ∈ (dx, o₁) :: (stk, o₂) :: W, p.1 < xd) (hx : xd < x) (h1 : vb.kind = Str.ofString "special") (h2 : vb.text = t)
    (h3 : vb.value = .str (Str.ofString "virtual") tv) : VWord W dx stk xd x vb t :=
  ⟨h (dx, o₁) (.head _), h (stk, o₂) (.tail _ (.head _)), hx, fun p hp => h p (.tail _ (.tail _ hp)), h1, h2, tv, h3⟩

theorem ints_pos {vs : List Value} {ns : List Int} (hi : IntsAre vs ns) (h : ns.getLastD 0 ≠ 0) : 0 < vs.length := by
  cases hi with
  | nil => exact absurd rfl h
  | cons => simp
theorem ints_pos' {vs : List Value} {ns : List Int} (hi : IntsAre vs ns) (h : decide (ns = []) = false) : 0 < vs.length := by
  cases hi with
  | nil => simp at h
  | cons => simp
theorem ints_pos'' {vs : List Value} {ns : List Int} (hi : IntsAre vs ns) (h : ns ≠ []) : 0 < vs.length := by
  cases hi with
  | nil => simp at h
  | cons => simp

theorem news_sub {h₀ h : Heap} {L : Addr} {l l' : List (Addr × Obj)} (N : News h₀ L h l) (hs : ∀ p ∈ l', p ∈ l) : News h₀ L h l' := fun q hq => N q (hs q hq)
theorem news_drop3 {h₀ h : Heap} {L : Addr} {p q r : Addr × Obj} {l : List (Addr × Obj)} (N : News h₀ L h (p :: q :: r :: l)) : News h₀ L h (p :: q :: l) :=
  news_sub N fun x hx => by
    rcases List.mem_cons.mp hx with z | hx
    · exact z ▸ .head _
    · rcases List.mem_cons.mp hx with z | hx
      · exact z ▸ .tail _ (.head _)
      · exact .tail _ (.tail _ (.tail _ hx))
theorem lt_tail {l : List (Addr × Obj)} {p : Addr × Obj} {d : Addr} (h : ∀ q ∈ p :: l, q.1 < d) : ∀ q ∈ l, q.1 < d := fun q hq => h q (.tail _ hq)

theorem item_at {prog : Program} {w : World} {A : Around} {E : Value → Shared → Prop} {s : Shared} {value slice : PySem.Expr} {l : Addr} {items : Array Value} {k : Int} {u : Tok} {v : Value} {Q : Value → Shared → Prop}
    (hl : s.heap.IsList l items) (h0 : 0 ≤ k) (hhi : k < 1000) (hx : items[k.toNat]? = some v) (h : Q v s)
    (hs : subscripted slice false (.ref l) (.int k u) = operate [.ref l, .int k u] (getItem (.ref l) (.int k u)) := by with_unfolding_all rfl) :
    wpAny (model prog w) A (subscriptTail value slice (.ref l) (.int k u)) Q E s :=
  tail_any hl.typeIs slot_list_getitem.lookup (wpAny_getItem_list hl h0 (Int.lt_trans hhi (by decide)) hx h) hs

/-- what the layout finds next -/
inductive Res where
  | err
  | word (op em fo al : Bool)
  | virt (t : Str) (op em fo al : Bool) (ns : List Int)

def fnd (op em fo al isEnd first : Bool) (col : Int) (ns : List Int) : Res :=
  if op then
    if ns.getLastD 0 < (if isEnd then 0 else col) then .virt (Str.ofString "{") false em fo true (ns ++ [col]) else .virt (Str.ofString "{") false true fo al ns
  else if em then .virt (Str.ofString "}") op false true al ns
  else if isEnd then
    if ns = [] then .word op em fo al else if ns.getLastD 0 = 0 then .err else .virt (Str.ofString "}") op em fo al ns.dropLast
  else if !al && (first || fo) then
    if ns.getLastD 0 ≠ 0 ∧ col < ns.getLastD 0 then .virt (Str.ofString "}") op em fo al ns.dropLast
    else if ns.getLastD 0 ≠ 0 ∧ col = ns.getLastD 0 then .virt (Str.ofString ";") op em fo true ns
    else .word op em fo true
  else .word op em fo al

section
variable {op em fo al isEnd first : Bool} {col : Int} {ns : List Int}
theorem fnd_o1 (a : op = true) (b : ns.getLastD 0 < if isEnd = true then 0 else col) : fnd op em fo al isEnd first col ns = .virt (Str.ofString "{") false em fo true (ns ++ [col]) := by unfold fnd; rw [if_pos a, if_pos b]
theorem fnd_o2 (a : op = true) (b : ¬ ns.getLastD 0 < if isEnd = true then 0 else col) : fnd op em fo al isEnd first col ns = .virt (Str.ofString "{") false true fo al ns := by unfold fnd; rw [if_pos a, if_neg b]
theorem fnd_e (a : op = false) (b : em = true) : fnd op em fo al isEnd first col ns = .virt (Str.ofString "}") op false true al ns := by unfold fnd; rw [if_neg (by simp [a]), if_pos b]
theorem fnd_n1 (a : op = false) (b : em = false) (c : isEnd = true) (d : ns = []) : fnd op em fo al isEnd first col ns = .word op em fo al := by unfold fnd; rw [if_neg (by simp [a]), if_neg (by simp [b]), if_pos c, if_pos d]
theorem fnd_n2 (a : op = false) (b : em = false) (c : isEnd = true) (d : ns ≠ []) (e : ns.getLastD 0 = 0) : fnd op em fo al isEnd first col ns = .err := by unfold fnd; rw [if_neg (by simp [a]), if_neg (by simp [b]), if_pos c, if_neg d, if_pos e]
theorem fnd_n3 (a : op = false) (b : em = false) (c : isEnd = true) (d : ns ≠ []) (e : ns.getLastD 0 ≠ 0) : fnd op em fo al isEnd first col ns = .virt (Str.ofString "}") op em fo al ns.dropLast := by unfold fnd; rw [if_neg (by simp [a]), if_neg (by simp [b]), if_pos c, if_neg d, if_neg e]
theorem fnd_a1 (a : op = false) (b : em = false) (c : isEnd = false) (d : al = false) (e : first = true ∨ fo = true) (f : ns.getLastD 0 ≠ 0) (g : col < ns.getLastD 0) : fnd op em fo al isEnd first col ns = .virt (Str.ofString "}") op em fo al ns.dropLast := by
  unfold fnd; rw [if_neg (by simp [a]), if_neg (by simp [b]), if_neg (by simp [c]), if_pos (by rcases e with e | e <;> simp [d, e]), if_pos ⟨f, g⟩]
theorem fnd_a2 (a : op = false) (b : em = false) (c : isEnd = false) (d : al = false) (e : first = true ∨ fo = true) (x : ¬ (ns.getLastD 0 ≠ 0 ∧ col < ns.getLastD 0)) (f : ns.getLastD 0 ≠ 0) (g : col = ns.getLastD 0) : fnd op em fo al isEnd first col ns = .virt (Str.ofString ";") op em fo true ns := by
  unfold fnd; rw [if_neg (by simp [a]), if_neg (by simp [b]), if_neg (by simp [c]), if_pos (by rcases e with e | e <;> simp [d, e]), if_neg x, if_pos ⟨f, g⟩]
theorem fnd_a3 (a : op = false) (b : em = false) (c : isEnd = false) (d : al = false) (e : first = true ∨ fo = true) (x : ¬ (ns.getLastD 0 ≠ 0 ∧ col < ns.getLastD 0)) (y : ¬ (ns.getLastD 0 ≠ 0 ∧ col = ns.getLastD 0)) : fnd op em fo al isEnd first col ns = .word op em fo true := by
  unfold fnd; rw [if_neg (by simp [a]), if_neg (by simp [b]), if_neg (by simp [c]), if_pos (by rcases e with e | e <;> simp [d, e]), if_neg x, if_neg y]
theorem fnd_w (a : op = false) (b : em = false) (c : isEnd = false) (d : al = true ∨ (first = false ∧ fo = false)) : fnd op em fo al isEnd first col ns = .word op em fo al := by
  unfold fnd; rw [if_neg (by simp [a]), if_neg (by simp [b]), if_neg (by simp [c]), if_neg (by rcases d with d | ⟨d, e⟩ <;> simp [*])]
end

end
local macro_rules | `(tactic| k_mem) => `(tactic| assumption)
local macro_rules | `(tactic| k_all) => `(tactic| first | assumption | exact all_ne_of_lt (by assumption) | exact all_ne_of_allLt (by assumption))
local macro_rules | `(tactic| k_room) => `(tactic| ((refine Nat.lt_of_lt_of_le ?_ (by decide : 990 ≤ recursionLimit)); (try simp only [depth_mark, depth_under_make, depth_under_kw, depth_in1, depth_deeper]); omega))
local macro_rules | `(tactic| is_list) => `(tactic| exact News.isList (by k_asm) (by k_mem))
local macro_rules | `(tactic| ke_room) => `(tactic| ((refine Nat.lt_of_lt_of_le ?_ (by decide : 9000 ≤ cLine)); (simp only [units_deeper, units_in1, Around.mark_units]); omega))
local macro_rules | `(tactic| walk_at "LeaveK") => `(tactic| (refine' leaveK_ ?k1 ?k2 ?_; (case k1 | k2 => assumption); intro kF kN; (try dsimp only)))
local macro_rules | `(tactic| walk_at "subscriptTail") => `(tactic| (k_here; (with_reducible show wpAny _ _ (subscriptTail _ _ (Value.ref _) (Value.int (-1) _)) _ _ _); (with_unfolding_all refine' item_last ?k1 ?k2 ?k3 ?_ ?k6; (case k1 => is_list); (case k2 => l_ints); (case k3 => (intro hq; simp_all; done)); (case k6 => with_unfolding_all rfl); k_whole); intro t'))
local macro_rules | `(tactic| walk_at "my cx") => `(tactic| exact ⟨by assumption, by assumption, by assumption, by assumption, by first | assumption | exact Around.frames_deeper (by assumption), by first | rfl | assumption, by first | rfl | assumption, by assumption⟩)
local macro_rules | `(tactic| walk_at "my dep") => `(tactic| ((try simp only [depth_mark, depth_under_make, depth_under_kw, depth_in1, depth_deeper]); omega))
local macro_rules | `(tactic| walk_at "my un") => `(tactic| ((try simp only [units_deeper, units_in1, Around.mark_units]); omega))
local macro_rules | `(tactic| walk_at "my push") => `(tactic| ((rename News _ _ _ _ => nE); simp only [List.push_toArray] at nE))
local macro_rules | `(tactic| kpa_ne) => `(tactic| first | exact ints_pos (by assumption) (by assumption) | exact ints_pos' (by assumption) (by assumption) | exact ints_pos'' (by assumption) (by assumption))
local macro_rules | `(tactic| walk_at "subscriptTail") => `(tactic| (k_here; (with_reducible show wpAny _ _ (subscriptTail _ _ (Value.ref _) (Value.int _ _)) _ _ _); (with_unfolding_all refine' item_at ?k1 ?k2 ?k3 ?k4 ?_ ?k6; (case k1 => is_list); (case k2 | k3 | k4 => assumption); (case k6 => with_unfolding_all rfl); k_whole)))
local macro_rules | `(tactic| walk_at "my vword") => `(tactic| (try ((rename VWord _ _ _ _ _ _ _ => V'); (have v1' := V'.l1); (have v2' := V'.l2); (have v3' := V'.l3); (have v4' := V'.l4))))
local macro_rules | `(tactic| walk_at "my fnd") => `(tactic| first
  | exact fnd_o1 (by assumption) (by assumption)
  | exact fnd_o2 (by assumption) (by assumption)
  | exact fnd_e (by assumption) (by assumption)
  | exact fnd_n1 (by assumption) (by assumption) (by assumption) (by assumption)
  | exact fnd_n2 (by assumption) (by assumption) (by assumption) (by assumption) (by assumption)
  | exact fnd_n3 (by assumption) (by assumption) (by assumption) (by assumption) (by assumption)
  | exact fnd_a1 (by assumption) (by assumption) (by assumption) (by assumption) (by first | exact Or.inl (by assumption) | exact Or.inr (by assumption)) (by assumption) (by assumption)
  | exact fnd_a2 (by assumption) (by assumption) (by assumption) (by assumption) (by first | exact Or.inl (by assumption) | exact Or.inr (by assumption)) (by assumption) (by assumption) (by assumption)
  | exact fnd_a3 (by assumption) (by assumption) (by assumption) (by assumption) (by first | exact Or.inl (by assumption) | exact Or.inr (by assumption)) (by assumption) (by assumption)
  | exact fnd_w (by assumption) (by assumption) (by assumption) (by first | exact Or.inl (by assumption) | exact Or.inr ⟨(by assumption), (by assumption)⟩)
  | (simp [fnd, *]; done))

section
section
variable {w : World} {mean : ExcName → Option Value} {mg mb : Str → Option Value} {A A₀ : Around} {base h₀ : Heap} {outer : List Env} {env : Env} {L : Addr} {m : Str → Option Value} {s : Shared}
    {Q : Value → Shared → Prop} {E : Value → Shared → Prop}
variable {news : List (Addr × Obj)}

set_option maxRecDepth 100000 in
set_option maxHeartbeats 4000000 in
theorem top_spec {la dx wl stk : Addr} {ep : Nat} {vs : List Value} {ns : List Int} {k0 k1 k2 k3 k4 k5 k6 k7 : Int} {t0 t1 t2 t3 t4 t5 t6 t7 pt : Tok} {pos : Int} {shown : Value} {op em fo al : Bool}
    (C : Cx w mean mg mb A A₀ base h₀ outer env L m s.heap) (hdep : A.depth < 900) (hun : A.units < 8000) (N : News h₀ L s.heap news)
    (hla : (la, instObj 185 dx) ∈ news) (hdx : (dx, dictOf [⟨k0, .str (Str.ofString "words") t0, .ref wl⟩, ⟨k1, .str (Str.ofString "at") t1, .int pos pt⟩, ⟨k2, .str (Str.ofString "stack") t2, .ref stk⟩, ⟨k3, .str (Str.ofString "shown") t3, shown⟩, ⟨k4, .str (Str.ofString "is_opening") t4, .bool op⟩, ⟨k5, .str (Str.ofString "is_empty") t5, .bool em⟩, ⟨k6, .str (Str.ofString "is_forced") t6, .bool fo⟩, ⟨k7, .str (Str.ofString "is_aligned") t7, .bool al⟩] 8) ∈ news) (hst : (stk, listOf vs.toArray ep) ∈ news) (hi : IntsAre vs ns)
    (h : ∀ h' tk tk', Fr h₀ L h' m → News h₀ L h' news → Q (.int (ns.getLastD 0) tk') { s with heap := h', toks := tk }) :
    wpAny (model PySem.Challenge.rw_og0002_01.row.prog w) A (call (.ref 154) [.ref la] []) Q E s := by
  obtain ⟨B, F, X, T, hfr, hloc, hkd, hha⟩ := C
  have _ : Mine.hd.heap_1 w.params = Mine.hd.heap_1 w.params ∧ PySem.Challenge.rw_og0002_01 = PySem.Challenge.rw_og0002_01 := by
    w_top off
    k_fill
    exact ⟨rfl, rfl⟩
  refine wpAny_call ?_
  refine' code_def (binds := [(Str.ofString "self", .ref la)]) B F X N T hfr hloc hkd ?k6 ?k7 ?k8 ?k9 ?kB ?_ ?c2 ?c3 ?c4 ?c5
  case k6 => k_is
  case k7 => k_is
  case k8 => exact Nat.lt_of_lt_of_le hdep (by decide)
  case k9 => first | exact BindsTo.of_eq rfl | exact binds_K (by k_in) rfl (by k_is) rfl rfl rfl
  case c5 => decide
  case kB => exact locs rfl
  case c2 => exact rfl
  case c3 => exact rfl
  case c4 => exact rfl
  intro g' L' h' FG' F' N' B' X' T'
  clear B F X N T
  (try k_fold)
  k_steps
  · have hn : ns = [] := by simp_all
    subst hn
    exact h _ _ _ (by assumption) (news_tail (by assumption))
  · exact h _ _ _ (by assumption) (news_tail (by assumption))

set_option maxRecDepth 100000 in
set_option maxHeartbeats 4000000 in
theorem isword_spec {a d : Addr} {b : WB} {kind text : Str} {k1 k2 : Tok}
    (C : Cx w mean mg mb A A₀ base h₀ outer env L m s.heap) (hdep : A.depth < 900) (N : News h₀ L s.heap news)
    (hwa : (a, instObj 79 d) ∈ news) (hwd : (d, wordD b) ∈ news)
    (h : ∀ h' tk, Fr h₀ L h' m → News h₀ L h' news → Q (.bool (b.kind == kind && b.text == text)) { s with heap := h', toks := tk }) :
    wpAny (model PySem.Challenge.rw_og0002_01.row.prog w) A (call (.ref 76) [.ref a, .str kind k1, .str text k2] []) Q E s := by
  obtain ⟨B, F, X, T, hfr, hloc, hkd, hha⟩ := C
  have _ : Mine.hd.heap_1 w.params = Mine.hd.heap_1 w.params ∧ PySem.Challenge.rw_og0002_01 = PySem.Challenge.rw_og0002_01 := by
    w_top off
    k_fill
    exact ⟨rfl, rfl⟩
  refine wpAny_call ?_
  refine' code_def (binds := [(Str.ofString "self", .ref a), (Str.ofString "kind", .str kind k1), (Str.ofString "text", .str text k2)]) B F X N T hfr hloc hkd ?k6 ?k7 ?k8 ?k9 ?kB ?_ ?c2 ?c3 ?c4 ?c5
  case k6 => k_is
  case k7 => k_is
  case k8 => exact Nat.lt_of_lt_of_le hdep (by decide)
  case k9 => first | exact BindsTo.of_eq rfl | exact binds_K (by k_in) rfl (by k_is) rfl rfl rfl
  case c5 => decide
  case kB => exact locs rfl
  case c2 => exact rfl
  case c3 => exact rfl
  case c4 => exact rfl
  intro g' L' h' FG' F' N' B' X' T'
  clear B F X N T
  (try k_fold)
  k_steps
  · have e : (b.kind == kind && b.text == text) = (b.text == text) := by simp_all
    rw [e] at h
    exact h _ _ (by assumption) (by assumption)
  · have e : (b.kind == kind && b.text == text) = (b.kind == kind) := by simp_all
    rw [e] at h
    exact h _ _ (by assumption) (by assumption)

set_option maxRecDepth 100000 in
set_option maxHeartbeats 4000000 in
theorem isvirt_no {a d : Addr} {b : WB}
    (C : Cx w mean mg mb A A₀ base h₀ outer env L m s.heap) (hdep : A.depth < 900) (N : News h₀ L s.heap news)
    (hwa : (a, instObj 79 d) ∈ news) (hwd : (d, wordD b) ∈ news) (hv : b.value = .none)
    (h : ∀ h' tk, Fr h₀ L h' m → News h₀ L h' news → Q (.bool false) { s with heap := h', toks := tk }) :
    wpAny (model PySem.Challenge.rw_og0002_01.row.prog w) A (call (.ref 91) [.ref a] []) Q E s := by
  cases b
  dsimp only at hv
  subst hv
  obtain ⟨B, F, X, T, hfr, hloc, hkd, hha⟩ := C
  have _ : Mine.hd.heap_1 w.params = Mine.hd.heap_1 w.params ∧ PySem.Challenge.rw_og0002_01 = PySem.Challenge.rw_og0002_01 := by
    w_top off
    k_fill
    exact ⟨rfl, rfl⟩
  refine wpAny_call ?_
  refine' code_def (binds := [(Str.ofString "word", .ref a)]) B F X N T hfr hloc hkd ?k6 ?k7 ?k8 ?k9 ?kB ?_ ?c2 ?c3 ?c4 ?c5
  case k6 => k_is
  case k7 => k_is
  case k8 => exact Nat.lt_of_lt_of_le hdep (by decide)
  case k9 => first | exact BindsTo.of_eq rfl | exact binds_K (by k_in) rfl (by k_is) rfl rfl rfl
  case c5 => decide
  case kB => exact locs rfl
  case c2 => exact rfl
  case c3 => exact rfl
  case c4 => exact rfl
  intro g' L' h' FG' F' N' B' X' T'
  clear B F X N T
  (try k_fold)
  k_steps
  · exact h _ _ (by assumption) (by assumption)
  · rename (_ == _) = false => hq
    dsimp only at hq
    rw [hq]
    exact h _ _ (by assumption) (by assumption)

set_option maxRecDepth 100000 in
set_option maxHeartbeats 4000000 in
theorem isvirt_yes {a d : Addr} {b : WB} {t : Tok}
    (C : Cx w mean mg mb A A₀ base h₀ outer env L m s.heap) (hdep : A.depth < 900) (N : News h₀ L s.heap news)
    (hwa : (a, instObj 79 d) ∈ news) (hwd : (d, wordD b) ∈ news) (hv : b.value = .str (Str.ofString "virtual") t) (hk : b.kind = Str.ofString "special")
    (h : ∀ h' tk, Fr h₀ L h' m → News h₀ L h' news → Q (.bool true) { s with heap := h', toks := tk }) :
    wpAny (model PySem.Challenge.rw_og0002_01.row.prog w) A (call (.ref 91) [.ref a] []) Q E s := by
  cases b
  dsimp only at hv hk
  subst hv hk
  obtain ⟨B, F, X, T, hfr, hloc, hkd, hha⟩ := C
  have _ : Mine.hd.heap_1 w.params = Mine.hd.heap_1 w.params ∧ PySem.Challenge.rw_og0002_01 = PySem.Challenge.rw_og0002_01 := by
    w_top off
    k_fill
    exact ⟨rfl, rfl⟩
  refine wpAny_call ?_
  refine' code_def (binds := [(Str.ofString "word", .ref a)]) B F X N T hfr hloc hkd ?k6 ?k7 ?k8 ?k9 ?kB ?_ ?c2 ?c3 ?c4 ?c5
  case k6 => k_is
  case k7 => k_is
  case k8 => exact Nat.lt_of_lt_of_le hdep (by decide)
  case k9 => first | exact BindsTo.of_eq rfl | exact binds_K (by k_in) rfl (by k_is) rfl rfl rfl
  case c5 => decide
  case kB => exact locs rfl
  case c2 => exact rfl
  case c3 => exact rfl
  case c4 => exact rfl
  intro g' L' h' FG' F' N' B' X' T'
  clear B F X N T
  (try k_fold)
  k_steps
  · rw [beq_self_eq_true]
    exact h _ _ (by assumption) (by assumption)
  · rw [beq_self_eq_true]
    exact h _ _ (by assumption) (by assumption)

set_option maxRecDepth 100000 in
set_option maxHeartbeats 4000000 in
theorem column_spec {a d la : Addr} {b : WB}
    (C : Cx w mean mg mb A A₀ base h₀ outer env L m s.heap) (hdep : A.depth < 900) (N : News h₀ L s.heap news)
    (hwa : (a, instObj 79 d) ∈ news) (hwd : (d, wordD b) ∈ news)
    (h : ∀ h' tk tk', Fr h₀ L h' m → News h₀ L h' news → Q (.int (if b.kind == Str.ofString "end" then 0 else b.col) tk') { s with heap := h', toks := tk }) :
    wpAny (model PySem.Challenge.rw_og0002_01.row.prog w) A (call (.ref 147) [.ref la, .ref a] []) Q E s := by
  obtain ⟨B, F, X, T, hfr, hloc, hkd, hha⟩ := C
  have _ : Mine.hd.heap_1 w.params = Mine.hd.heap_1 w.params ∧ PySem.Challenge.rw_og0002_01 = PySem.Challenge.rw_og0002_01 := by
    w_top off
    k_fill
    exact ⟨rfl, rfl⟩
  refine wpAny_call ?_
  refine' code_def (binds := [(Str.ofString "self", .ref la), (Str.ofString "word", .ref a)]) B F X N T hfr hloc hkd ?k6 ?k7 ?k8 ?k9 ?kB ?_ ?c2 ?c3 ?c4 ?c5
  case k6 => k_is
  case k7 => k_is
  case k8 => exact Nat.lt_of_lt_of_le hdep (by decide)
  case k9 => first | exact BindsTo.of_eq rfl | exact binds_K (by k_in) rfl (by k_is) rfl rfl rfl
  case c5 => decide
  case kB => exact locs rfl
  case c2 => exact rfl
  case c3 => exact rfl
  case c4 => exact rfl
  intro g' L' h' FG' F' N' B' X' T'
  clear B F X N T
  (try k_fold)
  k_steps
  · have e : (if b.kind == Str.ofString "end" then 0 else b.col) = 0 := by simp_all
    rw [e] at h
    exact h _ _ _ (by assumption) (by assumption)
  · have e : (if b.kind == Str.ofString "end" then 0 else b.col) = b.col := by simp_all
    rw [e] at h
    exact h _ _ _ (by assumption) (by assumption)

set_option maxRecDepth 100000 in
set_option maxHeartbeats 4000000 in
theorem word_new5 {kind text : Str} {line col : Int} {value : Value} {k1 k2 k3 k4 : Tok}
    (C : Cx w mean mg mb A A₀ base h₀ outer env L m s.heap) (hdep : A.depth < 900) (N : News h₀ L s.heap news)
    (h : ∀ h' tk x xd vb, Fr h₀ L h' m → News h₀ L h' ((x, instObj 79 xd) :: (xd, wordD vb) :: news) → (∀ p ∈ news, p.1 < xd) → xd < x → vb.kind = kind → vb.text = text → vb.line = line → vb.col = col → vb.value = value → vb.first = false →
      Q (.ref x) { s with heap := h', toks := tk }) :
    wpAny (model PySem.Challenge.rw_og0002_01.row.prog w) A (call (.ref 79) [.str kind k1, .str text k2, .int line k3, .int col k4, value] []) Q E s := by
  obtain ⟨B, F, X, T, hfr, hloc, hkd, hha⟩ := C
  have _ : Mine.hd.heap_1 w.params = Mine.hd.heap_1 w.params ∧ PySem.Challenge.rw_og0002_01 = PySem.Challenge.rw_og0002_01 := by
    w_top off
    k_fill
    exact ⟨rfl, rfl⟩
  refine' call_cls F X N ?k4 ?k5 ?k6 ?_
  case k4 => k_is
  case k5 => k_is
  case k6 => k_is
  intro x' d' h' F' N' l1 l2
  have hl0 := l1
  k_lt2 l2
  refine' code_def (binds := [(Str.ofString "self", .ref x'), (Str.ofString "kind", .str kind k1), (Str.ofString "text", .str text k2), (Str.ofString "line", .int line k3), (Str.ofString "column", .int col k4), (Str.ofString "value", value), (Str.ofString "is_first", .bool false)]) B F' X N' T hfr hloc hkd ?k6 ?k7 ?k8 ?k9 ?kB ?_ ?c2 ?c3 ?c4 ?c5
  case k6 => k_is
  case k7 => k_is
  case k8 => k_room
  case k9 => first | exact BindsTo.of_eq rfl | exact binds_K (by k_in) rfl (by k_is) rfl rfl rfl
  case c5 => decide
  case kB => exact locs rfl
  case c2 => exact rfl
  case c3 => exact rfl
  case c4 => exact rfl
  clear F N F' N'
  intro g' L' h' FG' F' N' B' X' T'
  clear B X T
  (try k_fold)
  k_steps
  refine ⟨rfl, ?_⟩
  exact h _ _ _ _ ⟨_, _, _, _, _, _, _, _, _, _, _, _, kind, _, text, _, line, _, col, _, value, false⟩ (by assumption) (by assumption) hl0 l2 rfl rfl rfl rfl rfl rfl

set_option maxRecDepth 100000 in
set_option maxHeartbeats 4000000 in
theorem word_new6 {kind text : Str} {line col : Int} {value : Value} {first : Bool} {k1 k2 k3 k4 : Tok}
    (C : Cx w mean mg mb A A₀ base h₀ outer env L m s.heap) (hdep : A.depth < 900) (N : News h₀ L s.heap news)
    (h : ∀ h' tk x xd vb, Fr h₀ L h' m → News h₀ L h' ((x, instObj 79 xd) :: (xd, wordD vb) :: news) → (∀ p ∈ news, p.1 < xd) → xd < x → vb.kind = kind → vb.text = text → vb.line = line → vb.col = col → vb.value = value → vb.first = first →
      Q (.ref x) { s with heap := h', toks := tk }) :
    wpAny (model PySem.Challenge.rw_og0002_01.row.prog w) A (call (.ref 79) [.str kind k1, .str text k2, .int line k3, .int col k4, value, .bool first] []) Q E s := by
  obtain ⟨B, F, X, T, hfr, hloc, hkd, hha⟩ := C
  have _ : Mine.hd.heap_1 w.params = Mine.hd.heap_1 w.params ∧ PySem.Challenge.rw_og0002_01 = PySem.Challenge.rw_og0002_01 := by
    w_top off
    k_fill
    exact ⟨rfl, rfl⟩
  refine' call_cls F X N ?k4 ?k5 ?k6 ?_
  case k4 => k_is
  case k5 => k_is
  case k6 => k_is
  intro x' d' h' F' N' l1 l2
  have hl0 := l1
  k_lt2 l2
  refine' code_def (binds := [(Str.ofString "self", .ref x'), (Str.ofString "kind", .str kind k1), (Str.ofString "text", .str text k2), (Str.ofString "line", .int line k3), (Str.ofString "column", .int col k4), (Str.ofString "value", value), (Str.ofString "is_first", .bool first)]) B F' X N' T hfr hloc hkd ?k6 ?k7 ?k8 ?k9 ?kB ?_ ?c2 ?c3 ?c4 ?c5
  case k6 => k_is
  case k7 => k_is
  case k8 => k_room
  case k9 => first | exact BindsTo.of_eq rfl | exact binds_K (by k_in) rfl (by k_is) rfl rfl rfl
  case c5 => decide
  case kB => exact locs rfl
  case c2 => exact rfl
  case c3 => exact rfl
  case c4 => exact rfl
  clear F N F' N'
  intro g' L' h' FG' F' N' B' X' T'
  clear B X T
  (try k_fold)
  k_steps
  refine ⟨rfl, ?_⟩
  exact h _ _ _ _ ⟨_, _, _, _, _, _, _, _, _, _, _, _, kind, _, text, _, line, _, col, _, value, first⟩ (by assumption) (by assumption) hl0 l2 rfl rfl rfl rfl rfl rfl

end

end
local macro_rules | `(tactic| walk_at "call ref") => `(tactic| (k_here; (with_reducible show wpAny _ _ (call (Value.ref 154) _ _) _ _ _); k_dflt (refine' top_spec ?C ?hd ?hu ?N ?a ?b ?c ?i ?_; (case C => walk_at "my cx"); (case hd => walk_at "my dep"); (case hu => walk_at "my un"); (case N => k_asm); (case a | b | c => k_mem); (case i => l_ints); k_whole); intro h' tk' tq' F' N'; (try k_sweep)))
local macro_rules | `(tactic| walk_at "call ref") => `(tactic| (k_here; (with_reducible show wpAny _ _ (call (Value.ref 147) _ _) _ _ _); k_dflt (refine' column_spec ?C ?hd ?N ?a ?b ?_; (case C => walk_at "my cx"); (case hd => walk_at "my dep"); (case N => k_asm); (case a | b => k_mem); k_whole); intro h' tk' tq' F' N'; (try k_sweep)))
local macro_rules | `(tactic| walk_at "call ref") => `(tactic| (k_here; (with_reducible show wpAny _ _ (call (Value.ref 76) _ _) _ _ _); k_dflt (refine' isword_spec ?C ?hd ?N ?a ?b ?_; (case C => walk_at "my cx"); (case hd => walk_at "my dep"); (case N => k_asm); (case a | b => k_mem); k_whole); intro h' tk' F' N'; (try k_sweep)))
local macro_rules | `(tactic| walk_at "call ref") => `(tactic| (k_here; (with_reducible show wpAny _ _ (call (Value.ref 91) _ _) _ _ _); k_dflt (first
  | (refine' isvirt_no ?C ?hd ?N ?a ?b ?v ?_; (case C => walk_at "my cx"); (case hd => walk_at "my dep"); (case N => k_asm); (case a | b => k_mem); (case v => first | assumption | rfl); k_whole)
  | (refine' isvirt_yes ?C ?hd ?N ?a ?b ?v ?k ?_; (case C => walk_at "my cx"); (case hd => walk_at "my dep"); (case N => k_asm); (case a | b => k_mem); (case v => first | assumption | exact rfl); (case k => first | assumption | exact rfl); k_whole)); intro h' tk' F' N'; (try k_sweep)))
local macro_rules | `(tactic| walk_at "call ref") => `(tactic| (k_here; (with_reducible show wpAny _ _ (call (Value.ref 79) [_, _, _, _, _] _) _ _ _); k_dflt (refine' word_new5 ?C ?hd ?N ?_; (case C => walk_at "my cx"); (case hd => walk_at "my dep"); (case N => k_asm); k_whole); intro h' tk' x' xd' vb' F' N' hl' hx' v1' v2' v3' v4' v5' v6'; (have hl0 := hl'); (try k_lt hl'); (try k_lt2 hx'); (try k_sweep)))
local macro_rules | `(tactic| walk_at "call ref") => `(tactic| (k_here; (with_reducible show wpAny _ _ (call (Value.ref 79) [_, _, _, _, _, _] _) _ _ _); k_dflt (refine' word_new6 ?C ?hd ?N ?_; (case C => walk_at "my cx"); (case hd => walk_at "my dep"); (case N => k_asm); k_whole); intro h' tk' x' xd' vb' F' N' hl' hx' v1' v2' v3' v4' v5' v6'; (have hl0 := hl'); (try k_lt hl'); (try k_lt2 hx'); (try k_sweep)))

section
section
variable {w : World} {mean : ExcName → Option Value} {mg mb : Str → Option Value} {A A₀ : Around} {base h₀ : Heap} {outer : List Env} {env : Env} {L : Addr} {m : Str → Option Value} {s : Shared}
    {Q : Value → Shared → Prop} {E : Value → Shared → Prop}
variable {news : List (Addr × Obj)}

set_option maxRecDepth 100000 in
set_option maxHeartbeats 4000000 in
theorem virt_spec {a d : Addr} {b : WB} {text : Str} {k1 : Tok}
    (C : Cx w mean mg mb A A₀ base h₀ outer env L m s.heap) (hdep : A.depth < 890) (N : News h₀ L s.heap news)
    (hwa : (a, instObj 79 d) ∈ news) (hwd : (d, wordD b) ∈ news)
    (h : ∀ h' tk x xd vb tv, Fr h₀ L h' m → News h₀ L h' ((x, instObj 79 xd) :: (xd, wordD vb) :: news) → (∀ p ∈ news, p.1 < xd) → xd < x → vb.kind = Str.ofString "special" → vb.text = text → vb.value = .str (Str.ofString "virtual") tv →
      Q (.ref x) { s with heap := h', toks := tk }) :
    wpAny (model PySem.Challenge.rw_og0002_01.row.prog w) A (call (.ref 98) [.str text k1, .ref a] []) Q E s := by
  obtain ⟨B, F, X, T, hfr, hloc, hkd, hha⟩ := C
  have _ : Mine.hd.heap_1 w.params = Mine.hd.heap_1 w.params ∧ PySem.Challenge.rw_og0002_01 = PySem.Challenge.rw_og0002_01 := by
    w_top off
    k_fill
    exact ⟨rfl, rfl⟩
  refine wpAny_call ?_
  refine' code_def (binds := [(Str.ofString "text", .str text k1), (Str.ofString "word", .ref a)]) B F X N T hfr hloc hkd ?k6 ?k7 ?k8 ?k9 ?kB ?_ ?c2 ?c3 ?c4 ?c5
  case k6 => k_is
  case k7 => k_is
  case k8 => exact Nat.lt_of_lt_of_le hdep (by decide)
  case k9 => first | exact BindsTo.of_eq rfl | exact binds_K (by k_in) rfl (by k_is) rfl rfl rfl
  case c5 => decide
  case kB => exact locs rfl
  case c2 => exact rfl
  case c3 => exact rfl
  case c4 => exact rfl
  intro g' L' h' FG' F' N' B' X' T'
  clear B F X N T
  (try k_fold)
  k_steps
  exact h _ _ _ _ _ _ (by assumption) (by assumption) (by assumption) (by assumption) (by assumption) (by assumption) (by assumption)

set_option maxRecDepth 100000 in
set_option maxHeartbeats 4000000 in
theorem place_spec {a d : Addr} {b : WB}
    (C : Cx w mean mg mb A A₀ base h₀ outer env L m s.heap) (hdep : A.depth < 890) (N : News h₀ L s.heap news)
    (hwa : (a, instObj 79 d) ∈ news) (hwd : (d, wordD b) ∈ news)
    (h : ∀ h' tk x, Fr h₀ L h' m → News h₀ L h' news → Q (.ref x) { s with heap := h', toks := tk }) :
    wpAny (model PySem.Challenge.rw_og0002_01.row.prog w) A (call (.ref 69) [.ref a] []) Q E s := by
  obtain ⟨B, F, X, T, hfr, hloc, hkd, hha⟩ := C
  have _ : Mine.hd.heap_1 w.params = Mine.hd.heap_1 w.params ∧ PySem.Challenge.rw_og0002_01 = PySem.Challenge.rw_og0002_01 := by
    w_top off
    k_fill
    exact ⟨rfl, rfl⟩
  refine wpAny_call ?_
  refine' code_def (binds := [(Str.ofString "self", .ref a)]) B F X N T hfr hloc hkd ?k6 ?k7 ?k8 ?k9 ?kB ?_ ?c2 ?c3 ?c4 ?c5
  case k6 => k_is
  case k7 => k_is
  case k8 => exact Nat.lt_of_lt_of_le hdep (by decide)
  case k9 => first | exact BindsTo.of_eq rfl | exact binds_K (by k_in) rfl (by k_is) rfl rfl rfl
  case c5 => decide
  case kB => exact locs rfl
  case c2 => exact rfl
  case c3 => exact rfl
  case c4 => exact rfl
  intro g' L' h' FG' F' N' B' X' T'
  clear B F X N T
  (try k_fold)
  k_steps
  exact h _ _ _ (by assumption) (news_tail (by assumption))
end

end
local macro_rules | `(tactic| walk_at "call ref") => `(tactic| (k_here; (with_reducible show wpAny _ _ (call (Value.ref 98) _ _) _ _ _); k_dflt (refine' virt_spec ?C ?hd ?N ?a ?b ?_; (case C => walk_at "my cx"); (case hd => walk_at "my dep"); (case N => k_asm); (case a | b => k_mem); k_whole); intro h' tk' x' xd' vb' tv' F' N' hl' hx' v1' v2' v3'; (have hl0 := hl'); (try k_lt hl'); (try k_lt2 hx'); (try k_sweep)))
local macro_rules | `(tactic| walk_at "call ref") => `(tactic| (k_here; (with_reducible show wpAny _ _ (call (Value.ref 69) _ _) _ _ _); k_dflt (refine' place_spec ?C ?hd ?N ?a ?b ?_; (case C => walk_at "my cx"); (case hd => walk_at "my dep"); (case N => k_asm); (case a | b => k_mem); k_whole); intro h' tk' x' F' N'; (try k_sweep)))

section
section
variable {w : World} {mean : ExcName → Option Value} {mg mb : Str → Option Value} {A A₀ : Around} {base h₀ : Heap} {outer : List Env} {env : Env} {L : Addr} {m : Str → Option Value} {s : Shared}
    {Q : Value → Shared → Prop} {E : Value → Shared → Prop}
variable {W : List (Addr × Obj)} {la dx a d wl stk : Addr} {wb : WB} {ep : Nat} {vs : List Value} {ns : List Int} {k0 k1 k2 k3 k4 k5 k6 k7 : Int} {t0 t1 t2 t3 t4 t5 t6 t7 pt : Tok} {pos : Int} {shown : Value} {op em fo al : Bool}

set_option maxRecDepth 100000 in
set_option maxHeartbeats 4000000 in
theorem opened_spec (C : Cx w mean mg mb A A₀ base h₀ outer env L m s.heap) (hdep : A.depth < 880) (hun : A.units < 7900) (N : News h₀ L s.heap ((dx, dictOf [⟨k0, .str (Str.ofString "words") t0, .ref wl⟩, ⟨k1, .str (Str.ofString "at") t1, .int pos pt⟩, ⟨k2, .str (Str.ofString "stack") t2, .ref stk⟩, ⟨k3, .str (Str.ofString "shown") t3, shown⟩, ⟨k4, .str (Str.ofString "is_opening") t4, .bool op⟩, ⟨k5, .str (Str.ofString "is_empty") t5, .bool em⟩, ⟨k6, .str (Str.ofString "is_forced") t6, .bool fo⟩, ⟨k7, .str (Str.ofString "is_aligned") t7, .bool al⟩] 8) :: (stk, listOf vs.toArray ep) :: W))
    (hla : (la, instObj 185 dx) ∈ W) (hwa : (a, instObj 79 d) ∈ W) (hwd : (d, wordD wb) ∈ W) (hi : IntsAre vs ns) (hlen : vs.length ≤ 1000) (hne : @Ne Nat dx stk) (hdW : ∀ p ∈ W, p.1 ≠ dx) (hsW : ∀ p ∈ W, p.1 ≠ stk)
    (h1 : ns.getLastD 0 < (if wb.kind == Str.ofString "end" then 0 else wb.col) → ∀ h' tk x xd vb vs' ep', Fr h₀ L h' m → News h₀ L h' ((x, instObj 79 xd) :: (xd, wordD vb) :: (dx, dictOf [⟨k0, .str (Str.ofString "words") t0, .ref wl⟩, ⟨k1, .str (Str.ofString "at") t1, .int pos pt⟩, ⟨k2, .str (Str.ofString "stack") t2, .ref stk⟩, ⟨k3, .str (Str.ofString "shown") t3, shown⟩, ⟨k4, .str (Str.ofString "is_opening") t4, .bool false⟩, ⟨k5, .str (Str.ofString "is_empty") t5, .bool em⟩, ⟨k6, .str (Str.ofString "is_forced") t6, .bool fo⟩, ⟨k7, .str (Str.ofString "is_aligned") t7, .bool true⟩] 8) :: (stk, listOf vs'.toArray ep') :: W) → IntsAre vs' (ns ++ [wb.col]) →
      VWord W dx stk xd x vb (Str.ofString "{") → Q (.ref x) { s with heap := h', toks := tk })
    (h2 : ¬ ns.getLastD 0 < (if wb.kind == Str.ofString "end" then 0 else wb.col) → ∀ h' tk x xd vb vs' ep', Fr h₀ L h' m → News h₀ L h' ((x, instObj 79 xd) :: (xd, wordD vb) :: (dx, dictOf [⟨k0, .str (Str.ofString "words") t0, .ref wl⟩, ⟨k1, .str (Str.ofString "at") t1, .int pos pt⟩, ⟨k2, .str (Str.ofString "stack") t2, .ref stk⟩, ⟨k3, .str (Str.ofString "shown") t3, shown⟩, ⟨k4, .str (Str.ofString "is_opening") t4, .bool false⟩, ⟨k5, .str (Str.ofString "is_empty") t5, .bool true⟩, ⟨k6, .str (Str.ofString "is_forced") t6, .bool fo⟩, ⟨k7, .str (Str.ofString "is_aligned") t7, .bool al⟩] 8) :: (stk, listOf vs'.toArray ep') :: W) → IntsAre vs' ns →
      VWord W dx stk xd x vb (Str.ofString "{") → Q (.ref x) { s with heap := h', toks := tk }) :
    wpAny (model PySem.Challenge.rw_og0002_01.row.prog w) A (call (.ref 168) [.ref la, .ref a] []) Q E s := by
  obtain ⟨B, F, X, T, hfr, hloc, hkd, hha⟩ := C
  have _ : Mine.hd.heap_1 w.params = Mine.hd.heap_1 w.params ∧ PySem.Challenge.rw_og0002_01 = PySem.Challenge.rw_og0002_01 := by
    w_top off
    k_fill
    exact ⟨rfl, rfl⟩
  refine wpAny_call ?_
  refine' code_def (binds := [(Str.ofString "self", .ref la), (Str.ofString "word", .ref a)]) B F X N T hfr hloc hkd ?k6 ?k7 ?k8 ?k9 ?kB ?_ ?c2 ?c3 ?c4 ?c5
  case k6 => k_is
  case k7 => k_is
  case k8 => exact Nat.lt_of_lt_of_le hdep (by decide)
  case k9 => first | exact BindsTo.of_eq rfl | exact binds_K (by k_in) rfl (by k_is) rfl rfl rfl
  case c5 => decide
  case kB => exact locs rfl
  case c2 => exact rfl
  case c3 => exact rfl
  case c4 => exact rfl
  intro g' L' h' FG' F' N' B' X' T'
  clear B F X N T
  (try k_fold)
  k_steps
  · walk_at "my push"
    exact h1 (by assumption) _ _ _ _ _ _ _ (by assumption) (by assumption) (hi.append (IntsAre.cons _ _ IntsAre.nil)) (VWord.of (by assumption) (by assumption) (by assumption) (by assumption) (by assumption))
  · exact h2 (by assumption) _ _ _ _ _ _ _ (by assumption) (by assumption) hi (VWord.of (by assumption) (by assumption) (by assumption) (by assumption) (by assumption))

set_option maxRecDepth 100000 in
set_option maxHeartbeats 4000000 in
theorem aligned_spec (C : Cx w mean mg mb A A₀ base h₀ outer env L m s.heap) (hdep : A.depth < 880) (hun : A.units < 7900) (N : News h₀ L s.heap ((dx, dictOf [⟨k0, .str (Str.ofString "words") t0, .ref wl⟩, ⟨k1, .str (Str.ofString "at") t1, .int pos pt⟩, ⟨k2, .str (Str.ofString "stack") t2, .ref stk⟩, ⟨k3, .str (Str.ofString "shown") t3, shown⟩, ⟨k4, .str (Str.ofString "is_opening") t4, .bool op⟩, ⟨k5, .str (Str.ofString "is_empty") t5, .bool em⟩, ⟨k6, .str (Str.ofString "is_forced") t6, .bool fo⟩, ⟨k7, .str (Str.ofString "is_aligned") t7, .bool al⟩] 8) :: (stk, listOf vs.toArray ep) :: W))
    (hla : (la, instObj 185 dx) ∈ W) (hwa : (a, instObj 79 d) ∈ W) (hwd : (d, wordD wb) ∈ W) (hi : IntsAre vs ns) (hlen : vs.length ≤ 1000) (hne : @Ne Nat dx stk) (hdW : ∀ p ∈ W, p.1 ≠ dx) (hsW : ∀ p ∈ W, p.1 ≠ stk)
    (h1 : ns.getLastD 0 ≠ 0 → wb.col < ns.getLastD 0 → ∀ h' tk x xd vb vs' ep', Fr h₀ L h' m → News h₀ L h' ((x, instObj 79 xd) :: (xd, wordD vb) :: (dx, dictOf [⟨k0, .str (Str.ofString "words") t0, .ref wl⟩, ⟨k1, .str (Str.ofString "at") t1, .int pos pt⟩, ⟨k2, .str (Str.ofString "stack") t2, .ref stk⟩, ⟨k3, .str (Str.ofString "shown") t3, shown⟩, ⟨k4, .str (Str.ofString "is_opening") t4, .bool op⟩, ⟨k5, .str (Str.ofString "is_empty") t5, .bool em⟩, ⟨k6, .str (Str.ofString "is_forced") t6, .bool fo⟩, ⟨k7, .str (Str.ofString "is_aligned") t7, .bool al⟩] 8) :: (stk, listOf vs'.toArray ep') :: W) → IntsAre vs' ns.dropLast →
      VWord W dx stk xd x vb (Str.ofString "}") → Q (.ref x) { s with heap := h', toks := tk })
    (h2 : ¬ (ns.getLastD 0 ≠ 0 ∧ wb.col < ns.getLastD 0) → ns.getLastD 0 ≠ 0 → wb.col = ns.getLastD 0 → ∀ h' tk x xd vb vs' ep', Fr h₀ L h' m → News h₀ L h' ((x, instObj 79 xd) :: (xd, wordD vb) :: (dx, dictOf [⟨k0, .str (Str.ofString "words") t0, .ref wl⟩, ⟨k1, .str (Str.ofString "at") t1, .int pos pt⟩, ⟨k2, .str (Str.ofString "stack") t2, .ref stk⟩, ⟨k3, .str (Str.ofString "shown") t3, shown⟩, ⟨k4, .str (Str.ofString "is_opening") t4, .bool op⟩, ⟨k5, .str (Str.ofString "is_empty") t5, .bool em⟩, ⟨k6, .str (Str.ofString "is_forced") t6, .bool fo⟩, ⟨k7, .str (Str.ofString "is_aligned") t7, .bool true⟩] 8) :: (stk, listOf vs'.toArray ep') :: W) → IntsAre vs' ns →
      VWord W dx stk xd x vb (Str.ofString ";") → Q (.ref x) { s with heap := h', toks := tk })
    (h3 : ¬ (ns.getLastD 0 ≠ 0 ∧ wb.col < ns.getLastD 0) → ¬ (ns.getLastD 0 ≠ 0 ∧ wb.col = ns.getLastD 0) → ∀ h' tk, Fr h₀ L h' m → News h₀ L h' ((dx, dictOf [⟨k0, .str (Str.ofString "words") t0, .ref wl⟩, ⟨k1, .str (Str.ofString "at") t1, .int pos pt⟩, ⟨k2, .str (Str.ofString "stack") t2, .ref stk⟩, ⟨k3, .str (Str.ofString "shown") t3, shown⟩, ⟨k4, .str (Str.ofString "is_opening") t4, .bool op⟩, ⟨k5, .str (Str.ofString "is_empty") t5, .bool em⟩, ⟨k6, .str (Str.ofString "is_forced") t6, .bool fo⟩, ⟨k7, .str (Str.ofString "is_aligned") t7, .bool true⟩] 8) :: (stk, listOf vs.toArray ep) :: W) → Q (.ref a) { s with heap := h', toks := tk }) :
    wpAny (model PySem.Challenge.rw_og0002_01.row.prog w) A (call (.ref 182) [.ref la, .ref a] []) Q E s := by
  obtain ⟨B, F, X, T, hfr, hloc, hkd, hha⟩ := C
  have _ : Mine.hd.heap_1 w.params = Mine.hd.heap_1 w.params ∧ PySem.Challenge.rw_og0002_01 = PySem.Challenge.rw_og0002_01 := by
    w_top off
    k_fill
    exact ⟨rfl, rfl⟩
  refine wpAny_call ?_
  refine' code_def (binds := [(Str.ofString "self", .ref la), (Str.ofString "word", .ref a)]) B F X N T hfr hloc hkd ?k6 ?k7 ?k8 ?k9 ?kB ?_ ?c2 ?c3 ?c4 ?c5
  case k6 => k_is
  case k7 => k_is
  case k8 => exact Nat.lt_of_lt_of_le hdep (by decide)
  case k9 => first | exact BindsTo.of_eq rfl | exact binds_K (by k_in) rfl (by k_is) rfl rfl rfl
  case c5 => decide
  case kB => exact locs rfl
  case c2 => exact rfl
  case c3 => exact rfl
  case c4 => exact rfl
  intro g' L' h' FG' F' N' B' X' T'
  clear B F X N T
  (try k_fold)
  k_steps
  · exact h1 (by assumption) (by assumption) _ _ _ _ _ _ _ (by assumption) (by assumption) (by assumption) (VWord.of (by assumption) (by assumption) (by assumption) (by assumption) (by assumption))
  all_goals first
    | exact h2 (by omega) (by assumption) (by assumption) _ _ _ _ _ _ _ (by assumption) (by assumption) hi (VWord.of (by assumption) (by assumption) (by assumption) (by assumption) (by assumption))
    | exact h3 (by omega) (by omega) _ _ (by assumption) (by assumption)
    | (exfalso; omega)
end

end

section
section
variable {w : World} {mean : ExcName → Option Value} {mg mb : Str → Option Value} {A A₀ : Around} {base h₀ : Heap} {outer : List Env} {env : Env} {L : Addr} {m : Str → Option Value} {s : Shared}
    {Q : Value → Shared → Prop} {E : Value → Shared → Prop}
variable {news : List (Addr × Obj)}

theorem exc_meta : ((Manifest.find? "Exception").elim "type" fun x => x.metatype) = "type" := by kernel_rfl
theorem exc_stub : Manifest.isStub "Exception" = false := by decide +kernel
theorem exc_type {M : Model} {h : Heap} : Looks M h (typeOf (.type "Exception")) (.type "type") := Looks.of_pure (by
  show pure (Value.type ((Manifest.find? "Exception").elim "type" fun x => x.metatype)) = _
  rw [exc_meta])
theorem exc_find {K : Frag} : findCls K (.type "Exception") (.type "type") "__init__" = some (.val (.builtin "Exception.__init__")) := by kernel_rfl

set_option maxRecDepth 100000 in
theorem exc_getinit {K : Frag} {pl : Sem Bool} {Q : Value × List Value → Shared → Prop} (X : K.In s.heap) (h : Q (.builtin "Exception.__init__", []) { s with toks := s.toks + 1 }) :
    wpAny (model PySem.Challenge.rw_og0002_01.row.prog w) A (getMethod (.type "Exception") (Str.ofString "__init__") pl) Q E s := by
  unfold getMethod specialOf
  refine wpAny_bind (wpAny_bind (exc_type.here ((looks_findIn (K := K) X (name := Str.ofString "__getattribute__") (r := some (.builtin "type.__getattribute__")) (by kernel_rfl)).here ?_)))
  dsimp only
  rw [if_pos canon_tga]
  refine wpAny_bind (cls_open (K := K) (r := .val (.builtin "Exception.__init__")) (hook := none) X (Looks.of_pure ?_) exc_type (by kernel_rfl) (Looks.of_pure ?_) (by kernel_rfl) exc_find ?_)
  · simp only [opaqueClassAbove, exc_stub]
    rfl
  · rfl
  · refine wpAny_pure ?_
    show wpAny _ _ (handedOut _) _ _ _
    rw [handedOut_of (by decide +kernel)]
    exact wpAny_pure (wpAny_pure h)

/-- an exception of the text's, its args at t, no dict of its own yet -/
abbrev excO (t : Addr) : Obj := ⟨.ref 45, none, .fields #[.ref t, .none, .none, .none, .bool false, .none], #[]⟩
theorem exc_inst {h : Heap} {e : Addr} {o : Obj} (he : h.get? e = some o) (hc : o.cls = .ref 45) (hn : notCls o = true) (hd : o.dict = none) : InstAt h e o 45 none := ⟨he, hc, hn, by rw [hd]; trivial⟩

set_option maxRecDepth 100000 in
theorem exc_check {M : Model} {e : Addr} {o : Obj} {rest : List Value} {Q : Unit → Shared → Prop} {cd : ClassData} (he : s.heap.get? e = some o) (hc : o.cls = .ref 45) (hcd : Looks M s.heap (classData 45) cd) (hI : Looks M s.heap (isInstance (.ref e) (.type "Exception")) true) (hq : Q () s) :
    wpAny M A (checkBuiltinCall "Exception.__init__" ⟨.ref e :: rest, []⟩) Q E s := by
  have hshort := PySem.F.excCall_Exception.noStar
  simp only [checkBuiltinCall, PySem.F.excCall_Exception.initKind, PySem.F.excCall_Exception.initSplit, PySem.F.excCall_Exception.initRow]
  refine wpAny_bind (hI.here ?_)
  simp only [Bool.not_true, Bool.false_eq_true, if_false]
  obtain ⟨h, g, d, tk, os⟩ := s
  repeat (first | with_reducible refine wpAny_loadPart_at he ?_ | wp_step)
  rw [hc]
  dsimp only
  refine wpAny_bind (hcd.here ?_)
  repeat (first | with_reducible refine wpAny_loadPart_at he ?_ | wp_step)
  refine wpAny_onRaise ?_
  rw [List.map_nil, check_star_args]
  exact wpAny_pure hq

set_option maxRecDepth 100000 in
theorem exc_super {e t : Addr} {msg : Str} {k1 : Tok} (hF : Fr h₀ L s.heap m) (X : (Mine.hd.heap_1 w.params).In h₀) (N : News h₀ L s.heap ((e, excO t) :: news)) (hnw : ∀ p ∈ news, p.1 ≠ e) (hm : mroIn (Mine.hd.heap_1 w.params) 45 (.type "Exception") = some true) {cd : ClassData} (hcd : clsIn (Mine.hd.heap_1 w.params) 45 = some cd)
    (h : ∀ h' t', Fr h₀ L h' m → News h₀ L h' ((e, excO t') :: news) → Q .none { s with heap := h' }) :
    wpAny (model PySem.Challenge.rw_og0002_01.row.prog w) A (call (.builtin "Exception.__init__") [.ref e, .str msg k1] []) Q E s := by
  have he : s.heap.get? e = some (excO t) := (N _ (.head _)).1
  have XX := X.keeps hF.keep
  have I := exc_inst he rfl rfl rfl
  refine wpAny_call (codeAny_call_builtin PySem.F.excCall_Exception.init.plain PySem.F.excCall_Exception.initEntry (exc_check he rfl (looks_clsIn XX hcd) (I.type.andThen (looks_mroIn XX hm)) ?_))
  obtain ⟨hp, g, d, tk, os⟩ := s
  unfold Builtin.«BaseException.__init__»
  repeat wp_step
  have hlt : e < hp.objs.size := Heap.lt_size he
  have z := news_upd (pre := [(hp.objs.size, { cls := .type "tuple", data := .seq #[Value.str msg k1] })]) (f := Obj.mapFields fun x => x.setIfInBounds 0 (Value.ref hp.objs.size)) (o' := excO hp.objs.size) (hF.push _) (N.push hF _)
    (fun p hp' => by rw [List.mem_singleton.mp hp']; exact Nat.ne_of_gt hlt) hnw rfl rfl
  exact h _ _ z.1 (news_tail z.2)

set_option maxRecDepth 100000 in
set_option maxHeartbeats 4000000 in
theorem exc_store {cd : ClassData} {e : Addr} {name : Str} {v : Value} {ns : List Str} {mA : Str → Option Value} {hp : Heap} {g : Array GenState} {d : Drawn} {tk : Nat} {os : OsState} {Q : Unit → Shared → Prop}
    (X : (Mine.hd.heap_1 w.params).In hp) (hcd : clsIn (Mine.hd.heap_1 w.params) 45 = some cd) (hmro : cd.mro = [.ref 45, .ref 32, .type "Exception", .type "BaseException", .type "object"]) (hdc : cd.hasDict = true)
    (hsa : findIn (Mine.hd.heap_1 w.params) (.ref 45) "__setattr__" = some (some (.builtin "object.__setattr__"))) (hna : findIn (Mine.hd.heap_1 w.params) (.ref 45) name = some none)
    (I : hp.Inst e 45 mA) (hw : Within mA ns) (hsz : ns.length ≤ 100)
    (hq : ∀ h' tk', h'.Inst e 45 (fun y => if y = name then some v else mA y) →
      (∀ b o, b ≠ e → (∀ o₀ dx, hp.get? e = some o₀ → o₀.dict = some dx → b ≠ dx) → hp.get? b = some o → h'.get? b = some o) →
      (∀ o₀, hp.get? e = some o₀ → ∃ o₁ dx, h'.get? e = some o₁ ∧ o₁.cls = o₀.cls ∧ o₁.data = o₀.data ∧ o₁.dict = some dx ∧ (o₀.dict = some dx ∨ hp.objs.size ≤ dx)) → Q () ⟨h', g, d, tk', os⟩) :
    wpAny (model PySem.Challenge.rw_og0002_01.row.prog w) A (setAttr (.ref e) name v) Q E ⟨hp, g, d, tk, os⟩ := by
  have SF := PySem.F.store_object
  obtain ⟨o, hx, hc, hnc, hd⟩ := I
  have LT : Looks (model PySem.Challenge.rw_og0002_01.row.prog w) hp (typeOf (.ref e)) (.ref 45) := by
    have z := Looks.ld (M := model PySem.Challenge.rw_og0002_01.row.prog w) (h := hp) (part := some headPart) hx
    exact z.andThen (by rw [hc]; exact .now)
  have LM : Looks (model PySem.Challenge.rw_og0002_01.row.prog w) hp (mroOf (.ref 45)) cd.mro := (looks_clsIn X hcd).andThen .now
  have LO : Looks (model PySem.Challenge.rw_og0002_01.row.prog w) hp (isInstance (.ref e) (.type "object")) true := LT.andThen (looks_mroIn X (by unfold mroIn; rw [hcd, Option.bind_some, hmro]; rfl))
  have II : ∃ od, InstAt hp e o 45 od := by
    rcases hd with ⟨hdn, _⟩ | ⟨dx, hdx, _, hns⟩
    · exact ⟨none, hx, hc, by unfold notCls; split <;> simp_all, by rw [hdn]; trivial⟩
    · obtain ⟨od, _, _, hod, _⟩ := hns
      exact ⟨some od, hx, hc, by unfold notCls; split <;> simp_all, by rw [hdx]; exact hod⟩
  obtain ⟨od, I⟩ := II
  refine set_plain (s := ⟨hp, g, d, tk, os⟩) X I hsa ?_
  refine codeAny_call_builtin SF.slot.plain SF.entry (@check_slot (model PySem.Challenge.rw_og0002_01.row.prog w) _ _ ⟨hp, g, d, tk + 1, os⟩ "object.__setattr__" "object" "__setattr__" (.ref e) [.str name tk, v] [] _ SF.kind SF.split LO (SF.args (.ref e) (.str name tk) v) ?_)
  rw [osa_eq, refuse_eq]
  refine wpAny_bind (wpAny_bind (LT.here (wpAny_bind (LM.here ?_))))
  rw [hmro, refuseLoop_ref, refuseLoop_ref, PySem.F.store_Exception.passes]
  refine wpAny_pure (wpAny_bind (LT.here (wpAny_bind ((looks_findIn X hna).here (wpAny_bind (wpAny_pure ?_))))))
  dsimp only
  refine wpAny_bind (wpAny_pure (wpAny_bind (wpAny_bind (wpAny_loadPart hx ?_))))
  rw [hc]
  dsimp only
  refine wpAny_bind ((looks_clsIn X hcd).here ?_)
  rw [hdc, if_neg (by decide)]
  rcases hd with ⟨hdn, hmA⟩ | ⟨dx, hdx, hne, hns⟩
  · rw [hdn]
    dsimp only
    rw [if_neg (by simp [typeHasDict])]
    have hx₁ : (hp.push { cls := .type "dict", data := .dict #[] }).get? e = some o := Heap.get?_push_of_some _ hx
    have hes : e ≠ hp.objs.size := Nat.ne_of_lt (Heap.lt_size hx)
    split
    · rename_i c hcd'
      exact absurd hcd' (hnc c)
    · refine wpAny_bind (wpAny_alloc' ?_)
      refine wpAny_bind (wpAny_update' hx₁ ?_)
      refine wpAny_pure ?_
      have hgd : ((hp.push { cls := .type "dict", data := .dict #[] }).update e fun o => { cls := o.cls, dict := some hp.objs.size, data := o.data, slots := o.slots }).get? hp.objs.size = some { cls := .type "dict", data := .dict #[] } :=
        (Heap.get?_update_ne _ _ _ _ hes.symm).trans (Heap.get?_push_at rfl rfl)
      have hnd : ((hp.push { cls := .type "dict", data := .dict #[] }).update e fun o => { cls := o.cls, dict := some hp.objs.size, data := o.data, slots := o.slots }).Ns hp.objs.size (fun _ => none) :=
        ⟨_, #[], _, hgd, rfl, fun _ q => absurd q (by simp), fun _ => rfl⟩
      have hge : ((hp.push { cls := .type "dict", data := .dict #[] }).update e fun o => { cls := o.cls, dict := some hp.objs.size, data := o.data, slots := o.slots }).get? e = some { cls := o.cls, dict := some hp.objs.size, data := o.data, slots := o.slots } :=
        Heap.get?_update_self _ hx₁ (by have hfr := (Heap.get?_some_iff.mp hx).2; obtain ⟨oc, oo, odt, osl⟩ := o; cases odt <;> first | rfl | exact hfr)
      dsimp only
      show wpAny _ _ (Builtin.ObjectAttr.storeInDict hp.objs.size (.str name tk) name v) _ _ _
      unfold Builtin.ObjectAttr.storeInDict Builtin.ObjectAttr.newKeyGuard
      refine wpAny_bind (wpAny_pure (wpAny_bind (wpAny_nsSet1 (Heap.Ns1.of_empty hnd) fun h' hn' hs => ?_)))
      obtain ⟨oD, esD, epD, hoD, hdD, hcD⟩ := hn'.count (Within.cons name v Within.nil)
      refine wpAny_bind (wpAny_lookBehind hoD (by rw [hdD]; exact pastItsLine_dict (Nat.le_trans hcD (by rw [List.length_cons, List.length_nil, sizeLine_eq]; omega))) ?_)
      refine wpAny_pure ?_
      have hx' := (hs.2 e hes).trans hge
      refine hq h' _ ⟨_, hx', hc, hnc, .inr ⟨hp.objs.size, rfl, hes.symm, ?_⟩⟩ (fun b ob hb _ hob => ?_) (fun o₀ h₀ => ⟨_, hp.objs.size, hx', ?_, ?_, rfl, .inr (Nat.le_refl _)⟩)
      · have : (fun y => if y = name then some v else mA y) = fun y => if y = name then some v else (none : Option Value) := by funext y; rw [hmA y]
        rw [this]
        exact hn'
      · exact (hs.2 b (Nat.ne_of_lt (Heap.lt_size hob))).trans ((Heap.get?_update_ne _ _ _ _ hb).trans (Heap.get?_push_of_some _ hob))
      · rw [← Option.some.inj (hx.symm.trans h₀)]
      · rw [← Option.some.inj (hx.symm.trans h₀)]
  · rw [hdx]
    refine wpAny_pure ?_
    dsimp only
    show wpAny _ _ (Builtin.ObjectAttr.storeInDict dx (.str name tk) name v) _ _ _
    unfold Builtin.ObjectAttr.storeInDict Builtin.ObjectAttr.newKeyGuard
    refine wpAny_bind (wpAny_pure (wpAny_bind (wpAny_nsSet1 hns fun h' hn' hs => ?_)))
    obtain ⟨oD, esD, epD, hoD, hdD, hcD⟩ := hn'.count (Within.cons name v hw)
    refine wpAny_bind (wpAny_lookBehind hoD (by rw [hdD]; exact pastItsLine_dict (Nat.le_trans hcD (by rw [List.length_cons, sizeLine_eq]; omega))) ?_)
    refine wpAny_pure ?_
    refine hq h' _ ⟨o, (hs.2 e hne.symm).trans hx, hc, hnc, .inr ⟨dx, hdx, hne, hn'⟩⟩ (fun b ob _ hbd hob => (hs.2 b (hbd o dx hx hdx)).trans hob)
      (fun o₀ h₀ => ⟨o₀, dx, (hs.2 e hne.symm).trans h₀, rfl, rfl, ?_, .inl ?_⟩)
    · rw [← Option.some.inj (hx.symm.trans h₀)]
      exact hdx
    · rw [← Option.some.inj (hx.symm.trans h₀)]
      exact hdx

/-- an exception of the text's on the ledger, its attributes mA, its fields vs -/
structure ExcS (h₀ : Heap) (L : Addr) (h : Heap) (e : Addr) (o : Obj) (news : List (Addr × Obj)) (mA : Str → Option Value) (vs : Array Value) : Prop where
  N : News h₀ L h ((e, o) :: news)
  ne : ∀ p ∈ news, p.1 ≠ e
  cls : o.cls = .ref 45
  data : o.data = .fields vs
  I : h.Inst e 45 mA
  apart : ∀ dx, o.dict = some dx → dx ≠ L ∧ h₀.get? dx = none ∧ ∀ p ∈ news, p.1 ≠ dx

theorem ExcS.of {h : Heap} {e t : Addr} (N : News h₀ L h ((e, excO t) :: news)) (hne : ∀ p ∈ news, p.1 ≠ e) : ExcS h₀ L h e (excO t) news (fun _ => none) #[.ref t, .none, .none, .none, .bool false, .none] :=
  ⟨N, hne, rfl, rfl, ⟨_, (N _ (.head _)).1, rfl, (fun _ q => nomatch q), .inl ⟨rfl, fun _ => rfl⟩⟩, fun _ q => nomatch q⟩

set_option maxRecDepth 100000 in
set_option maxHeartbeats 4000000 in
theorem exc_set {cd : ClassData} {e : Addr} {o : Obj} {name : Str} {v : Value} {ns : List Str} {mA : Str → Option Value} {fs : Array Value} {Q : Unit → Shared → Prop}
    (hF : Fr h₀ L s.heap m) (X : (Mine.hd.heap_1 w.params).In h₀) (S : ExcS h₀ L s.heap e o news mA fs) (hcd : clsIn (Mine.hd.heap_1 w.params) 45 = some cd) (hmro : cd.mro = [.ref 45, .ref 32, .type "Exception", .type "BaseException", .type "object"]) (hdc : cd.hasDict = true)
    (hsa : findIn (Mine.hd.heap_1 w.params) (.ref 45) "__setattr__" = some (some (.builtin "object.__setattr__"))) (hna : findIn (Mine.hd.heap_1 w.params) (.ref 45) name = some none)
    (hw : Within mA ns) (hsz : ns.length ≤ 100)
    (h : ∀ h' tk' o', Fr h₀ L h' m → News h₀ L h' ((e, o') :: news) → ExcS h₀ L h' e o' news (fun y => if y = name then some v else mA y) fs → Q () { s with heap := h', toks := tk' }) :
    wpAny (model PySem.Challenge.rw_og0002_01.row.prog w) A (setAttr (.ref e) name v) Q E s := by
  obtain ⟨hp, g, d, tk, os⟩ := s
  have hLlt := hF.ns.lt
  refine exc_store (X.keeps hF.keep) hcd hmro hdc hsa hna S.I hw hsz fun h' tk' I' hk hs => ?_
  have he := (S.N _ (.head _)).1
  have hk' : ∀ b ob, b ≠ e → (∀ dx, o.dict = some dx → b ≠ dx) → hp.get? b = some ob → h'.get? b = some ob := fun b ob h1 h2 h3 => hk b ob h1 (fun o₀ dx q1 q2 => by rw [he] at q1; cases q1; exact h2 dx q2) h3
  obtain ⟨o₁, dx, h1, h2, h3, h4, h5⟩ := hs o he
  have hF' : Fr h₀ L h' m := by
    obtain ⟨oL, es, ep, hL, r⟩ := hF.ns
    refine ⟨⟨oL, es, ep, hk' L oL (Ne.symm (S.N _ (.head _)).2.1) (fun dx q => Ne.symm (S.apart dx q).1) hL, r⟩, fun b ob hb => ?_, hF.above⟩
    refine hk' b ob (fun q => ?_) (fun dx q q' => ?_) (hF.keep b ob hb)
    · have := (S.N _ (.head _)).2.2; rw [← q, hb] at this; cases this
    · have := (S.apart dx q).2.1; rw [← q', hb] at this; cases this
  have hN' : News h₀ L h' ((e, o₁) :: news) := fun p hp' => by
    rcases List.mem_cons.mp hp' with rfl | hp'
    · exact ⟨h1, (S.N _ (.head _)).2⟩
    · have := S.N p (.tail _ hp')
      exact ⟨hk' p.1 p.2 (S.ne p hp') (fun dx q => (S.apart dx q).2.2 p hp') this.1, this.2⟩
  refine h h' tk' o₁ hF' hN' ⟨hN', S.ne, h2.trans S.cls, h3.trans S.data, I', fun dx' q => ?_⟩
  rw [h4] at q
  cases q
  rcases h5 with h5 | h5
  · exact S.apart dx h5
  · refine ⟨fun q => ?_, ?_, fun p hp' q => ?_⟩
    · rw [q] at h5; exact absurd hLlt (Nat.not_lt.mpr h5)
    · cases q : h₀.get? dx with
      | none => rfl
      | some ob => exact absurd (Heap.lt_size (hF.keep _ _ q)) (Nat.not_lt.mpr h5)
    · have := Heap.lt_size (S.N p (.tail _ hp')).1
      rw [q] at this
      exact absurd this (Nat.not_lt.mpr h5)

local macro_rules | `(tactic| walk_at "getMethod") => `(tactic| (k_here; (with_reducible show wpAny _ _ (getMethod (Value.type "Exception") _ _) _ _ _); k_dflt (refine' exc_getinit ?X ?_; (case X => k_in))))
local macro_rules | `(tactic| walk_at "call builtin:Exception.__init__") => `(tactic| (k_here; k_dflt (refine' exc_super ?F ?X ?N ?n ?m ?c ?_; (case F | X | N => k_asm); (case n => assumption); (case m | c => k_is); k_whole); intro h' t' F' N'; (have XS := ExcS.of N' (by assumption)); (try k_sweep)))
local macro_rules | `(tactic| walk_at "setAttr ref") => `(tactic| (k_here; (rename ExcS _ _ _ _ _ _ _ _ => XS'); k_dflt (refine' exc_set ?F ?X XS' ?c ?mr ?hd ?sa ?na ?w ?z ?_; (case F | X => k_asm); (case c => k_is); (case mr | hd => rfl); (case sa | na => k_is); (case w => first | exact Within.nil | exact Within.cons _ _ Within.nil); (case z => decide); k_whole); clear XS'; intro h' tk' o' F' N' XS'; (try k_sweep)))

set_option maxRecDepth 100000 in
set_option maxHeartbeats 4000000 in
theorem exc_init {e t : Addr} {msg : Str} {k1 : Tok} {v2 : Value}
    (C : Cx w mean mg mb A A₀ base h₀ outer env L m s.heap) (hdep : A.depth < 880)
    (N : News h₀ L s.heap ((e, excO t) :: news)) (hnw : ∀ p ∈ news, p.1 ≠ e)
    (h : ∀ h' tk o t', Fr h₀ L h' m → News h₀ L h' ((e, o) :: news) → o.cls = .ref 45 → o.data = .fields #[.ref t', .none, .none, .none, .bool false, .none] → Q .none { s with heap := h', toks := tk }) :
    wpAny (model PySem.Challenge.rw_og0002_01.row.prog w) A (call (.ref 29) [.ref e, .str msg k1, v2] []) Q E s := by
  obtain ⟨B, F, X, T, hfr, hloc, hkd, hha⟩ := C
  have _ : Mine.hd.heap_1 w.params = Mine.hd.heap_1 w.params ∧ PySem.Challenge.rw_og0002_01 = PySem.Challenge.rw_og0002_01 := by
    w_top off
    k_fill
    exact ⟨rfl, rfl⟩
  refine wpAny_call ?_
  refine' code_def (binds := [(Str.ofString "self", .ref e), (Str.ofString "message", .str msg k1), (Str.ofString "place", v2)]) B F X N T hfr hloc hkd ?k6 ?k7 ?k8 ?k9 ?kB ?_ ?c2 ?c3 ?c4 ?c5
  case k6 => k_is
  case k7 => k_is
  case k8 => exact Nat.lt_of_lt_of_le hdep (by decide)
  case k9 => first | exact BindsTo.of_eq rfl | exact binds_K (by k_in) rfl (by k_is) rfl rfl rfl
  case c5 => decide
  case kB => exact locs rfl
  case c2 => exact rfl
  case c3 => exact rfl
  case c4 => exact rfl
  intro g' L' h' FG' F' N' B' X' T'
  clear B F X N T
  (try k_fold)
  k_steps
  rename ExcS _ _ _ _ _ _ _ _ => XS'
  exact h _ _ _ _ (by assumption) (by assumption) XS'.cls XS'.data

abbrev layErrObj : Obj := excClassObj (Str.ofString "LayoutError") (Str.ofString "LayoutError") 45 44 [.ref 32] [.ref 32, .type "Exception", .type "BaseException", .type "object"] true [] [] false none none (some (.ref 36)) none
  (some (.str (Str.ofString "LayoutError") 220)) (some (.str (Str.ofString "LayoutError") 228)) (some (.bool true)) "Exception.__new__"

theorem lay_has : (Value.ref 45 :: [Value.ref 32, .type "Exception", .type "BaseException", .type "object"]).contains (.type "Exception") = true := by decide +kernel
theorem lay_noAttr : (Value.ref 45 :: [Value.ref 32, .type "Exception", .type "BaseException", .type "object"]).contains (.type "AttributeError") = false := by decide +kernel
theorem lay_noName : (Value.ref 45 :: [Value.ref 32, .type "Exception", .type "BaseException", .type "object"]).contains (.type "NameError") = false := by decide +kernel

set_option maxRecDepth 100000 in
theorem lay_checknew {M : Model} {h : Heap} {g : Array GenState} {d : Drawn} {t : Nat} {os : OsState} {rest : List Value} {Q : Unit → Shared → Prop} (hC : h.get? 45 = some layErrObj) (hq : Q () ⟨h, g, d, t, os⟩) :
    wpAny M A (checkBuiltinCall "Exception.__new__" ⟨.ref 45 :: rest, []⟩) Q E ⟨h, g, d, t, os⟩ := by
  have hcont := lay_has
  have FB := PySem.F.excBase_Exception
  have hstar := FB.noStar
  simp only [checkBuiltinCall, FB.newKind, FB.newSplit, FB.newRow]
  repeat (first | refine wpAny_loadPart_at hC ?_ | (refine wpAny_isSubtype_exc hC ?_; rw [hcont]) | refine wpAny_staticBase_exc hC ?_ | refine wpAny_madeBy_exc hC ?_ | simp only [bne_self_eq_false, Bool.false_eq_true, if_false] | wp_step)
  exact hq

set_option maxRecDepth 100000 in
theorem lay_new {h : Heap} {g : Array GenState} {d : Drawn} {t : Nat} {os : OsState} {R : Result → Shared → Prop} {rest : List Value} (hC : h.get? 45 = some layErrObj)
    (hq : R (.ok (.ret (.ref (h.objs.size + 1)))) ⟨(h.push { cls := .type "tuple", data := .seq rest.toArray }).push (excO h.objs.size), g, d, t, os⟩) (hrest : rest.length ≤ sizeLine) :
    codeAny (model PySem.Challenge.rw_og0002_01.row.prog w) A (.builtin "Exception.__new__" ⟨.ref 45 :: rest, []⟩) R ⟨h, g, d, t, os⟩ := by
  have FB := PySem.F.excBase_Exception
  have hends := FB.ends
  have hcB := lay_has
  have hcA := lay_noAttr
  have hcN := lay_noName
  refine codeAny_builtinAt FB.entry ?_
  unfold Builtin.«BaseException.__new__»
  refine PySem.wpAt_bind ?_
  show PySem.wpAt _ _ _ (stack >>= _) _ _ _
  refine PySem.wpAt_bind (PySem.wpAt_stack fun p below => PySem.wpAt_of_wpAny ?_)
  wp_walk
  refine PySem.wpAt_of_wpAny ?_
  rw [FB.owner]
  repeat (first | with_reducible refine wpAny_madeHere_exc FB.canon hC ?_ | with_reducible refine wpAny_loadPart_at hC ?_ | (with_reducible refine wpAny_isSubtype_exc hC ?_; first | rw [hcB] | rw [hcA] | rw [hcN]) | wp_step)
  show R _ _
  rw [Heap.size_push]
  exact hq

set_option maxRecDepth 100000 in
set_option maxHeartbeats 4000000 in
theorem exc_new {msg : Str} {k1 : Tok} {v2 : Value}
    (C : Cx w mean mg mb A A₀ base h₀ outer env L m s.heap) (hdep : A.depth < 870) (N : News h₀ L s.heap news)
    (h : ∀ h' tk e o t', Fr h₀ L h' m → News h₀ L h' ((e, o) :: news) → (∀ p ∈ news, p.1 ≠ e) → o.cls = .ref 45 → o.data = .fields #[.ref t', .none, .none, .none, .bool false, .none] → Q (.ref e) { s with heap := h', toks := tk }) :
    wpAny (model PySem.Challenge.rw_og0002_01.row.prog w) A (call (.ref 45) [.str msg k1, v2] []) Q E s := by
  have _ : Mine.hd.heap_1 w.params = Mine.hd.heap_1 w.params ∧ PySem.Challenge.rw_og0002_01 = PySem.Challenge.rw_og0002_01 := by
    w_top off
    k_fill
    exact ⟨rfl, rfl⟩
  have X := C.X.keeps C.F.keep
  have hC : s.heap.get? 45 = some layErrObj := X 45 _ (by kernel_rfl)
  obtain ⟨hp, g, d, tk, os⟩ := s
  have f1 := tc_lookup
  have f2 := tc_bind (.ref 45)
  have hT : (⟨hp, g, d, tk, os⟩ : Shared).TypeIs (.ref 45) "type" := ⟨_, hC, rfl⟩
  refine wpAny_call (codeAny_of_tree ?_)
  show wpAny _ _ (callAny (.ref 45) _) _ _ _
  repeat (any_goals (first | assumption | with_reducible refine wpAny_loadPart_at hC ?_ | wp_step))
  refine ⟨rfl, ?_⟩
  refine codeAny_call_builtin_at (Code.quiet_builtin _ (by decide +kernel)) entry_typeCall (wpAny_check_type_call_sub hC ?_)
  show wpAny _ _ (Builtin.«type.__call__» ⟨[.ref 45, .str msg k1, v2], []⟩) _ _ _
  repeat (first | with_reducible refine wpAny_loadPart_at hC ?_ | with_reducible refine wpAny_madeBy_exc hC ?_ | wp_step)
  refine codeAny_call_builtin_code (Code.quiet_builtin _ PySem.F.excBase_Exception.quiet) (lay_checknew hC ?_)
  refine lay_new hC ?_ (by show 2 ≤ sizeLine; rw [sizeLine_eq]; decide)
  dsimp only
  have F₁ : Fr h₀ L ((hp.push { cls := .type "tuple", data := .seq [.str msg k1, v2].toArray }).push (excO hp.objs.size)) m := (C.F.push _).push _
  have N₁ := (News.push C.F N { cls := .type "tuple", data := .seq [.str msg k1, v2].toArray }).push (C.F.push _) (excO hp.objs.size)
  rw [Heap.size_push] at N₁
  have X₁ := C.X.keeps F₁.keep
  have I : InstAt ((hp.push { cls := .type "tuple", data := .seq [.str msg k1, v2].toArray }).push (excO hp.objs.size)) (hp.objs.size + 1) (excO hp.objs.size) 45 none := exc_inst (N₁ _ (.head _)).1 rfl rfl rfl
  have hm45 : mroIn (Mine.hd.heap_1 w.params) 45 (.ref 45) = some true := by k_is
  have LI : Looks (model PySem.Challenge.rw_og0002_01.row.prog w) ((hp.push { cls := .type "tuple", data := .seq [.str msg k1, v2].toArray }).push (excO hp.objs.size)) (isInstance (.ref (hp.objs.size + 1)) (.ref 45)) true := I.type.andThen (looks_mroIn X₁ hm45)
  refine wpAny_bind (LI.here ?_)
  simp only [Bool.not_true, Bool.false_eq_true, if_false]
  refine wpAny_bind (wpAny_holding (special_fn (f := 29) X₁ I ?_ ?_ ?_))
  · k_is
  · k_is
  refine exc_init (news := (hp.objs.size, { cls := .type "tuple", data := .seq [.str msg k1, v2].toArray }) :: news) ⟨C.B, F₁, C.X, C.T, C.fr, C.loc, C.kd, C.hd⟩ ?_ N₁ ?_ ?_
  · show (A.under (Code.builtin "type.__call__" ⟨.ref 45 :: [.str msg k1, v2], []⟩)).depth < 880
    rw [depth_under_make]
    omega
  · intro p hp'
    rcases List.mem_cons.mp hp' with rfl | hp'
    · exact Nat.ne_of_lt (Nat.lt_succ_self _)
    · exact Nat.ne_of_lt (Nat.lt_succ_of_lt (Heap.lt_size (N p hp').1))
  intro h' tk' o t' F' N' hc hd
  dsimp only
  refine wpAny_pure ?_
  exact h h' tk' _ o t' F' (fun p hp' => N' p ((List.mem_cons.mp hp').elim (fun q => q ▸ .head _) fun q => .tail _ (.tail _ q))) (fun p hp' => Nat.ne_of_lt (Nat.lt_succ_of_lt (Heap.lt_size (N p hp').1))) hc hd
end

end

section
section
variable {w : World} {mean : ExcName → Option Value} {mg mb : Str → Option Value} {A A₀ : Around} {base h₀ : Heap} {outer : List Env} {env : Env} {L : Addr} {m : Str → Option Value} {s : Shared}
    {Q : Value → Shared → Prop} {E : Value → Shared → Prop}
variable {news : List (Addr × Obj)}

def RaiseBack (w : World) (E : Value → Shared → Prop) (v : Value) (s₁ : Shared) : Prop :=
  ∃ e o t, v = .ref e ∧ (Mine.hd.heap_1 w.params).In s₁.heap ∧ s₁.heap.get? e = some o ∧ o.cls = .ref 45 ∧ o.data = .fields #[.ref t, .none, .none, .none, .bool false, .none] ∧ E (.ref e) s₁

set_option maxRecDepth 100000 in
set_option maxHeartbeats 4000000 in
theorem exc_raise {x : PySem.Expr} {pos : Pos} {Q : Flow → Shared → Prop} (hh : A.handled = none) (h1 : typeIn (Mine.hd.heap_1 w.params) (.ref 45) = some (.type "type")) (h2 : mroIn (Mine.hd.heap_1 w.params) 45 (.type "BaseException") = some true)
    (h : wpAny (model PySem.Challenge.rw_og0002_01.row.prog w) A (eval x env) (RaiseBack w E) E s) :
    wpAny (model PySem.Challenge.rw_og0002_01.row.prog w) A (exec (.Raise (some x) none pos) env) Q E s := by
  rw [arm_exec_Raise]
  simp only [evalOpt, Option.map]
  refine wpAny_bind (wpAny_standAt ?_)
  unfold raiseStmt
  refine wpAny_bind (wpAny_bind (wpAny_mono h (fun v s₁ hb => ?_) fun _ _ q => q))
  obtain ⟨e, o, t, rfl, X, he, hc, hd, hE⟩ := hb
  obtain ⟨hp, g, d, tk, os⟩ := s₁
  have LT : Looks (model PySem.Challenge.rw_og0002_01.row.prog w) hp (typeOf (.ref e)) (.ref 45) := (Looks.ld (M := model PySem.Challenge.rw_og0002_01.row.prog w) (h := hp) (part := some headPart) he).andThen (by rw [hc]; exact .now)
  have LY : Looks (model PySem.Challenge.rw_og0002_01.row.prog w) hp (typeOf (.ref 45)) (.type "type") := looks_typeIn X h1
  have LI : Looks (model PySem.Challenge.rw_og0002_01.row.prog w) hp (isType (.ref e)) false := (Looks.ld (M := model PySem.Challenge.rw_og0002_01.row.prog w) (h := hp) (part := some headPart) he).andThen (by rw [hd]; exact .now)
  have LE : Looks (model PySem.Challenge.rw_og0002_01.row.prog w) hp (isExcClass (.ref e)) false := LI.andThen .now
  have LB : Looks (model PySem.Challenge.rw_og0002_01.row.prog w) hp (isInstance (.ref e) (.type "BaseException")) true := LT.andThen (looks_mroIn X h2)
  refine wpAny_bind (wpAny_standAt (wpAny_pure ?_))
  dsimp only
  refine wpAny_bind (wpAny_pure ?_)
  refine wpAny_bind (wpAny_holding ?_)
  unfold excFromValue
  refine wpAny_bind (LE.here ?_)
  simp only [Bool.false_eq_true, if_false]
  refine wpAny_bind (LB.here ?_)
  simp only [if_true]
  refine wpAny_pure (wpAny_bind (LI.here ?_))
  simp only [Bool.false_eq_true, if_false]
  unfold raisedInstance
  refine wpAny_bind (wpAny_bind (LT.here (wpAny_bind (LY.here ?_))))
  rw [if_pos (by decide)]
  refine wpAny_pure (wpAny_bind ?_)
  unfold setFlight
  refine wpAny_bind (wpAny_field he hd rfl ?_)
  rw [if_neg (by show ¬ ((Value.none != Value.none) = true); decide)]
  refine wpAny_pure (wpAny_raiseNew_none hh hE)

/-- an exception that stands on the ledger leaves the frame at hand -/
theorem leave_exc {M : Model} {s' : Shared} {g : Heap} {e a : Addr} {o : Obj} {vs : Array Value} {a0 : Value} {name : Str} {scope : Scope} {cd : Value} {Q : Unit → Shared → Prop} (K : Below A base outer g) (hF : Fr g L s'.heap m) (N : News g L s'.heap ((e, o) :: news)) (hne : ∀ p ∈ news, p.1 ≠ e)
    (hd : o.data = .fields vs) (h1 : vs[1]? = some .none) (h0' : vs[0]? = some a0)
    (hQ : ∀ h', RaisedSN base g outer e o.cls news h' → g.UpToSlots h' → Q () { s' with heap := h' }) (hk : scope.kind = .function := by rfl) :
    wpAny M (A.deeper (envOf name scope L a cd)) (leaving (envOf name scope L a cd) (.ref e)) Q E s' := by
  have K' := K.push (name := name) (a := a) (cd := cd) hF hk
  have he := N _ (.head _)
  have hin : ∀ env' ∈ (envOf name scope L a cd :: outer), ∀ b, env'.frame = some b → b ∈ e :: (envOf name scope L a cd :: outer).filterMap (·.frame) := fun env' hm b hb => .tail _ (List.mem_filterMap.mpr ⟨env', hm, hb⟩)
  have fr : ∀ b, b ∈ (envOf name scope L a cd :: outer).filterMap (·.frame) → b = L ∨ (b ∈ outer.filterMap (·.frame)) := fun b hb => kts_mem hb
  have st : base.StaysIn (hideAll s'.heap (e :: (envOf name scope L a cd :: outer).filterMap (·.frame))) := fun b ob q => hideAll_get _ (K'.stays b ob q) fun hm => by
    rcases List.mem_cons.mp hm with rfl | hm
    · rw [fresh_of_stays K.stays he.2.2] at q; cases q
    · rw [(K'.frames.mem hm).1] at q; cases q
  have sg : ∀ b ob, g.get? b = some ob → b ∉ outer.filterMap (·.frame) → (hideAll s'.heap (e :: (envOf name scope L a cd :: outer).filterMap (·.frame))).get? b = some ob := fun b ob q nm => hideAll_get _ (hF.keep b ob q) fun hm => by
    rcases List.mem_cons.mp hm with rfl | hm
    · rw [he.2.2] at q; cases q
    · rcases fr b hm with z | z
      · rw [z, kts_self hF] at q; cases q
      · exact nm z
  have hl : ∀ q ∈ news, (hideAll s'.heap (e :: (envOf name scope L a cd :: outer).filterMap (·.frame))).get? q.1 = some q.2 ∧ g.get? q.1 = none ∧ base.get? q.1 = none := fun q hq => by
    have hq' := N q (.tail _ hq)
    refine ⟨hideAll_get _ hq'.1 fun hm => ?_, hq'.2.2, fresh_of_stays K.stays hq'.2.2⟩
    rcases List.mem_cons.mp hm with z | hm
    · exact hne q hq z
    · rcases fr _ hm with z | z
      · exact hq'.2.1 z
      · obtain ⟨ob, hob, _⟩ := (K.frames.mem z).2
        rw [hq'.2.2] at hob; cases hob
  have hen : (hideAll s'.heap (e :: (envOf name scope L a cd :: outer).filterMap (·.frame))).get? e = none := hideAll_none _ (.head _)
  refine wpAny_leaving_firstW (a0 := a0) K'.stack (funFrames_hide K'.frames hin) rfl he.1 (fun b ob hb => of_hideAll _ hb) hen hd h1 h0' fun h' hL => ?_
  obtain ⟨k1, ⟨_, _, k2⟩, k3, k4⟩ := hL
  exact hQ h' ⟨_, a0, st, sg, hl, k1, hen, k2, k3⟩ ((Heap.UpToSlots.of_keeps hF.keep).trans k4)

/-- an exception has come out of a call: the caller's frame and ledger stand up to slots -/
def ErrAt (base h₀ : Heap) (L : Addr) (m : Str → Option Value) (env : Env) (outer : List Env) (news : List (Addr × Obj)) (h : Heap) (e : Addr) : Prop :=
  ∃ G, Fr h₀ L G m ∧ RaisedSN base G (env :: outer) e (.ref 45) news h ∧ G.UpToSlots h

theorem raised_sub {base G : Heap} {l : List Env} {e : Addr} {cls : Value} {news news' : List (Addr × Obj)} {h : Heap} (R : RaisedSN base G l e cls news h) (hs : ∀ p ∈ news', p ∈ news) : RaisedSN base G l e cls news' h := by
  obtain ⟨B, a0, hB, hG, hl, hf⟩ := R
  exact ⟨B, a0, hB, hG, fun q hq => hl q (hs q hq), hf⟩
theorem ErrAt.mk' {g : Heap} {news' : List (Addr × Obj)} {h : Heap} {e : Addr} {cls : Value} (FG : Fr h₀ L g m) (R : RaisedSN base g (env :: outer) e cls news' h) (hc : cls = .ref 45) (U : g.UpToSlots h) (hs : ∀ p ∈ news, p ∈ news') : ErrAt base h₀ L m env outer news h e :=
  ⟨g, FG, by subst hc; exact raised_sub R hs, U⟩
end

end
local macro_rules | `(tactic| walk_at "exec Raise") => `(tactic| (k_here; k_dflt (refine' exc_raise ?a ?b ?c ?_; (case a => first | rfl | assumption); (case b | c => k_is); k_whole)))
local macro_rules | `(tactic| walk_at "call ref") => `(tactic| (k_here; (with_reducible show wpAny _ _ (call (Value.ref 45) _ _) _ _ _); k_dflt (refine' exc_new ?C ?hd ?N ?_; (case C => walk_at "my cx"); (case hd => walk_at "my dep"); (case N => k_asm); k_whole); intro h' tk' e' o' t' F' N' hne' hc' hd'; (try k_sweep)))
local macro_rules | `(tactic| walk_at "RaiseBack") => `(tactic| (refine ⟨_, _, _, rfl, by k_in, News.get (by k_asm) (List.Mem.head _), by assumption, by assumption, ?_⟩))
local macro_rules | `(tactic| walk_at "leaving ref") => `(tactic| (k_here; (refine' leave_exc ?K ?F ?N ?n ?d ?a ?b ?_; (case N | n | K | F | d => assumption); (case a | b => rfl); k_whole; intro h' R' U'; (try dsimp only at R' U' ⊢))))

section
section
variable {w : World} {mean : ExcName → Option Value} {mg mb : Str → Option Value} {A A₀ : Around} {base h₀ : Heap} {outer : List Env} {env : Env} {L : Addr} {m : Str → Option Value} {s : Shared}
    {Q : Value → Shared → Prop} {E : Value → Shared → Prop}
variable {W : List (Addr × Obj)} {la dx a d wl stk : Addr} {wb : WB} {ep : Nat} {vs : List Value} {ns : List Int} {k0 k1 k2 k3 k4 k5 k6 k7 : Int} {t0 t1 t2 t3 t4 t5 t6 t7 pt : Tok} {pos : Int} {shown : Value} {op em fo al : Bool}

set_option maxRecDepth 100000 in
set_option maxHeartbeats 4000000 in
theorem ended_spec (C : Cx w mean mg mb A A₀ base h₀ outer env L m s.heap) (hdep : A.depth < 860) (hun : A.units < 7900) (N : News h₀ L s.heap ((dx, dictOf [⟨k0, .str (Str.ofString "words") t0, .ref wl⟩, ⟨k1, .str (Str.ofString "at") t1, .int pos pt⟩, ⟨k2, .str (Str.ofString "stack") t2, .ref stk⟩, ⟨k3, .str (Str.ofString "shown") t3, shown⟩, ⟨k4, .str (Str.ofString "is_opening") t4, .bool op⟩, ⟨k5, .str (Str.ofString "is_empty") t5, .bool em⟩, ⟨k6, .str (Str.ofString "is_forced") t6, .bool fo⟩, ⟨k7, .str (Str.ofString "is_aligned") t7, .bool al⟩] 8) :: (stk, listOf vs.toArray ep) :: W))
    (hla : (la, instObj 185 dx) ∈ W) (hwa : (a, instObj 79 d) ∈ W) (hwd : (d, wordD wb) ∈ W) (hi : IntsAre vs ns) (hlen : vs.length ≤ 1000) (hne : @Ne Nat dx stk) (hdW : ∀ p ∈ W, p.1 ≠ dx) (hsW : ∀ p ∈ W, p.1 ≠ stk)
    (h1 : ns = [] → ∀ h' tk, Fr h₀ L h' m → News h₀ L h' ((dx, dictOf [⟨k0, .str (Str.ofString "words") t0, .ref wl⟩, ⟨k1, .str (Str.ofString "at") t1, .int pos pt⟩, ⟨k2, .str (Str.ofString "stack") t2, .ref stk⟩, ⟨k3, .str (Str.ofString "shown") t3, shown⟩, ⟨k4, .str (Str.ofString "is_opening") t4, .bool op⟩, ⟨k5, .str (Str.ofString "is_empty") t5, .bool em⟩, ⟨k6, .str (Str.ofString "is_forced") t6, .bool fo⟩, ⟨k7, .str (Str.ofString "is_aligned") t7, .bool al⟩] 8) :: (stk, listOf vs.toArray ep) :: W) → Q (.ref a) { s with heap := h', toks := tk })
    (h2 : ns ≠ [] → ns.getLastD 0 ≠ 0 → ∀ h' tk x xd vb vs' ep', Fr h₀ L h' m → News h₀ L h' ((x, instObj 79 xd) :: (xd, wordD vb) :: (dx, dictOf [⟨k0, .str (Str.ofString "words") t0, .ref wl⟩, ⟨k1, .str (Str.ofString "at") t1, .int pos pt⟩, ⟨k2, .str (Str.ofString "stack") t2, .ref stk⟩, ⟨k3, .str (Str.ofString "shown") t3, shown⟩, ⟨k4, .str (Str.ofString "is_opening") t4, .bool op⟩, ⟨k5, .str (Str.ofString "is_empty") t5, .bool em⟩, ⟨k6, .str (Str.ofString "is_forced") t6, .bool fo⟩, ⟨k7, .str (Str.ofString "is_aligned") t7, .bool al⟩] 8) :: (stk, listOf vs'.toArray ep') :: W) → IntsAre vs' ns.dropLast →
      VWord W dx stk xd x vb (Str.ofString "}") → Q (.ref x) { s with heap := h', toks := tk })
    (hE : ns ≠ [] → ns.getLastD 0 = 0 → ∀ h' tk e, ErrAt base h₀ L m env outer W h' e → E (.ref e) { s with heap := h', toks := tk }) :
    wpAny (model PySem.Challenge.rw_og0002_01.row.prog w) A (call (.ref 175) [.ref la, .ref a] []) Q E s := by
  obtain ⟨B, F, X, T, hfr, hloc, hkd, hha⟩ := C
  have _ : Mine.hd.heap_1 w.params = Mine.hd.heap_1 w.params ∧ PySem.Challenge.rw_og0002_01 = PySem.Challenge.rw_og0002_01 := by
    w_top off
    k_fill
    exact ⟨rfl, rfl⟩
  refine wpAny_call ?_
  refine' code_def (binds := [(Str.ofString "self", .ref la), (Str.ofString "word", .ref a)]) B F X N T hfr hloc hkd ?k6 ?k7 ?k8 ?k9 ?kB ?_ ?c2 ?c3 ?c4 ?c5
  case k6 => k_is
  case k7 => k_is
  case k8 => exact Nat.lt_of_lt_of_le hdep (by decide)
  case k9 => first | exact BindsTo.of_eq rfl | exact binds_K (by k_in) rfl (by k_is) rfl rfl rfl
  case c5 => decide
  case kB => exact locs rfl
  case c2 => exact rfl
  case c3 => exact rfl
  case c4 => exact rfl
  intro g' L' h' FG' F' N' B' X' T'
  clear B F X N T
  (try k_fold)
  k_steps
  · exact h1 (by simp_all) _ _ (by assumption) (news_tail (by assumption))
  · exact hE (by simp_all) (by assumption) _ _ _ (ErrAt.mk' FG' (by assumption) (by assumption) (by assumption) (fun p hp => .tail _ (.tail _ (.tail _ hp))))
  · exact h2 (by simp_all) (by assumption) _ _ _ _ _ _ _ (by assumption) (news_drop3 (by assumption)) (by assumption) (VWord.of (lt_tail (by assumption)) (by assumption) (by assumption) (by assumption) (by assumption))
end

end
local macro_rules | `(tactic| walk_at "call ref") => `(tactic| (k_here; (with_reducible show wpAny _ _ (call (Value.ref 168) _ _) _ _ _); k_dflt (refine' opened_spec ?C ?hd ?hu ?N ?a ?b ?c ?i ?l ?ne ?dW ?sW ?_ ?_; (case C => walk_at "my cx"); (case hd => walk_at "my dep"); (case hu => walk_at "my un"); (case N => first | k_asm | exact news_tail (by k_asm) | exact news_tail (news_tail (by k_asm))); (case a | b | c | i | l | ne | dW | sW => assumption)); (all_goals (intros; walk_at "my vword"; (try k_sweep)))))
local macro_rules | `(tactic| walk_at "call ref") => `(tactic| (k_here; (with_reducible show wpAny _ _ (call (Value.ref 182) _ _) _ _ _); k_dflt (refine' aligned_spec ?C ?hd ?hu ?N ?a ?b ?c ?i ?l ?ne ?dW ?sW ?_ ?_ ?_; (case C => walk_at "my cx"); (case hd => walk_at "my dep"); (case hu => walk_at "my un"); (case N => first | k_asm | exact news_tail (by k_asm) | exact news_tail (news_tail (by k_asm))); (case a | b | c | i | l | ne | dW | sW => assumption)); (all_goals (intros; walk_at "my vword"; (try k_sweep)))))
local macro_rules | `(tactic| walk_at "call ref") => `(tactic| (k_here; (with_reducible show wpAny _ _ (call (Value.ref 175) _ _) _ _ _); k_dflt (refine' ended_spec ?C ?hd ?hu ?N ?a ?b ?c ?i ?l ?ne ?dW ?sW ?_ ?_ ?_; (case C => walk_at "my cx"); (case hd => walk_at "my dep"); (case hu => walk_at "my un"); (case N => first | k_asm | exact news_tail (by k_asm) | exact news_tail (news_tail (by k_asm))); (case a | b | c | i | l | ne | dW | sW => assumption)); (all_goals (intros; walk_at "my vword"; (try k_sweep)))))
local macro_rules | `(tactic| walk_at "leaving ref") => `(tactic| (k_here; (rename ErrAt _ _ _ _ _ _ _ _ _ => EA'); (obtain ⟨G', GF', GR', GU'⟩ := EA'); (refine' leave_onSN ?K ?F ?R ?S ?_; (case R => exact GR'); (case K => assumption); (case F => exact GF'); (case S => exact GU'); k_whole; intro h' R' R2' U'; clear R2'; (try dsimp only at R' U' ⊢))))

section
section
variable {w : World} {mean : ExcName → Option Value} {mg mb : Str → Option Value} {A A₀ : Around} {base h₀ : Heap} {outer : List Env} {env : Env} {L : Addr} {m : Str → Option Value} {s : Shared}
    {Q : Value → Shared → Prop} {E : Value → Shared → Prop}
variable {W : List (Addr × Obj)} {la dx a d wl stk : Addr} {wb : WB} {ep : Nat} {vs : List Value} {ns : List Int} {k0 k1 k2 k3 k4 k5 k6 k7 : Int} {t0 t1 t2 t3 t4 t5 t6 t7 pt : Tok} {pos : Int} {shown : Value} {op em fo al : Bool}

set_option maxRecDepth 100000 in
set_option maxHeartbeats 4000000 in
theorem found_spec {wvs : List Value} {epw : Nat} (C : Cx w mean mg mb A A₀ base h₀ outer env L m s.heap) (hdep : A.depth < 850) (hun : A.units < 7800) (N : News h₀ L s.heap ((dx, dictOf [⟨k0, .str (Str.ofString "words") t0, .ref wl⟩, ⟨k1, .str (Str.ofString "at") t1, .int pos pt⟩, ⟨k2, .str (Str.ofString "stack") t2, .ref stk⟩, ⟨k3, .str (Str.ofString "shown") t3, shown⟩, ⟨k4, .str (Str.ofString "is_opening") t4, .bool op⟩, ⟨k5, .str (Str.ofString "is_empty") t5, .bool em⟩, ⟨k6, .str (Str.ofString "is_forced") t6, .bool fo⟩, ⟨k7, .str (Str.ofString "is_aligned") t7, .bool al⟩] 8) :: (stk, listOf vs.toArray ep) :: W))
    (hla : (la, instObj 185 dx) ∈ W) (hwl : (wl, listOf wvs.toArray epw) ∈ W) (hp0 : 0 ≤ pos) (hp1 : pos < 1000) (hx : wvs.toArray[pos.toNat]? = some (.ref a)) (hwa : (a, instObj 79 d) ∈ W) (hwd : (d, wordD wb) ∈ W) (hi : IntsAre vs ns) (hlen : vs.length ≤ 1000) (hne : @Ne Nat dx stk) (hdW : ∀ p ∈ W, p.1 ≠ dx) (hsW : ∀ p ∈ W, p.1 ≠ stk)
    (hw : ∀ op' em' fo' al', fnd op em fo al (wb.kind == Str.ofString "end") wb.first wb.col ns = .word op' em' fo' al' → ∀ h' tk, Fr h₀ L h' m → News h₀ L h' ((dx, dictOf [⟨k0, .str (Str.ofString "words") t0, .ref wl⟩, ⟨k1, .str (Str.ofString "at") t1, .int pos pt⟩, ⟨k2, .str (Str.ofString "stack") t2, .ref stk⟩, ⟨k3, .str (Str.ofString "shown") t3, shown⟩, ⟨k4, .str (Str.ofString "is_opening") t4, .bool op'⟩, ⟨k5, .str (Str.ofString "is_empty") t5, .bool em'⟩, ⟨k6, .str (Str.ofString "is_forced") t6, .bool fo'⟩, ⟨k7, .str (Str.ofString "is_aligned") t7, .bool al'⟩] 8) :: (stk, listOf vs.toArray ep) :: W) → Q (.ref a) { s with heap := h', toks := tk })
    (hv : ∀ t op' em' fo' al' ns', fnd op em fo al (wb.kind == Str.ofString "end") wb.first wb.col ns = .virt t op' em' fo' al' ns' → ∀ h' tk x xd vb vs' ep', Fr h₀ L h' m → News h₀ L h' ((x, instObj 79 xd) :: (xd, wordD vb) :: (dx, dictOf [⟨k0, .str (Str.ofString "words") t0, .ref wl⟩, ⟨k1, .str (Str.ofString "at") t1, .int pos pt⟩, ⟨k2, .str (Str.ofString "stack") t2, .ref stk⟩, ⟨k3, .str (Str.ofString "shown") t3, shown⟩, ⟨k4, .str (Str.ofString "is_opening") t4, .bool op'⟩, ⟨k5, .str (Str.ofString "is_empty") t5, .bool em'⟩, ⟨k6, .str (Str.ofString "is_forced") t6, .bool fo'⟩, ⟨k7, .str (Str.ofString "is_aligned") t7, .bool al'⟩] 8) :: (stk, listOf vs'.toArray ep') :: W) → IntsAre vs' ns' →
      VWord W dx stk xd x vb t → Q (.ref x) { s with heap := h', toks := tk })
    (hE : fnd op em fo al (wb.kind == Str.ofString "end") wb.first wb.col ns = .err → ∀ h' tk e, ErrAt base h₀ L m env outer W h' e → E (.ref e) { s with heap := h', toks := tk }) :
    wpAny (model PySem.Challenge.rw_og0002_01.row.prog w) A (call (.ref 161) [.ref la] []) Q E s := by
  obtain ⟨B, F, X, T, hfr, hloc, hkd, hha⟩ := C
  have _ : Mine.hd.heap_1 w.params = Mine.hd.heap_1 w.params ∧ PySem.Challenge.rw_og0002_01 = PySem.Challenge.rw_og0002_01 := by
    w_top off
    k_fill
    exact ⟨rfl, rfl⟩
  refine wpAny_call ?_
  refine' code_def (binds := [(Str.ofString "self", .ref la)]) B F X N T hfr hloc hkd ?k6 ?k7 ?k8 ?k9 ?kB ?_ ?c2 ?c3 ?c4 ?c5
  case k6 => k_is
  case k7 => k_is
  case k8 => exact Nat.lt_of_lt_of_le hdep (by decide)
  case k9 => first | exact BindsTo.of_eq rfl | exact binds_K (by k_in) rfl (by k_is) rfl rfl rfl
  case c5 => decide
  case kB => exact locs rfl
  case c2 => exact rfl
  case c3 => exact rfl
  case c4 => exact rfl
  intro g' L' h' FG' F' N' B' X' T'
  clear B F X N T
  (try k_fold)
  k_steps
  all_goals first
    | (refine hv _ _ _ _ _ _ ?_ _ _ _ _ _ _ _ (by assumption) (by assumption) (by assumption) (by assumption); walk_at "my fnd")
    | (refine hv _ _ _ _ _ _ ?_ _ _ _ _ _ _ _ (by assumption) (by assumption) hi (VWord.of (by assumption) (by assumption) (by assumption) (by assumption) (by assumption)); walk_at "my fnd")
    | (refine hw _ _ _ _ ?_ _ _ (by assumption) (by assumption); walk_at "my fnd")
    | (refine hE ?_ _ _ _ (ErrAt.mk' FG' (by assumption) rfl (by assumption) (fun p hp => hp)); walk_at "my fnd")
end

end
local macro_rules | `(tactic| walk_at "call ref") => `(tactic| (k_here; (with_reducible show wpAny _ _ (call (Value.ref 161) _ _) _ _ _); k_dflt (refine' found_spec ?C ?hd ?hu ?N ?a ?b ?p0 ?p1 ?x ?wa ?wd ?i ?l ?ne ?dW ?sW ?_ ?_ ?_; (case C => walk_at "my cx"); (case hd => walk_at "my dep"); (case hu => walk_at "my un"); (case N => first | k_asm | exact news_tail (by k_asm) | exact news_tail (news_tail (by k_asm))); (case a | b | p0 | p1 | x | wa | wd | i | l | ne | dW | sW => assumption)); (all_goals (intros; walk_at "my vword"; (try k_sweep)))))

section
section
variable {w : World} {mean : ExcName → Option Value} {mg mb : Str → Option Value} {A A₀ : Around} {base h₀ : Heap} {outer : List Env} {env : Env} {L : Addr} {m : Str → Option Value} {s : Shared}
    {Q : Value → Shared → Prop} {E : Value → Shared → Prop}
variable {W : List (Addr × Obj)} {la dx a d wl stk : Addr} {wb : WB} {ep : Nat} {vs : List Value} {ns : List Int} {k0 k1 k2 k3 k4 k5 k6 k7 : Int} {t0 t1 t2 t3 t4 t5 t6 t7 pt : Tok} {pos : Int} {shown : Value} {op em fo al : Bool}

set_option maxRecDepth 100000 in
set_option maxHeartbeats 4000000 in
theorem peek_fresh {wvs : List Value} {epw : Nat} (C : Cx w mean mg mb A A₀ base h₀ outer env L m s.heap) (hdep : A.depth < 840) (hun : A.units < 7700) (N : News h₀ L s.heap ((dx, dictOf [⟨k0, .str (Str.ofString "words") t0, .ref wl⟩, ⟨k1, .str (Str.ofString "at") t1, .int pos pt⟩, ⟨k2, .str (Str.ofString "stack") t2, .ref stk⟩, ⟨k3, .str (Str.ofString "shown") t3, .none⟩, ⟨k4, .str (Str.ofString "is_opening") t4, .bool op⟩, ⟨k5, .str (Str.ofString "is_empty") t5, .bool em⟩, ⟨k6, .str (Str.ofString "is_forced") t6, .bool fo⟩, ⟨k7, .str (Str.ofString "is_aligned") t7, .bool al⟩] 8) :: (stk, listOf vs.toArray ep) :: W))
    (hla : (la, instObj 185 dx) ∈ W) (hwl : (wl, listOf wvs.toArray epw) ∈ W) (hp0 : 0 ≤ pos) (hp1 : pos < 1000) (hx : wvs.toArray[pos.toNat]? = some (.ref a)) (hwa : (a, instObj 79 d) ∈ W) (hwd : (d, wordD wb) ∈ W) (hi : IntsAre vs ns) (hlen : vs.length ≤ 1000) (hne : @Ne Nat dx stk) (hdW : ∀ p ∈ W, p.1 ≠ dx) (hsW : ∀ p ∈ W, p.1 ≠ stk)
    (hw : ∀ op' em' fo' al', fnd op em fo al (wb.kind == Str.ofString "end") wb.first wb.col ns = .word op' em' fo' al' → ∀ h' tk, Fr h₀ L h' m → News h₀ L h' ((dx, dictOf [⟨k0, .str (Str.ofString "words") t0, .ref wl⟩, ⟨k1, .str (Str.ofString "at") t1, .int pos pt⟩, ⟨k2, .str (Str.ofString "stack") t2, .ref stk⟩, ⟨k3, .str (Str.ofString "shown") t3, .ref a⟩, ⟨k4, .str (Str.ofString "is_opening") t4, .bool op'⟩, ⟨k5, .str (Str.ofString "is_empty") t5, .bool em'⟩, ⟨k6, .str (Str.ofString "is_forced") t6, .bool fo'⟩, ⟨k7, .str (Str.ofString "is_aligned") t7, .bool al'⟩] 8) :: (stk, listOf vs.toArray ep) :: W) → Q (.ref a) { s with heap := h', toks := tk })
    (hv : ∀ t op' em' fo' al' ns', fnd op em fo al (wb.kind == Str.ofString "end") wb.first wb.col ns = .virt t op' em' fo' al' ns' → ∀ h' tk x xd vb vs' ep', Fr h₀ L h' m → News h₀ L h' ((x, instObj 79 xd) :: (xd, wordD vb) :: (dx, dictOf [⟨k0, .str (Str.ofString "words") t0, .ref wl⟩, ⟨k1, .str (Str.ofString "at") t1, .int pos pt⟩, ⟨k2, .str (Str.ofString "stack") t2, .ref stk⟩, ⟨k3, .str (Str.ofString "shown") t3, .ref x⟩, ⟨k4, .str (Str.ofString "is_opening") t4, .bool op'⟩, ⟨k5, .str (Str.ofString "is_empty") t5, .bool em'⟩, ⟨k6, .str (Str.ofString "is_forced") t6, .bool fo'⟩, ⟨k7, .str (Str.ofString "is_aligned") t7, .bool al'⟩] 8) :: (stk, listOf vs'.toArray ep') :: W) → IntsAre vs' ns' →
      VWord W dx stk xd x vb t → Q (.ref x) { s with heap := h', toks := tk })
    (hE : fnd op em fo al (wb.kind == Str.ofString "end") wb.first wb.col ns = .err → ∀ h' tk e, ErrAt base h₀ L m env outer W h' e → E (.ref e) { s with heap := h', toks := tk }) :
    wpAny (model PySem.Challenge.rw_og0002_01.row.prog w) A (call (.ref 119) [.ref la] []) Q E s := by
  obtain ⟨B, F, X, T, hfr, hloc, hkd, hha⟩ := C
  have _ : Mine.hd.heap_1 w.params = Mine.hd.heap_1 w.params ∧ PySem.Challenge.rw_og0002_01 = PySem.Challenge.rw_og0002_01 := by
    w_top off
    k_fill
    exact ⟨rfl, rfl⟩
  refine wpAny_call ?_
  refine' code_def (binds := [(Str.ofString "self", .ref la)]) B F X N T hfr hloc hkd ?k6 ?k7 ?k8 ?k9 ?kB ?_ ?c2 ?c3 ?c4 ?c5
  case k6 => k_is
  case k7 => k_is
  case k8 => exact Nat.lt_of_lt_of_le hdep (by decide)
  case k9 => first | exact BindsTo.of_eq rfl | exact binds_K (by k_in) rfl (by k_is) rfl rfl rfl
  case c5 => decide
  case kB => exact locs rfl
  case c2 => exact rfl
  case c3 => exact rfl
  case c4 => exact rfl
  intro g' L' h' FG' F' N' B' X' T'
  clear B F X N T
  (try k_fold)
  k_steps
  all_goals first
    | (refine hv _ _ _ _ _ _ ?_ _ _ _ _ _ _ _ (by assumption) (by assumption) (by assumption) (by assumption); assumption)
    | (refine hw _ _ _ _ ?_ _ _ (by assumption) (by assumption); assumption)
    | (refine hE ?_ _ _ _ (ErrAt.mk' FG' (by assumption) rfl (by assumption) (fun p hp => hp)); assumption)
set_option maxRecDepth 100000 in
set_option maxHeartbeats 4000000 in
theorem peek_shown {news : List (Addr × Obj)} {v0 : Addr} (C : Cx w mean mg mb A A₀ base h₀ outer env L m s.heap) (hdep : A.depth < 840) (N : News h₀ L s.heap news)
    (hla : (la, instObj 185 dx) ∈ news) (hdx : (dx, dictOf [⟨k0, .str (Str.ofString "words") t0, .ref wl⟩, ⟨k1, .str (Str.ofString "at") t1, .int pos pt⟩, ⟨k2, .str (Str.ofString "stack") t2, .ref stk⟩, ⟨k3, .str (Str.ofString "shown") t3, .ref v0⟩, ⟨k4, .str (Str.ofString "is_opening") t4, .bool op⟩, ⟨k5, .str (Str.ofString "is_empty") t5, .bool em⟩, ⟨k6, .str (Str.ofString "is_forced") t6, .bool fo⟩, ⟨k7, .str (Str.ofString "is_aligned") t7, .bool al⟩] 8) ∈ news)
    (h : ∀ h' tk, Fr h₀ L h' m → News h₀ L h' news → Q (.ref v0) { s with heap := h', toks := tk }) :
    wpAny (model PySem.Challenge.rw_og0002_01.row.prog w) A (call (.ref 119) [.ref la] []) Q E s := by
  obtain ⟨B, F, X, T, hfr, hloc, hkd, hha⟩ := C
  have _ : Mine.hd.heap_1 w.params = Mine.hd.heap_1 w.params ∧ PySem.Challenge.rw_og0002_01 = PySem.Challenge.rw_og0002_01 := by
    w_top off
    k_fill
    exact ⟨rfl, rfl⟩
  refine wpAny_call ?_
  refine' code_def (binds := [(Str.ofString "self", .ref la)]) B F X N T hfr hloc hkd ?k6 ?k7 ?k8 ?k9 ?kB ?_ ?c2 ?c3 ?c4 ?c5
  case k6 => k_is
  case k7 => k_is
  case k8 => exact Nat.lt_of_lt_of_le hdep (by decide)
  case k9 => first | exact BindsTo.of_eq rfl | exact binds_K (by k_in) rfl (by k_is) rfl rfl rfl
  case c5 => decide
  case kB => exact locs rfl
  case c2 => exact rfl
  case c3 => exact rfl
  case c4 => exact rfl
  intro g' L' h' FG' F' N' B' X' T'
  clear B F X N T
  (try k_fold)
  k_steps
  all_goals first
    | exact h _ _ (by assumption) (by assumption)
end

end
local macro_rules | `(tactic| walk_at "call ref") => `(tactic| (k_here; (with_reducible show wpAny _ _ (call (Value.ref 119) _ _) _ _ _); k_dflt (refine' peek_fresh ?C ?hd ?hu ?N ?a ?b ?p0 ?p1 ?x ?wa ?wd ?i ?l ?ne ?dW ?sW ?_ ?_ ?_; (case C => walk_at "my cx"); (case hd => walk_at "my dep"); (case hu => walk_at "my un"); (case N => first | k_asm | exact news_tail (by k_asm) | exact news_tail (news_tail (by k_asm))); (case a | b | p0 | p1 | x | wa | wd | i | l | ne | dW | sW => assumption)); (all_goals (intros; walk_at "my vword"; (try k_sweep)))))
local macro_rules | `(tactic| walk_at "call ref") => `(tactic| (k_here; (with_reducible show wpAny _ _ (call (Value.ref 119) _ _) _ _ _); k_dflt (refine' peek_shown ?C ?hd ?N ?a ?b ?_; (case C => walk_at "my cx"); (case hd => walk_at "my dep"); (case N => k_asm); (case a | b => k_mem); k_whole); intro h' tk' F' N'; (try k_sweep)))

section
theorem hcl_false {c : Bool} {P : Prop} (h : c = false) : c = true → P := fun q => by rw [h] at q; cases q
theorem bne_contra {x y : Str} (a : (x == y) = false) (b : (x != y) = false) : False := by simp [bne, a] at b
def passN (isO isC : Bool) (ns : List Int) : List Int := if isO then ns ++ [0] else if isC then ns.dropLast else ns
def passO (isO isC isK nxO op : Bool) : Bool := if isO then op else if isC then op else if isK then !nxO else op
section
variable {isO isC k1 k2 nx op : Bool} {ns : List Int}
theorem passO_1 (a : isO = true) : op = passO isO isC (k1 && k2) nx op := by unfold passO; rw [if_pos a]
theorem passO_2 (a : isO = false) (b : isC = true) : op = passO isO isC (k1 && k2) nx op := by unfold passO; rw [if_neg (by simp [a]), if_pos b]
theorem passO_3 (a : isO = false) (b : isC = false) (c : k1 = true) (d : k2 = true) : (!nx) = passO isO isC (k1 && k2) nx op := by unfold passO; rw [if_neg (by simp [a]), if_neg (by simp [b]), if_pos (by simp [c, d])]
theorem passO_4 (a : isO = false) (b : isC = false) (c : k1 = false ∨ k2 = false) : op = passO isO isC (k1 && k2) nx op := by unfold passO; rw [if_neg (by simp [a]), if_neg (by simp [b]), if_neg (by rcases c with c | c <;> simp [c])]
theorem passN_1 (a : isO = true) : ns ++ [0] = passN isO isC ns := by unfold passN; rw [if_pos a]
theorem passN_2 (a : isO = false) (b : isC = true) : ns.dropLast = passN isO isC ns := by unfold passN; rw [if_neg (by simp [a]), if_pos b]
theorem passN_3 (a : isO = false) (b : isC = false) : ns = passN isO isC ns := by unfold passN; rw [if_neg (by simp [a]), if_neg (by simp [b])]
end
/-- the openers, in the order of the text's tuple -/
def isOpener (t : Str) : Bool := [Str.ofString "let", Str.ofString "where", Str.ofString "do", Str.ofString "of"].any (· == t)
theorem in_openers {w : World} {A : Around} {E : Value → Shared → Prop} {s : Shared} {Q : Value → Shared → Prop} {h₀ : Heap} {L : Addr} {m : Str → Option Value} {x : Str} {u : Tok} (hF : Fr h₀ L s.heap m) (X : (Mine.hd.heap_1 w.params).In h₀) (h : Q (.bool (isOpener x)) s) :
    wpAny (model PySem.Challenge.rw_og0002_01.row.prog w) A (compareOp .In (.str x u) (.ref 84)) Q E s := by
  have hk : (Mine.hd.heap_1 w.params).lookup 84 = some ⟨.type "tuple", none, .seq #[.str (Str.ofString "let") 297, .str (Str.ofString "where") 298, .str (Str.ofString "do") 299, .str (Str.ofString "of") 300] 0, #[]⟩ := by kernel_rfl
  exact in_tuple_strs ⟨_, X.keeps hF.keep _ _ hk, rfl, 0, rfl⟩ (.cons _ _ (.cons _ _ (.cons _ _ (.cons _ _ .nil)))) h
theorem hcl_use {c : Bool} {P : Prop} (h : c = true → P) (hc : c = true) : P := h hc
local macro_rules | `(tactic| walk_at "compareOp In str ref") => `(tactic| (k_here; (with_reducible show wpAny _ _ (compareOp CmpOp.In (Value.str _ _) (Value.ref 84)) _ _ _); k_dflt (refine' in_openers ?F ?X ?_; (case F | X => k_asm); k_whole)))
local macro_rules | `(tactic| kpa_ne) => `(tactic| exact ints_pos'' (by assumption) (hcl_use (by assumption) (by assumption)))

section
variable {w : World} {mean : ExcName → Option Value} {mg mb : Str → Option Value} {A A₀ : Around} {base h₀ : Heap} {outer : List Env} {env : Env} {L : Addr} {m : Str → Option Value} {s : Shared}
    {Q : Value → Shared → Prop} {E : Value → Shared → Prop}
variable {W : List (Addr × Obj)} {la dx a d wl stk : Addr} {wb : WB} {ep : Nat} {vs : List Value} {ns : List Int} {k0 k1 k2 k3 k4 k5 k6 k7 : Int} {t0 t1 t2 t3 t4 t5 t6 t7 pt : Tok} {pos : Int} {shown : Value} {op em fo al : Bool}

set_option maxRecDepth 100000 in
set_option maxHeartbeats 4000000 in
theorem pass_spec {wvs : List Value} {epw : Nat} {a2 d2 : Addr} {wb2 : WB} (C : Cx w mean mg mb A A₀ base h₀ outer env L m s.heap) (hdep : A.depth < 840) (hun : A.units < 7700) (N : News h₀ L s.heap ((dx, dictOf [⟨k0, .str (Str.ofString "words") t0, .ref wl⟩, ⟨k1, .str (Str.ofString "at") t1, .int pos pt⟩, ⟨k2, .str (Str.ofString "stack") t2, .ref stk⟩, ⟨k3, .str (Str.ofString "shown") t3, shown⟩, ⟨k4, .str (Str.ofString "is_opening") t4, .bool op⟩, ⟨k5, .str (Str.ofString "is_empty") t5, .bool em⟩, ⟨k6, .str (Str.ofString "is_forced") t6, .bool fo⟩, ⟨k7, .str (Str.ofString "is_aligned") t7, .bool al⟩] 8) :: (stk, listOf vs.toArray ep) :: W))
    (hla : (la, instObj 185 dx) ∈ W) (hwl : (wl, listOf wvs.toArray epw) ∈ W) (hp0 : 0 ≤ pos + 1) (hp1 : pos + 1 < 1000) (hx : wvs.toArray[(pos + 1).toNat]? = some (.ref a2)) (hwa : (a, instObj 79 d) ∈ W) (hwd : (d, wordD wb) ∈ W) (hwa2 : (a2, instObj 79 d2) ∈ W) (hwd2 : (d2, wordD wb2) ∈ W)
    (hi : IntsAre vs ns) (hlen : vs.length ≤ 1000) (hne : @Ne Nat dx stk) (hdW : ∀ p ∈ W, p.1 ≠ dx) (hsW : ∀ p ∈ W, p.1 ≠ stk) (hcl : (wb.kind == Str.ofString "special" && wb.text == Str.ofString "}") = true → ns ≠ [])
    (h : ∀ h' tk pt' vs' ep' op' ns', Fr h₀ L h' m → News h₀ L h' ((dx, dictOf [⟨k0, .str (Str.ofString "words") t0, .ref wl⟩, ⟨k1, .str (Str.ofString "at") t1, .int (pos + 1) pt'⟩, ⟨k2, .str (Str.ofString "stack") t2, .ref stk⟩, ⟨k3, .str (Str.ofString "shown") t3, shown⟩, ⟨k4, .str (Str.ofString "is_opening") t4, .bool op'⟩, ⟨k5, .str (Str.ofString "is_empty") t5, .bool em⟩, ⟨k6, .str (Str.ofString "is_forced") t6, .bool false⟩, ⟨k7, .str (Str.ofString "is_aligned") t7, .bool false⟩] 8) :: (stk, listOf vs'.toArray ep') :: W) → IntsAre vs' ns' →
      op' = passO (wb.kind == Str.ofString "special" && wb.text == Str.ofString "{") (wb.kind == Str.ofString "special" && wb.text == Str.ofString "}") (wb.kind == Str.ofString "key" && isOpener wb.text) (wb2.kind == Str.ofString "special" && wb2.text == Str.ofString "{") op →
      ns' = passN (wb.kind == Str.ofString "special" && wb.text == Str.ofString "{") (wb.kind == Str.ofString "special" && wb.text == Str.ofString "}") ns → Q .none { s with heap := h', toks := tk }) :
    wpAny (model PySem.Challenge.rw_og0002_01.row.prog w) A (call (.ref 133) [.ref la, .ref a] []) Q E s := by
  obtain ⟨B, F, X, T, hfr, hloc, hkd, hha⟩ := C
  have _ : Mine.hd.heap_1 w.params = Mine.hd.heap_1 w.params ∧ PySem.Challenge.rw_og0002_01 = PySem.Challenge.rw_og0002_01 := by
    w_top off
    k_fill
    exact ⟨rfl, rfl⟩
  refine wpAny_call ?_
  refine' code_def (binds := [(Str.ofString "self", .ref la), (Str.ofString "word", .ref a)]) B F X N T hfr hloc hkd ?k6 ?k7 ?k8 ?k9 ?kB ?_ ?c2 ?c3 ?c4 ?c5
  case k6 => k_is
  case k7 => k_is
  case k8 => exact Nat.lt_of_lt_of_le hdep (by decide)
  case k9 => first | exact BindsTo.of_eq rfl | exact binds_K (by k_in) rfl (by k_is) rfl rfl rfl
  case c5 => decide
  case kB => exact locs rfl
  case c2 => exact rfl
  case c3 => exact rfl
  case c4 => exact rfl
  intro g' L' h' FG' F' N' B' X' T'
  clear B F X N T
  (try k_fold)
  k_steps
  · walk_at "my push"
    exact h _ _ _ _ _ _ _ (by assumption) (by assumption) (hi.append (IntsAre.cons _ _ IntsAre.nil)) (passO_1 (by assumption)) (passN_1 (by assumption))
  · exact h _ _ _ _ _ _ _ (by assumption) (by assumption) (by assumption) (passO_2 (by assumption) (by assumption)) (passN_2 (by assumption) (by assumption))
  · exact h _ _ _ _ _ _ _ (by assumption) (by assumption) hi (passO_3 (by assumption) (by assumption) (by assumption) (by assumption)) (passN_3 (by assumption) (by assumption))
  all_goals exact h _ _ _ _ _ _ _ (by assumption) (by assumption) hi (passO_4 (by assumption) (by assumption) (by first | exact Or.inl (by assumption) | exact Or.inr (by assumption))) (passN_3 (by assumption) (by assumption))
end

end
local macro_rules | `(tactic| walk_at "call ref") => `(tactic| (k_here; (with_reducible show wpAny _ _ (call (Value.ref 133) _ _) _ _ _); k_dflt (refine' pass_spec ?C ?hd ?hu ?N ?a ?b ?p0 ?p1 ?x ?wa ?wd ?wa2 ?wd2 ?i ?l ?ne ?dW ?sW ?cl ?_; (case C => walk_at "my cx"); (case hd => walk_at "my dep"); (case hu => walk_at "my un"); (case N => first | k_asm | exact news_tail (by k_asm) | exact news_tail (news_tail (by k_asm))); (case a | b | p0 | p1 | x | wa | wd | wa2 | wd2 | i | l | ne | dW | sW => assumption); (case cl => first | assumption | walk_at "my hcl")); (all_goals (intros; (try k_sweep)))))
local macro_rules | `(tactic| walk_at "my hcl") => `(tactic| first | exact fun _ => of_decide_eq_false (by assumption) | exact hcl_false (by assumption))

section
section
variable {w : World} {mean : ExcName → Option Value} {mg mb : Str → Option Value} {A A₀ : Around} {base h₀ : Heap} {outer : List Env} {env : Env} {L : Addr} {m : Str → Option Value} {s : Shared}
    {Q : Value → Shared → Prop} {E : Value → Shared → Prop}
variable {W : List (Addr × Obj)} {la dx a d wl stk : Addr} {wb : WB} {ep : Nat} {vs : List Value} {ns : List Int} {k0 k1 k2 k3 k4 k5 k6 k7 : Int} {t0 t1 t2 t3 t4 t5 t6 t7 pt : Tok} {pos : Int} {shown : Value} {op em fo al : Bool}

set_option maxRecDepth 100000 in
set_option maxHeartbeats 4000000 in
theorem next_virt {x xd : Addr} {vb : WB} {tv : Tok} (C : Cx w mean mg mb A A₀ base h₀ outer env L m s.heap) (hdep : A.depth < 830) (hun : A.units < 7600) (N : News h₀ L s.heap ((dx, dictOf [⟨k0, .str (Str.ofString "words") t0, .ref wl⟩, ⟨k1, .str (Str.ofString "at") t1, .int pos pt⟩, ⟨k2, .str (Str.ofString "stack") t2, .ref stk⟩, ⟨k3, .str (Str.ofString "shown") t3, .ref x⟩, ⟨k4, .str (Str.ofString "is_opening") t4, .bool op⟩, ⟨k5, .str (Str.ofString "is_empty") t5, .bool em⟩, ⟨k6, .str (Str.ofString "is_forced") t6, .bool fo⟩, ⟨k7, .str (Str.ofString "is_aligned") t7, .bool al⟩] 8) :: (stk, listOf vs.toArray ep) :: W))
    (hla : (la, instObj 185 dx) ∈ W) (hxa : (x, instObj 79 xd) ∈ W) (hxd : (xd, wordD vb) ∈ W) (hvk : vb.kind = Str.ofString "special") (hvv : vb.value = .str (Str.ofString "virtual") tv)
    (hne : @Ne Nat dx stk) (hdW : ∀ p ∈ W, p.1 ≠ dx)
    (h : ∀ h' tk, Fr h₀ L h' m → News h₀ L h' ((dx, dictOf [⟨k0, .str (Str.ofString "words") t0, .ref wl⟩, ⟨k1, .str (Str.ofString "at") t1, .int pos pt⟩, ⟨k2, .str (Str.ofString "stack") t2, .ref stk⟩, ⟨k3, .str (Str.ofString "shown") t3, .none⟩, ⟨k4, .str (Str.ofString "is_opening") t4, .bool op⟩, ⟨k5, .str (Str.ofString "is_empty") t5, .bool em⟩, ⟨k6, .str (Str.ofString "is_forced") t6, .bool fo⟩, ⟨k7, .str (Str.ofString "is_aligned") t7, .bool al⟩] 8) :: (stk, listOf vs.toArray ep) :: W) → Q (.ref x) { s with heap := h', toks := tk }) :
    wpAny (model PySem.Challenge.rw_og0002_01.row.prog w) A (call (.ref 126) [.ref la] []) Q E s := by
  obtain ⟨B, F, X, T, hfr, hloc, hkd, hha⟩ := C
  have _ : Mine.hd.heap_1 w.params = Mine.hd.heap_1 w.params ∧ PySem.Challenge.rw_og0002_01 = PySem.Challenge.rw_og0002_01 := by
    w_top off
    k_fill
    exact ⟨rfl, rfl⟩
  refine wpAny_call ?_
  refine' code_def (binds := [(Str.ofString "self", .ref la)]) B F X N T hfr hloc hkd ?k6 ?k7 ?k8 ?k9 ?kB ?_ ?c2 ?c3 ?c4 ?c5
  case k6 => k_is
  case k7 => k_is
  case k8 => exact Nat.lt_of_lt_of_le hdep (by decide)
  case k9 => first | exact BindsTo.of_eq rfl | exact binds_K (by k_in) rfl (by k_is) rfl rfl rfl
  case c5 => decide
  case kB => exact locs rfl
  case c2 => exact rfl
  case c3 => exact rfl
  case c4 => exact rfl
  intro g' L' h' FG' F' N' B' X' T'
  clear B F X N T
  (try k_fold)
  k_steps
  all_goals first
    | exact h _ _ (by assumption) (by assumption)
set_option maxRecDepth 100000 in
set_option maxHeartbeats 4000000 in
theorem next_real {wvs : List Value} {epw : Nat} {a2 d2 : Addr} {wb2 : WB} (C : Cx w mean mg mb A A₀ base h₀ outer env L m s.heap) (hdep : A.depth < 830) (hun : A.units < 7600) (N : News h₀ L s.heap ((dx, dictOf [⟨k0, .str (Str.ofString "words") t0, .ref wl⟩, ⟨k1, .str (Str.ofString "at") t1, .int pos pt⟩, ⟨k2, .str (Str.ofString "stack") t2, .ref stk⟩, ⟨k3, .str (Str.ofString "shown") t3, .ref a⟩, ⟨k4, .str (Str.ofString "is_opening") t4, .bool op⟩, ⟨k5, .str (Str.ofString "is_empty") t5, .bool em⟩, ⟨k6, .str (Str.ofString "is_forced") t6, .bool fo⟩, ⟨k7, .str (Str.ofString "is_aligned") t7, .bool al⟩] 8) :: (stk, listOf vs.toArray ep) :: W))
    (hla : (la, instObj 185 dx) ∈ W) (hwl : (wl, listOf wvs.toArray epw) ∈ W) (hp0 : 0 ≤ pos + 1) (hp1 : pos + 1 < 1000) (hx : wvs.toArray[(pos + 1).toNat]? = some (.ref a2)) (hwa : (a, instObj 79 d) ∈ W) (hwd : (d, wordD wb) ∈ W) (hwa2 : (a2, instObj 79 d2) ∈ W) (hwd2 : (d2, wordD wb2) ∈ W)
    (hwv : wb.value = .none) (hwk : (wb.kind == Str.ofString "end") = false)
    (hi : IntsAre vs ns) (hlen : vs.length ≤ 1000) (hne : @Ne Nat dx stk) (hdW : ∀ p ∈ W, p.1 ≠ dx) (hsW : ∀ p ∈ W, p.1 ≠ stk)
    (h : ¬ ((wb.kind == Str.ofString "special" && wb.text == Str.ofString "}") = true ∧ (ns = [] ∨ ns.getLastD 0 ≠ 0)) → ∀ h' tk pt' vs' ep' op' ns', Fr h₀ L h' m → News h₀ L h' ((dx, dictOf [⟨k0, .str (Str.ofString "words") t0, .ref wl⟩, ⟨k1, .str (Str.ofString "at") t1, .int (pos + 1) pt'⟩, ⟨k2, .str (Str.ofString "stack") t2, .ref stk⟩, ⟨k3, .str (Str.ofString "shown") t3, .none⟩, ⟨k4, .str (Str.ofString "is_opening") t4, .bool op'⟩, ⟨k5, .str (Str.ofString "is_empty") t5, .bool em⟩, ⟨k6, .str (Str.ofString "is_forced") t6, .bool false⟩, ⟨k7, .str (Str.ofString "is_aligned") t7, .bool false⟩] 8) :: (stk, listOf vs'.toArray ep') :: W) → IntsAre vs' ns' →
      op' = passO (wb.kind == Str.ofString "special" && wb.text == Str.ofString "{") (wb.kind == Str.ofString "special" && wb.text == Str.ofString "}") (wb.kind == Str.ofString "key" && isOpener wb.text) (wb2.kind == Str.ofString "special" && wb2.text == Str.ofString "{") op →
      ns' = passN (wb.kind == Str.ofString "special" && wb.text == Str.ofString "{") (wb.kind == Str.ofString "special" && wb.text == Str.ofString "}") ns → Q (.ref a) { s with heap := h', toks := tk })
    (hE : (wb.kind == Str.ofString "special" && wb.text == Str.ofString "}") = true → (ns = [] ∨ ns.getLastD 0 ≠ 0) → ∀ h' tk e, ErrAt base h₀ L m env outer W h' e → E (.ref e) { s with heap := h', toks := tk }) :
    wpAny (model PySem.Challenge.rw_og0002_01.row.prog w) A (call (.ref 126) [.ref la] []) Q E s := by
  obtain ⟨B, F, X, T, hfr, hloc, hkd, hha⟩ := C
  have _ : Mine.hd.heap_1 w.params = Mine.hd.heap_1 w.params ∧ PySem.Challenge.rw_og0002_01 = PySem.Challenge.rw_og0002_01 := by
    w_top off
    k_fill
    exact ⟨rfl, rfl⟩
  refine wpAny_call ?_
  refine' code_def (binds := [(Str.ofString "self", .ref la)]) B F X N T hfr hloc hkd ?k6 ?k7 ?k8 ?k9 ?kB ?_ ?c2 ?c3 ?c4 ?c5
  case k6 => k_is
  case k7 => k_is
  case k8 => exact Nat.lt_of_lt_of_le hdep (by decide)
  case k9 => first | exact BindsTo.of_eq rfl | exact binds_K (by k_in) rfl (by k_is) rfl rfl rfl
  case c5 => decide
  case kB => exact locs rfl
  case c2 => exact rfl
  case c3 => exact rfl
  case c4 => exact rfl
  intro g' L' h' FG' F' N' B' X' T'
  clear B F X N T
  (try k_fold)
  k_steps
  all_goals first
    | exact (bne_contra hwk (by assumption)).elim
    | exact hE (by assumption) (Or.inl (of_decide_eq_true (by assumption))) _ _ _ (ErrAt.mk' FG' (by assumption) (by assumption) (by assumption) (fun p hp => .tail _ (.tail _ (.tail _ hp))))
    | exact hE (by assumption) (Or.inr (by assumption)) _ _ _ (ErrAt.mk' FG' (by assumption) (by assumption) (by assumption) (fun p hp => .tail _ (.tail _ (.tail _ hp))))
    | exact h (fun q => by rcases q.2 with z | z <;> simp_all) _ _ _ _ _ _ _ (by assumption) (by assumption) (by assumption) (by assumption) (by assumption)
    | exact h (fun q => by simp_all) _ _ _ _ _ _ _ (by assumption) (by assumption) (by assumption) (by assumption) (by assumption)
end

end
section
theorem news_rot3 {h₀ h : Heap} {L : Addr} {p q r : Addr × Obj} {l : List (Addr × Obj)} (N : News h₀ L h (p :: q :: r :: l)) : News h₀ L h (r :: p :: q :: l) := news_sub N fun x hx => by
  simp only [List.mem_cons] at hx ⊢
  rcases hx with z | z | z | z
  · exact Or.inr (Or.inr (Or.inl z))
  · exact Or.inl z
  · exact Or.inr (Or.inl z)
  · exact Or.inr (Or.inr (Or.inr z))
theorem lay_off {x d l : Nat} {o : Obj} {news : List (Addr × Obj)} (h : x < l ∧ d < l ∧ AllLt l news) : ∀ p ∈ (x, o) :: news, p.1 ≠ l := fun p hp => by
  rcases List.mem_cons.mp hp with rfl | hp
  · exact Nat.ne_of_lt h.1
  · exact all_ne_of_allLt h.2.2 p hp
section
variable {w : World} {mean : ExcName → Option Value} {mg mb : Str → Option Value} {A A₀ : Around} {base h₀ : Heap} {outer : List Env} {env : Env} {L : Addr} {m : Str → Option Value} {s : Shared}
    {Q : Value → Shared → Prop} {E : Value → Shared → Prop}
variable {W : List (Addr × Obj)} {la dx a d wl stk : Addr} {wb : WB} {ep : Nat} {vs : List Value} {ns : List Int} {k0 k1 k2 k3 k4 k5 k6 k7 : Int} {t0 t1 t2 t3 t4 t5 t6 t7 pt : Tok} {pos : Int} {shown : Value} {op em fo al : Bool}

set_option maxRecDepth 100000 in
set_option maxHeartbeats 4000000 in
theorem cbe_virt {x xd : Addr} {vb : WB} {tv : Tok} (C : Cx w mean mg mb A A₀ base h₀ outer env L m s.heap) (hdep : A.depth < 830) (hun : A.units < 7600) (N : News h₀ L s.heap ((dx, dictOf [⟨k0, .str (Str.ofString "words") t0, .ref wl⟩, ⟨k1, .str (Str.ofString "at") t1, .int pos pt⟩, ⟨k2, .str (Str.ofString "stack") t2, .ref stk⟩, ⟨k3, .str (Str.ofString "shown") t3, .ref x⟩, ⟨k4, .str (Str.ofString "is_opening") t4, .bool op⟩, ⟨k5, .str (Str.ofString "is_empty") t5, .bool em⟩, ⟨k6, .str (Str.ofString "is_forced") t6, .bool fo⟩, ⟨k7, .str (Str.ofString "is_aligned") t7, .bool al⟩] 8) :: (stk, listOf vs.toArray ep) :: W))
    (hla : (la, instObj 185 dx) ∈ W) (hxa : (x, instObj 79 xd) ∈ W) (hxd : (xd, wordD vb) ∈ W) (hvk : vb.kind = Str.ofString "special") (hvv : vb.value = .str (Str.ofString "virtual") tv)
    (h : ∀ h' tk, Fr h₀ L h' m → News h₀ L h' ((dx, dictOf [⟨k0, .str (Str.ofString "words") t0, .ref wl⟩, ⟨k1, .str (Str.ofString "at") t1, .int pos pt⟩, ⟨k2, .str (Str.ofString "stack") t2, .ref stk⟩, ⟨k3, .str (Str.ofString "shown") t3, .ref x⟩, ⟨k4, .str (Str.ofString "is_opening") t4, .bool op⟩, ⟨k5, .str (Str.ofString "is_empty") t5, .bool em⟩, ⟨k6, .str (Str.ofString "is_forced") t6, .bool fo⟩, ⟨k7, .str (Str.ofString "is_aligned") t7, .bool al⟩] 8) :: (stk, listOf vs.toArray ep) :: W) → Q (.bool false) { s with heap := h', toks := tk }) :
    wpAny (model PySem.Challenge.rw_og0002_01.row.prog w) A (call (.ref 140) [.ref la] []) Q E s := by
  obtain ⟨B, F, X, T, hfr, hloc, hkd, hha⟩ := C
  have _ : Mine.hd.heap_1 w.params = Mine.hd.heap_1 w.params ∧ PySem.Challenge.rw_og0002_01 = PySem.Challenge.rw_og0002_01 := by
    w_top off
    k_fill
    exact ⟨rfl, rfl⟩
  refine wpAny_call ?_
  refine' code_def (binds := [(Str.ofString "self", .ref la)]) B F X N T hfr hloc hkd ?k6 ?k7 ?k8 ?k9 ?kB ?_ ?c2 ?c3 ?c4 ?c5
  case k6 => k_is
  case k7 => k_is
  case k8 => exact Nat.lt_of_lt_of_le hdep (by decide)
  case k9 => first | exact BindsTo.of_eq rfl | exact binds_K (by k_in) rfl (by k_is) rfl rfl rfl
  case c5 => decide
  case kB => exact locs rfl
  case c2 => exact rfl
  case c3 => exact rfl
  case c4 => exact rfl
  intro g' L' h' FG' F' N' B' X' T'
  clear B F X N T
  (try k_fold)
  k_steps
  all_goals first
    | exact h _ _ (by assumption) (by assumption)
set_option maxRecDepth 100000 in
set_option maxHeartbeats 4000000 in
theorem cbe_word (C : Cx w mean mg mb A A₀ base h₀ outer env L m s.heap) (hdep : A.depth < 830) (hun : A.units < 7600) (N : News h₀ L s.heap ((dx, dictOf [⟨k0, .str (Str.ofString "words") t0, .ref wl⟩, ⟨k1, .str (Str.ofString "at") t1, .int pos pt⟩, ⟨k2, .str (Str.ofString "stack") t2, .ref stk⟩, ⟨k3, .str (Str.ofString "shown") t3, .ref a⟩, ⟨k4, .str (Str.ofString "is_opening") t4, .bool op⟩, ⟨k5, .str (Str.ofString "is_empty") t5, .bool em⟩, ⟨k6, .str (Str.ofString "is_forced") t6, .bool fo⟩, ⟨k7, .str (Str.ofString "is_aligned") t7, .bool al⟩] 8) :: (stk, listOf vs.toArray ep) :: W))
    (hla : (la, instObj 185 dx) ∈ W) (hwa : (a, instObj 79 d) ∈ W) (hwd : (d, wordD wb) ∈ W) (hwv : wb.value = .none)
    (hi : IntsAre vs ns) (hlen : vs.length ≤ 1000) (hne : @Ne Nat dx stk) (hdW : ∀ p ∈ W, p.1 ≠ dx) (hsW : ∀ p ∈ W, p.1 ≠ stk)
    (h1 : ns.getLastD 0 = 0 → ∀ h' tk, Fr h₀ L h' m → News h₀ L h' ((dx, dictOf [⟨k0, .str (Str.ofString "words") t0, .ref wl⟩, ⟨k1, .str (Str.ofString "at") t1, .int pos pt⟩, ⟨k2, .str (Str.ofString "stack") t2, .ref stk⟩, ⟨k3, .str (Str.ofString "shown") t3, .ref a⟩, ⟨k4, .str (Str.ofString "is_opening") t4, .bool op⟩, ⟨k5, .str (Str.ofString "is_empty") t5, .bool em⟩, ⟨k6, .str (Str.ofString "is_forced") t6, .bool fo⟩, ⟨k7, .str (Str.ofString "is_aligned") t7, .bool al⟩] 8) :: (stk, listOf vs.toArray ep) :: W) → Q (.bool false) { s with heap := h', toks := tk })
    (h2 : ns.getLastD 0 ≠ 0 → ∀ h' tk vs' ep', Fr h₀ L h' m → News h₀ L h' ((dx, dictOf [⟨k0, .str (Str.ofString "words") t0, .ref wl⟩, ⟨k1, .str (Str.ofString "at") t1, .int pos pt⟩, ⟨k2, .str (Str.ofString "stack") t2, .ref stk⟩, ⟨k3, .str (Str.ofString "shown") t3, .ref a⟩, ⟨k4, .str (Str.ofString "is_opening") t4, .bool op⟩, ⟨k5, .str (Str.ofString "is_empty") t5, .bool em⟩, ⟨k6, .str (Str.ofString "is_forced") t6, .bool fo⟩, ⟨k7, .str (Str.ofString "is_aligned") t7, .bool al⟩] 8) :: (stk, listOf vs'.toArray ep') :: W) → IntsAre vs' ns.dropLast → Q (.bool true) { s with heap := h', toks := tk }) :
    wpAny (model PySem.Challenge.rw_og0002_01.row.prog w) A (call (.ref 140) [.ref la] []) Q E s := by
  obtain ⟨B, F, X, T, hfr, hloc, hkd, hha⟩ := C
  have _ : Mine.hd.heap_1 w.params = Mine.hd.heap_1 w.params ∧ PySem.Challenge.rw_og0002_01 = PySem.Challenge.rw_og0002_01 := by
    w_top off
    k_fill
    exact ⟨rfl, rfl⟩
  refine wpAny_call ?_
  refine' code_def (binds := [(Str.ofString "self", .ref la)]) B F X N T hfr hloc hkd ?k6 ?k7 ?k8 ?k9 ?kB ?_ ?c2 ?c3 ?c4 ?c5
  case k6 => k_is
  case k7 => k_is
  case k8 => exact Nat.lt_of_lt_of_le hdep (by decide)
  case k9 => first | exact BindsTo.of_eq rfl | exact binds_K (by k_in) rfl (by k_is) rfl rfl rfl
  case c5 => decide
  case kB => exact locs rfl
  case c2 => exact rfl
  case c3 => exact rfl
  case c4 => exact rfl
  intro g' L' h' FG' F' N' B' X' T'
  clear B F X N T
  (try k_fold)
  k_steps
  all_goals first
    | exact h1 (by assumption) _ _ (by assumption) (by assumption)
    | exact h2 (by assumption) _ _ _ _ (by assumption) (by assumption) (by assumption)
set_option maxRecDepth 100000 in
set_option maxHeartbeats 4000000 in
theorem lay_make {news : List (Addr × Obj)} {wvs : List Value} {epw : Nat} {b0 : WB} (C : Cx w mean mg mb A A₀ base h₀ outer env L m s.heap) (hdep : A.depth < 830) (N : News h₀ L s.heap news)
    (hwl : (wl, listOf wvs.toArray epw) ∈ news) (hx : wvs.toArray[(0 : Int).toNat]? = some (.ref a)) (hwa : (a, instObj 79 d) ∈ news) (hwd : (d, wordD b0) ∈ news)
    (h : ∀ h' tk la dx stk k0 k1 k2 k3 k4 k5 k6 k7 t0 t1 t2 t3 t4 t5 t6 t7 pt, Fr h₀ L h' m → News h₀ L h' ((dx, dictOf [⟨k0, .str (Str.ofString "words") t0, .ref wl⟩, ⟨k1, .str (Str.ofString "at") t1, .int 0 pt⟩, ⟨k2, .str (Str.ofString "stack") t2, .ref stk⟩, ⟨k3, .str (Str.ofString "shown") t3, .none⟩, ⟨k4, .str (Str.ofString "is_opening") t4, .bool (!(b0.kind == Str.ofString "special" && b0.text == Str.ofString "{") && !(b0.kind == Str.ofString "key" && b0.text == Str.ofString "module"))⟩, ⟨k5, .str (Str.ofString "is_empty") t5, .bool false⟩, ⟨k6, .str (Str.ofString "is_forced") t6, .bool false⟩, ⟨k7, .str (Str.ofString "is_aligned") t7, .bool false⟩] 8) :: (stk, listOf ([] : List Value).toArray 0) :: (la, instObj 185 dx) :: news) →
      @Ne Nat dx stk → (∀ p ∈ (la, instObj 185 dx) :: news, p.1 ≠ dx) → (∀ p ∈ (la, instObj 185 dx) :: news, p.1 ≠ stk) → Q (.ref la) { s with heap := h', toks := tk }) :
    wpAny (model PySem.Challenge.rw_og0002_01.row.prog w) A (call (.ref 185) [.ref wl] []) Q E s := by
  obtain ⟨B, F, X, T, hfr, hloc, hkd, hha⟩ := C
  have _ : Mine.hd.heap_1 w.params = Mine.hd.heap_1 w.params ∧ PySem.Challenge.rw_og0002_01 = PySem.Challenge.rw_og0002_01 := by
    w_top off
    k_fill
    exact ⟨rfl, rfl⟩
  refine' call_cls F X N ?k4 ?k5 ?k6 ?_
  case k4 => k_is
  case k5 => k_is
  case k6 => k_is
  intro x' d' h' F' N' l1 l2
  have hl0 := l1
  k_lt2 l2
  refine' code_def (binds := [(Str.ofString "self", .ref x'), (Str.ofString "words", .ref wl)]) B F' X N' T hfr hloc hkd ?k6 ?k7 ?k8 ?k9 ?kB ?_ ?c2 ?c3 ?c4 ?c5
  case k6 => k_is
  case k7 => k_is
  case k8 => k_room
  case k9 => first | exact BindsTo.of_eq rfl | exact binds_K (by k_in) rfl (by k_is) rfl rfl rfl
  case c5 => decide
  case kB => exact locs rfl
  case c2 => exact rfl
  case c3 => exact rfl
  case c4 => exact rfl
  clear F N F' N'
  have hz0 : (0 : Int) ≤ 0 := by decide
  have hz1 : (0 : Int) < 1000 := by decide
  intro g' L' h' FG' F' N' B' X' T'
  clear B X T
  (try k_fold)
  k_steps
  all_goals
    refine ⟨rfl, ?_⟩
    (rename (_ < _ ∧ _ < _ ∧ _) => hL3)
    have hne : @Ne Nat d' _ := Nat.ne_of_lt hL3.2.1
    have hd1 : ∀ p ∈ (x', instObj 185 d') :: news, p.1 ≠ d' := fun p hp => by
      rcases List.mem_cons.mp hp with rfl | hp
      · exact Nat.ne_of_gt l2
      · exact Nat.ne_of_lt (hl0 p hp)
  · rename (_ && _) = true => hq
    rw [show (!(b0.kind == Str.ofString "special" && b0.text == Str.ofString "{") && !(b0.kind == Str.ofString "key" && b0.text == Str.ofString "module")) = !(b0.kind == Str.ofString "special" && b0.text == Str.ofString "{") by rw [hq]; rfl] at h
    exact h _ _ _ _ _ _ _ _ _ _ _ _ _ _ _ _ _ _ _ _ _ _ (by assumption) (news_rot3 (by assumption)) hne hd1 (lay_off hL3)
  · rename (_ && _) = false => hq
    rw [show (!(b0.kind == Str.ofString "special" && b0.text == Str.ofString "{") && !(b0.kind == Str.ofString "key" && b0.text == Str.ofString "module")) = !(b0.kind == Str.ofString "key" && b0.text == Str.ofString "module") by rw [hq]; rfl] at h
    exact h _ _ _ _ _ _ _ _ _ _ _ _ _ _ _ _ _ _ _ _ _ _ (by assumption) (news_rot3 (by assumption)) hne hd1 (lay_off hL3)
end

end
section
/-- what a turn's end hands on: the frame, the ledger with the iterator at its head, the word -/
def TurnP (h₀ : Heap) (L : Addr) (J : (Str → Option Value) → List (Addr × Obj) → Prop) (it : Addr) (o : Obj) (s : Shared) (Q : Flow → Shared → Prop) (f : Flow) (s₂ : Shared) : Prop :=
  match f with
  | .ret v => Q (.ret v) s₂
  | .brk => Q .next s₂
  | _ => ∃ h' tk m' nx, s₂ = { s with heap := h', toks := tk } ∧ Fr h₀ L h' m' ∧ News h₀ L h' ((it, o) :: nx) ∧ (∀ p ∈ nx, p.1 ≠ it) ∧ J m' nx
theorem TurnP.go {h₀ : Heap} {L : Addr} {J : (Str → Option Value) → List (Addr × Obj) → Prop} {it : Addr} {o : Obj} {s : Shared} {h' : Heap} {tk : Nat} {m' : Str → Option Value} {nx : List (Addr × Obj)}
    (F : Fr h₀ L h' m') (N : News h₀ L h' ((it, o) :: nx)) (hn : ∀ p ∈ nx, p.1 ≠ it) (j : J m' nx) :
    ∃ h₁ tk₁ m₁ nx₁, ({ s with heap := h', toks := tk } : Shared) = { s with heap := h₁, toks := tk₁ } ∧ Fr h₀ L h₁ m₁ ∧ News h₀ L h₁ ((it, o) :: nx₁) ∧ (∀ p ∈ nx₁, p.1 ≠ it) ∧ J m₁ nx₁ := ⟨h', tk, m', nx, rfl, F, N, hn, j⟩

theorem fr_but {h₀ h h' : Heap} {L b : Addr} {m : Str → Option Value} (F : Fr h₀ L h m) (hs : Heap.ExtBut b h h') (h1 : b ≠ L) (h2 : h₀.get? b = none) : Fr h₀ L h' m := by
  obtain ⟨oL, es, ep, hL, r⟩ := F.ns
  refine ⟨⟨oL, es, ep, hs L oL (Ne.symm h1) hL, r⟩, fun c o e => hs c o (fun q => ?_) (F.keep c o e), F.above⟩
  rw [q, h2] at e; cases e
theorem news_but {h₀ h h' : Heap} {L b : Addr} {l : List (Addr × Obj)} (N : News h₀ L h l) (hs : Heap.ExtBut b h h') (hn : ∀ p ∈ l, p.1 ≠ b) : News h₀ L h' l := fun p hp => ⟨hs p.1 p.2 (hn p hp) (N p hp).1, (N p hp).2⟩

section
variable {prog : Program} {w : World} {A : Around} {E : Value → Shared → Prop} {s : Shared} {env : Env} {h₀ : Heap} {m₀ : Str → Option Value} {news : List (Addr × Obj)} {body : List Stmt} {Q : Flow → Shared → Prop}

theorem rng_loop {r : Addr} {a b : Int} {t u v : Tok} {x : Str} {px : Pos} {n : Nat} (J : Nat → (Str → Option Value) → List (Addr × Obj) → Prop) (hh : A.handled = none) (hx : env.kindOf x = some .local)
    (hp : (env.scope.kind == .class || (env.scope.kind == .module && env.locals != env.globals)) = false) (hr : IsRange s.heap r a b 1 t u v) (hsmall : Builtin.Range.small a b 1 = true) (hsz : Builtin.Range.rangeSize a b 1 = (n : Int))
    (F : Fr h₀ env.locals s.heap m₀) (N : News h₀ env.locals s.heap news) (hj : J 0 m₀ news)
    (turn : ∀ i m₁ nx h tk tk' it o, i < n → J i m₁ nx → Fr h₀ env.locals h (fun y => if y = x then some (.int (a + i) tk') else m₁ y) → News h₀ env.locals h ((it, o) :: nx) → (∀ p ∈ nx, p.1 ≠ it) →
      wpAny (model prog w) A (execs body env) (TurnP h₀ env.locals (J (i + 1)) it o { s with heap := h, toks := tk } Q) E { s with heap := h, toks := tk })
    (done : ∀ m₁ nx h tk, J n m₁ nx → Fr h₀ env.locals h m₁ → News h₀ env.locals h nx → Q .next { s with heap := h, toks := tk })
    (hE : PassesOwn (model prog w) A env E) :
    wpAny (model prog w) A (pyIter (.ref r)) (fun it s₂ => codeAny (model prog w) A (.forLoop (.Name x px) it body [] env) (fun r s' => match r with | .ok f => Q f s' | .error e => cameBackBy (model prog w) A env E e s') s₂) E s := by
  refine wpAny_pyIter_range hr hsmall ?_
  rw [hsz]
  have hit0 : h₀.get? s.heap.objs.size = none := none_at_size F
  have hL0 : s.heap.objs.size ≠ env.locals := Nat.ne_of_gt F.ns.lt
  refine codeAny_forLoop (fun k s' => ∃ i m nx h tk, s' = { s with heap := h, toks := tk } ∧ k = n - i ∧ i ≤ n ∧ Fr h₀ env.locals h m ∧ News h₀ env.locals h nx ∧ (∀ p ∈ nx, p.1 ≠ s.heap.objs.size) ∧
    IsRangeIter h s.heap.objs.size (a + i) ((n : Int) - i) 1 ∧ J i m nx) ?_ n ⟨0, m₀, news, _, s.toks, rfl, (Nat.sub_zero n).symm, Nat.zero_le _, F.push _, fun p hp' => ⟨Heap.get?_push_of_some _ (N p hp').1, (N p hp').2⟩, fun p hp' => Nat.ne_of_lt (Heap.lt_size (N p hp').1), ?_, hj⟩
  · rintro k s' ⟨i, m, nx, h, tk, rfl, rfl, hi, F₁, N₁, hoff, hit, hJ⟩
    by_cases hin : i < n
    · refine wpAny_pyNext_range_item hit (by omega) fun h' hit' hs => ?_
      have F₂ : Fr h₀ env.locals h' m := fr_but F₁ hs.extBut hL0 hit0
      have N₂ : News h₀ env.locals h' nx := news_but N₁ hs.extBut hoff
      refine wpAny_assign_Name (wpAny_mono (wpAny_storeName_local hx F₂.ns (fun h'' hn hs' => ?_) hp) (fun _ s₂ z => z) fun _ _ z => z)
      have F₃ := F₂.set hn hs'
      have N₃ : News h₀ env.locals h'' ((s.heap.objs.size, { cls := .type "range_iterator", dict := none, data := .fields #[rawInt (a + i + 1), rawInt ((n : Int) - i - 1), rawInt 1], slots := #[] }) :: nx) := fun p hp' => by
        rcases List.mem_cons.mp hp' with rfl | hp'
        · exact ⟨(hs'.2 _ hL0).trans hit', hL0, hit0⟩
        · exact ⟨(hs'.2 _ (N₂ p hp').2.1).trans (N₂ p hp').1, (N₂ p hp').2⟩
      refine wpAny_mono (turn i m nx h'' _ _ s.heap.objs.size _ hin hJ F₃ N₃ hoff) (fun f s₂ z => ?_) hE
      have nxt : (∃ h₁ tk₁ m₁ nx₁, s₂ = { s with heap := h₁, toks := tk₁ } ∧ Fr h₀ env.locals h₁ m₁ ∧ News h₀ env.locals h₁ ((s.heap.objs.size, ({ cls := .type "range_iterator", dict := none, data := .fields #[rawInt (a + i + 1), rawInt ((n : Int) - i - 1), rawInt 1], slots := #[] } : Obj)) :: nx₁) ∧ (∀ p ∈ nx₁, p.1 ≠ s.heap.objs.size) ∧ J (i + 1) m₁ nx₁) →
          ∃ k', k' < n - i ∧ ∃ i m nx h tk, s₂ = { s with heap := h, toks := tk } ∧ k' = n - i ∧ i ≤ n ∧ Fr h₀ env.locals h m ∧ News h₀ env.locals h nx ∧ (∀ p ∈ nx, p.1 ≠ s.heap.objs.size) ∧ IsRangeIter h s.heap.objs.size (a + i) ((n : Int) - i) 1 ∧ J i m nx := by
        rintro ⟨h₁, tk₁, m₁, nx₁, rfl, F', N', hn', J'⟩
        refine ⟨n - (i + 1), by omega, i + 1, m₁, nx₁, h₁, tk₁, rfl, rfl, hin, F', news_tail N', hn', ?_, J'⟩
        have e1 : a + ((i + 1 : Nat) : Int) = a + i + 1 := by omega
        have e2 : (n : Int) - ((i + 1 : Nat) : Int) = (n : Int) - i - 1 := by omega
        rw [e1, e2]
        exact (N' _ (.head _)).1
      cases f with
      | ret v => exact z
      | brk => exact z
      | next => exact nxt z
      | cont => exact nxt z
    · refine wpAny_pyNext_range_end hh hit (by omega) fun h' he => ?_
      have hi' : i = n := by omega
      subst hi'
      exact wpAny_execs_nil (done m nx h' _ hJ (fr_but F₁ he hL0 hit0) (news_but N₁ he hoff))
  · show Heap.get? _ _ = _
    rw [Heap.get?_push_size _ rfl]
    simp
end

/-- a row of the law's: what a word is made of -/
structure Row where
  text : Str
  line : Int
  col : Int
  first : Bool

abbrev rowO (r : Row) (tt lt ct : Tok) (ep : Nat) : Obj := ⟨.type "tuple", none, .seq #[.str r.text tt, .int r.line lt, .int r.col ct, .bool r.first] ep, #[]⟩

/-- the values are the rows' tuples, on the ledger -/
inductive RowsAre (nx : List (Addr × Obj)) : List Value → List Row → Prop
  | nil : RowsAre nx [] []
  | cons {a : Addr} {r : Row} {tt lt ct : Tok} {ep : Nat} {vs : List Value} {rs : List Row} : (a, rowO r tt lt ct ep) ∈ nx → RowsAre nx vs rs → RowsAre nx (.ref a :: vs) (r :: rs)
theorem RowsAre.mono {nx nx' : List (Addr × Obj)} (hs : ∀ p ∈ nx, p ∈ nx') : ∀ {vs : List Value} {rs : List Row}, RowsAre nx vs rs → RowsAre nx' vs rs
  | _, _, .nil => .nil
  | _, _, .cons h r => .cons (hs _ h) (r.mono hs)
theorem RowsAre.length {nx : List (Addr × Obj)} : ∀ {vs : List Value} {rs : List Row}, RowsAre nx vs rs → vs.length = rs.length
  | _, _, .nil => rfl
  | _, _, .cons _ r => congrArg (· + 1) r.length
theorem RowsAre.get {nx : List (Addr × Obj)} : ∀ {vs : List Value} {rs : List Row}, RowsAre nx vs rs → ∀ {i : Nat} {r : Row}, rs[i]? = some r → ∃ a tt lt ct ep, vs[i]? = some (.ref a) ∧ (a, rowO r tt lt ct ep) ∈ nx
  | _, _, .nil, i, r, h => by simp at h
  | _, _, .cons hm _, 0, r, h => by
    simp only [List.getElem?_cons_zero, Option.some.injEq] at h
    subst h
    exact ⟨_, _, _, _, _, rfl, hm⟩
  | _, _, .cons _ q, i + 1, r, h => by
    rw [List.getElem?_cons_succ] at h ⊢
    exact q.get h
theorem RowsAre.append {nx : List (Addr × Obj)} : ∀ {vs us : List Value} {rs qs : List Row}, RowsAre nx vs rs → RowsAre nx us qs → RowsAre nx (vs ++ us) (rs ++ qs)
  | _, _, _, _, .nil, h => h
  | _, _, _, _, .cons hm r, h => .cons hm (r.append h)

section
variable {prog : Program} {w : World} {A : Around} {E : Value → Shared → Prop} {s : Shared} {env : Env} {h₀ : Heap} {m₀ : Str → Option Value} {news : List (Addr × Obj)} {body : List Stmt} {Q : Flow → Shared → Prop}

theorem row_loop {l : Addr} {vs : List Value} {rs : List Row} {nn : Nat} {x1 x2 x3 x4 : Str} {p1 p2 p3 p4 px : Pos} {kk : Nat} (J : Nat → (Str → Option Value) → List (Addr × Obj) → Prop) (hh : A.handled = none)
    (k1 : env.kindOf x1 = some .local) (k2 : env.kindOf x2 = some .local) (k3 : env.kindOf x3 = some .local) (k4 : env.kindOf x4 = some .local)
    (hp : (env.scope.kind == .class || (env.scope.kind == .module && env.locals != env.globals)) = false)
    (hJ : ∀ i m nx, J i m nx → (l, listOf vs.toArray nn) ∈ nx ∧ RowsAre nx vs rs)
    (F : Fr h₀ env.locals s.heap m₀) (N : News h₀ env.locals s.heap news) (hj : J 0 m₀ news)
    (turn : ∀ i r tt lt ct m₁ nx h tk it o, rs[i]? = some r → J i m₁ nx →
      Fr h₀ env.locals h (fun y => if y = x4 then some (.bool r.first) else if y = x3 then some (.int r.col ct) else if y = x2 then some (.int r.line lt) else if y = x1 then some (.str r.text tt) else m₁ y) →
      News h₀ env.locals h ((it, o) :: nx) → (∀ p ∈ nx, p.1 ≠ it) →
      wpAny (model prog w) A (execs body env) (TurnP h₀ env.locals (J (i + 1)) it o { s with heap := h, toks := tk } Q) E { s with heap := h, toks := tk })
    (done : ∀ m₁ nx h tk, J rs.length m₁ nx → Fr h₀ env.locals h m₁ → News h₀ env.locals h nx → Q .next { s with heap := h, toks := tk })
    (hE : PassesOwn (model prog w) A env E) :
    wpAny (model prog w) A (pyIter (.ref l)) (fun it s₂ => codeAny (model prog w) A (.forLoop (.Tuple [.Name x1 p1, .Name x2 p2, .Name x3 p3, .Name x4 p4] kk px) it body [] env) (fun r s' => match r with | .ok f => Q f s' | .error e => cameBackBy (model prog w) A env E e s') s₂) E s := by
  have hl0 := (N _ (hJ _ _ _ hj).1)
  refine wpAny_pyIter_list ⟨_, hl0.1, rfl, nn, rfl⟩ ?_
  have hit0 : h₀.get? s.heap.objs.size = none := none_at_size F
  have hL0 : s.heap.objs.size ≠ env.locals := Nat.ne_of_gt F.ns.lt
  have hlen := (hJ _ _ _ hj).2.length
  refine codeAny_forLoop_any (fun k s' => ∃ i m nx h tk, s' = { s with heap := h, toks := tk } ∧ k = rs.length - i ∧ i ≤ rs.length ∧ Fr h₀ env.locals h m ∧ News h₀ env.locals h nx ∧ (∀ p ∈ nx, p.1 ≠ s.heap.objs.size) ∧
    h.IsListIter s.heap.objs.size l i ∧ J i m nx) ?_ rs.length ⟨0, m₀, news, _, s.toks, rfl, (Nat.sub_zero _).symm, Nat.zero_le _, F.push _, fun p hp' => ⟨Heap.get?_push_of_some _ (N p hp').1, (N p hp').2⟩, fun p hp' => Nat.ne_of_lt (Heap.lt_size (N p hp').1), ⟨_, Heap.get?_push_size _ rfl, rfl, rfl⟩, hj⟩
  rintro k s' ⟨i, m, nx, h, tk, rfl, rfl, hi, F₁, N₁, hoff, hit, hJi⟩
  obtain ⟨hlm, hra⟩ := hJ _ _ _ hJi
  have hls : h.IsList l vs.toArray := ⟨_, (N₁ _ hlm).1, rfl, nn, rfl⟩
  by_cases hin : i < rs.length
  · obtain ⟨r, hr⟩ : ∃ r, rs[i]? = some r := ⟨rs[i], by simp [hin]⟩
    obtain ⟨a, tt, lt, ct, ep, hv, hm⟩ := hra.get hr
    refine wpAny_pyNext_list_item hit hls (x := .ref a) (by simpa using hv) fun h' hit' hs => ?_
    have F₂ : Fr h₀ env.locals h' m := fr_but F₁ hs.extBut hL0 hit0
    have N₂ : News h₀ env.locals h' nx := news_but N₁ hs.extBut hoff
    obtain ⟨oit, hoit, hcit, hdit⟩ := hit'
    have hlo : wpAny (model prog w) A (letOwnedTupleGo (.Tuple [.Name x1 p1, .Name x2 p2, .Name x3 p3, .Name x4 p4] kk px) (.ref s.heap.objs.size) (.ref a)) (fun _ s₁ => s₁ = { s with heap := h', toks := tk }) (fun _ _ => False) { s with heap := h', toks := tk } := by
      unfold letOwnedTupleGo
      dsimp only
      refine wpAny_bind (wpAny_load hoit ?_)
      rw [hcit, hdit]
      dsimp only
      rw [if_neg (by rw [show (["enumerate", "zip", "dict_itemiterator", "dict_reverseitemiterator", "odict_iterator", "itertools.zip_longest", "itertools.pairwise"].contains "list_iterator") = false by decide +kernel]; simp)]
      exact wpAny_pure rfl
    refine wpAny_mono hlo (fun _ s₁ z => ?_) fun _ _ z => z.elim
    subst z
    have N₂' : News h₀ env.locals h' ((s.heap.objs.size, oit) :: nx) := fun p hp' => by
      rcases List.mem_cons.mp hp' with rfl | hp'
      · exact ⟨hoit, hL0, hit0⟩
      · exact N₂ p hp'
    refine assign_Tuple_tuple hh (items := #[.str r.text tt, .int r.line lt, .int r.col ct, .bool r.first]) ⟨_, (N₂ _ hm).1, rfl, ep, rfl⟩ rfl rfl fun h₂ he => ?_
    have F₃ : Fr h₀ env.locals h₂ m := fr_but F₂ he (Nat.ne_of_gt F₂.ns.lt) (none_at_size F₂)
    have N₃ : News h₀ env.locals h₂ ((s.heap.objs.size, oit) :: nx) := news_but N₂' he fun p hp' => Nat.ne_of_lt (Heap.lt_size (N₂' p hp').1)
    show wpAny _ _ (assignInOrder [assign (.Name x1 p1) env, assign (.Name x2 p2) env, assign (.Name x3 p3) env, assign (.Name x4 p4) env] [.str r.text tt, .int r.line lt, .int r.col ct, .bool r.first]) _ _ _
    refine wpAny_bind (wpAny_holding (wpAny_assign_Name (wpAny_storeName_local k1 F₃.ns (fun h₃ hn₃ hs₃ => ?_) hp)))
    have F₄ := F₃.set hn₃ hs₃
    refine wpAny_bind (wpAny_holding (wpAny_assign_Name (wpAny_storeName_local k2 F₄.ns (fun h₄ hn₄ hs₄ => ?_) hp)))
    have F₅ := F₄.set hn₄ hs₄
    refine wpAny_bind (wpAny_holding (wpAny_assign_Name (wpAny_storeName_local k3 F₅.ns (fun h₅ hn₅ hs₅ => ?_) hp)))
    have F₆ := F₅.set hn₅ hs₅
    refine wpAny_bind (wpAny_holding (wpAny_assign_Name (wpAny_storeName_local k4 F₆.ns (fun h₆ hn₆ hs₆ => ?_) hp)))
    have F₇ := F₆.set hn₆ hs₆
    have N₇ := (((N₃.set hs₃).set hs₄).set hs₅).set hs₆
    refine wpAny_pure (wpAny_mono (turn i r tt lt ct m nx h₆ _ s.heap.objs.size oit hr hJi F₇ N₇ hoff) (fun f s₂ z => ?_) hE)
    have nxt : (∃ h₁ tk₁ m₁ nx₁, s₂ = { s with heap := h₁, toks := tk₁ } ∧ Fr h₀ env.locals h₁ m₁ ∧ News h₀ env.locals h₁ ((s.heap.objs.size, oit) :: nx₁) ∧ (∀ p ∈ nx₁, p.1 ≠ s.heap.objs.size) ∧ J (i + 1) m₁ nx₁) →
        ∃ k', k' < rs.length - i ∧ ∃ i m nx h tk, s₂ = { s with heap := h, toks := tk } ∧ k' = rs.length - i ∧ i ≤ rs.length ∧ Fr h₀ env.locals h m ∧ News h₀ env.locals h nx ∧ (∀ p ∈ nx, p.1 ≠ s.heap.objs.size) ∧ h.IsListIter s.heap.objs.size l i ∧ J i m nx := by
      rintro ⟨h₁, tk₁, m₁, nx₁, rfl, F', N', hn', J'⟩
      exact ⟨rs.length - (i + 1), by omega, i + 1, m₁, nx₁, h₁, tk₁, rfl, rfl, hin, F', news_tail N', hn', ⟨oit, (N' _ (.head _)).1, hcit, hdit⟩, J'⟩
    cases f with
    | ret v => exact z
    | brk => exact z
    | next => exact nxt z
    | cont => exact nxt z
  · have hi' : i = rs.length := by omega
    subst hi'
    refine wpAny_pyNext_list_end hh hit hls (by simp [hlen]) fun h' he => ?_
    exact wpAny_execs_nil (done m nx h' _ hJi (fr_but F₁ he hL0 hit0) (news_but N₁ he hoff))
end

end
section
/-- the kind of a word of the law's, by its text -/
def kindT (t : Str) : Str :=
  if (!(Builtin.Str.occurrences (Str.ofString "{};)") t 0 (Str.ofString "{};)").length 1).isEmpty) = true then Str.ofString "special"
  else if ([Str.ofString "let", Str.ofString "do", Str.ofString "of", Str.ofString "where"].any (· == t)) = true then Str.ofString "key" else Str.ofString "var"
structure WordIs (r : Row) (wb : WB) : Prop where
  kind : wb.kind = kindT r.text
  text : wb.text = r.text
  col : wb.col = r.col
  first : wb.first = r.first
  value : wb.value = .none
structure EndIs (wb : WB) : Prop where
  kind : wb.kind = Str.ofString "end"
  text : wb.text = Str.ofString ""
  first : wb.first = true
  value : wb.value = .none
def WordAt (W : List (Addr × Obj)) (v : Value) (P : WB → Prop) : Prop := ∃ a d wb, v = .ref a ∧ (a, instObj 79 d) ∈ W ∧ (d, wordD wb) ∈ W ∧ P wb
def WordsAre (W : List (Addr × Obj)) (vs : List Value) (rs : List Row) : Prop := vs.length = rs.length ∧ ∀ (i : Nat) (r : Row), rs[i]? = some r → ∃ v, vs[i]? = some v ∧ WordAt W v (WordIs r)
theorem WordAt.mono {W W' : List (Addr × Obj)} {v : Value} {P : WB → Prop} (h : WordAt W v P) (hs : ∀ p ∈ W, p ∈ W') : WordAt W' v P := let ⟨a, d, wb, e, h1, h2, h3⟩ := h; ⟨a, d, wb, e, hs _ h1, hs _ h2, h3⟩
theorem WordsAre.mono {W W' : List (Addr × Obj)} {vs : List Value} {rs : List Row} (h : WordsAre W vs rs) (hs : ∀ p ∈ W, p ∈ W') : WordsAre W' vs rs := ⟨h.1, fun i r e => let ⟨v, h1, h2⟩ := h.2 i r e; ⟨v, h1, h2.mono hs⟩⟩
theorem WordsAre.snoc {W : List (Addr × Obj)} {vs : List Value} {rs : List Row} {v : Value} {r : Row} (h : WordsAre W vs rs) (hv : WordAt W v (WordIs r)) : WordsAre W (vs ++ [v]) (rs ++ [r]) := by
  refine ⟨by simp [h.1], fun i q e => ?_⟩
  by_cases hi : i < rs.length
  · rw [List.getElem?_append_left hi] at e
    obtain ⟨u, h1, h2⟩ := h.2 i q e
    exact ⟨u, by rw [List.getElem?_append_left (by rw [h.1]; exact hi)]; exact h1, h2⟩
  · have hi' : i = rs.length := by
      have := List.getElem?_eq_some_iff.mp e
      obtain ⟨hl, _⟩ := this
      simp at hl; omega
    subst hi'
    simp at e
    subst e
    exact ⟨v, by rw [← h.1]; simp, hv⟩
theorem fr_known {h₀ h : Heap} {L : Addr} {m : Str → Option Value} {x : Str} {v : Value} (hk : m x = some v) : m = fun y => if y = x then some v else m y := by
  funext y
  by_cases hy : y = x
  · rw [if_pos hy, hy, hk]
  · rw [if_neg hy]

theorem kindT_key {t : Str} (a : (Builtin.Str.occurrences (Str.ofString "{};)") t 0 (Str.ofString "{};)").length 1).isEmpty = true) (b : ([Str.ofString "let", Str.ofString "do", Str.ofString "of", Str.ofString "where"].any fun x => x == t) = true) : Str.ofString "key" = kindT t := by
  unfold kindT; rw [if_neg (by simp [a]), if_pos b]
theorem kindT_var {t : Str} (a : (Builtin.Str.occurrences (Str.ofString "{};)") t 0 (Str.ofString "{};)").length 1).isEmpty = true) (b : ([Str.ofString "let", Str.ofString "do", Str.ofString "of", Str.ofString "where"].any fun x => x == t) = false) : Str.ofString "var" = kindT t := by
  unfold kindT; rw [if_neg (by simp [a]), if_neg (by rw [b]; decide)]
theorem kindT_special {t : Str} (a : (Builtin.Str.occurrences (Str.ofString "{};)") t 0 (Str.ofString "{};)").length 1).isEmpty = false) : Str.ofString "special" = kindT t := by
  unfold kindT; rw [if_pos (by simp [a])]

theorem words_turn {s : Shared} {news : List (Addr × Obj)} {g h' : Heap} {L : Addr} {m' : Str → Option Value} {NN rest : List (Addr × Obj)} {x xd fl it : Nat} {vb : WB} {o : Obj} {fvs : List Value} {ep' i : Nat} {rows : List Row} {r : Row} {tk : Nat}
    (F : Fr g L h' m') (N : News g L h' NN) (hx : (x, instObj 79 xd) ∈ NN) (hxd : (xd, wordD vb) ∈ NN) (hit : (it, o) ∈ NN) (hfl : (fl, listOf (fvs ++ [Value.ref x]).toArray ep') ∈ NN) (hrest : ∀ p ∈ rest, p ∈ NN)
    (n1 : fl ≠ it) (n2 : it < xd) (n3 : fl < xd) (n4 : xd < x) (h1 : ∀ p ∈ rest, p.1 ≠ fl) (hoff : ∀ p ∈ rest, p.1 ≠ it) (h2 : ∀ p ∈ news, p ∈ rest) (h3 : WordsAre rest fvs (rows.take i)) (hr : rows[i]? = some r) (hm : m' (Str.ofString "found") = some (.ref fl))
    (v1 : vb.kind = kindT r.text) (v2 : vb.text = r.text) (v4 : vb.col = r.col) (v5 : vb.value = .none) (v6 : vb.first = r.first) :
    ∃ h₁ tk₁ m₁ nx₁, ({ s with heap := h', toks := tk } : Shared) = { s with heap := h₁, toks := tk₁ } ∧ Fr g L h₁ m₁ ∧ News g L h₁ ((it, o) :: nx₁) ∧ (∀ p ∈ nx₁, p.1 ≠ it) ∧
      ∃ fl fvs ep rest, nx₁ = (fl, listOf (List.toArray fvs) ep) :: rest ∧ (∀ p ∈ rest, p.1 ≠ fl) ∧ (∀ p ∈ news, p ∈ rest) ∧ WordsAre rest fvs (rows.take (i + 1)) ∧ m₁ (Str.ofString "found") = some (.ref fl) := by
  refine TurnP.go (J := fun m nx => ∃ fl fvs ep rest, nx = (fl, listOf (List.toArray fvs) ep) :: rest ∧ (∀ p ∈ rest, p.1 ≠ fl) ∧ (∀ p ∈ news, p ∈ rest) ∧ WordsAre rest fvs (rows.take (i + 1)) ∧ m (Str.ofString "found") = some (.ref fl))
    (nx := (fl, listOf (fvs ++ [Value.ref x]).toArray ep') :: (x, instObj 79 xd) :: (xd, wordD vb) :: rest) F (news_sub N fun p hp => ?_) (fun p hp => ?_)
    ⟨fl, fvs ++ [.ref x], ep', _, rfl, fun p hp => ?_, fun p hp => .tail _ (.tail _ (h2 p hp)), ?_, hm⟩
  · rcases List.mem_cons.mp hp with rfl | hp
    · exact hit
    rcases List.mem_cons.mp hp with rfl | hp
    · exact hfl
    rcases List.mem_cons.mp hp with rfl | hp
    · exact hx
    rcases List.mem_cons.mp hp with rfl | hp
    · exact hxd
    exact hrest p hp
  · rcases List.mem_cons.mp hp with rfl | hp
    · exact n1
    rcases List.mem_cons.mp hp with rfl | hp
    · exact Nat.ne_of_gt (Nat.lt_trans n2 n4)
    rcases List.mem_cons.mp hp with rfl | hp
    · exact Nat.ne_of_gt n2
    exact hoff p hp
  · rcases List.mem_cons.mp hp with rfl | hp
    · exact Nat.ne_of_gt (Nat.lt_trans n3 n4)
    rcases List.mem_cons.mp hp with rfl | hp
    · exact Nat.ne_of_gt n3
    exact h1 p hp
  · rw [show rows.take (i + 1) = rows.take i ++ [r] by rw [List.take_add_one, hr]; rfl]
    exact (h3.mono fun p hp => .tail _ (.tail _ hp)).snoc ⟨x, xd, vb, rfl, .head _, .tail _ (.head _), ⟨v1, v2, v4, v6, v5⟩⟩

section
variable {w : World} {mean : ExcName → Option Value} {mg mb : Str → Option Value} {A A₀ : Around} {base h₀ : Heap} {outer : List Env} {env : Env} {L : Addr} {m : Str → Option Value} {s : Shared}
    {Q : Value → Shared → Prop} {E : Value → Shared → Prop}
variable {news : List (Addr × Obj)}
local macro_rules | `(tactic| walk_at "exec For") => `(tactic| (k_here; refine wpAny_For ?_))

set_option maxRecDepth 100000 in
set_option maxHeartbeats 4000000 in
theorem words_spec {rl : Addr} {rvs : List Value} {rows : List Row} {epr : Nat} (C : Cx w mean mg mb A A₀ base h₀ outer env L m s.heap) (hdep : A.depth < 830) (hun : A.units < 7600) (N : News h₀ L s.heap news)
    (hrl : (rl, listOf rvs.toArray epr) ∈ news) (hra : RowsAre news rvs rows) (hlen : rows.length ≤ 15)
    (h : ∀ h' tk W' wl wvs epw, Fr h₀ L h' m → News h₀ L h' W' → (∀ p ∈ news, p ∈ W') → (wl, listOf wvs.toArray epw) ∈ W' → (∃ us v, wvs = us ++ [v] ∧ WordsAre W' us rows ∧ WordAt W' v EndIs) → Q (.ref wl) { s with heap := h', toks := tk }) :
    wpAny (model PySem.Challenge.rw_og0002_01.row.prog w) A (call (.ref 238) [.ref rl] []) Q E s := by
  obtain ⟨B, F, X, T, hfr, hloc, hkd, hha⟩ := C
  have _ : Mine.hd.heap_1 w.params = Mine.hd.heap_1 w.params ∧ PySem.Challenge.rw_og0002_01 = PySem.Challenge.rw_og0002_01 := by
    w_top off
    k_fill
    exact ⟨rfl, rfl⟩
  refine wpAny_call ?_
  refine' code_def (binds := [(Str.ofString "rows", .ref rl)]) B F X N T hfr hloc hkd ?k6 ?k7 ?k8 ?k9 ?kB ?_ ?c2 ?c3 ?c4 ?c5
  case k6 => k_is
  case k7 => k_is
  case k8 => exact Nat.lt_of_lt_of_le hdep (by decide)
  case k9 => first | exact BindsTo.of_eq rfl | exact binds_K (by k_in) rfl (by k_is) rfl rfl rfl
  case c5 => decide
  case kB => exact locs rfl
  case c2 => exact rfl
  case c3 => exact rfl
  case c4 => exact rfl
  intro g' L' h' FG' F' N' B' X' T'
  clear B F X N T
  (try k_fold)
  k_steps
  rename Fr _ _ _ _ => hF
  rename News _ _ _ _ => hN
  rename (∀ p ∈ news, p.1 < _) => hlt
  refine row_loop (rs := rows) (vs := rvs) (nn := epr) (fun i m nx => ∃ fl fvs ep rest, nx = (fl, listOf (List.toArray fvs) ep) :: rest ∧ (∀ p ∈ rest, p.1 ≠ fl) ∧ (∀ p ∈ news, p ∈ rest) ∧ WordsAre rest fvs (rows.take i) ∧ m (Str.ofString "found") = some (.ref fl))
    hha rfl rfl rfl rfl rfl ?_ hF hN ?_ ?_ ?_ ?_
  · rintro i m nx ⟨fl, fvs, ep, rest, rfl, _, h2, _, _⟩
    exact ⟨.tail _ (h2 _ hrl), hra.mono fun p hp => .tail _ (h2 p hp)⟩
  · exact ⟨_, [], 0, news, rfl, all_ne_of_lt hlt, fun _ hp => hp, ⟨rfl, fun i r e => by simp at e⟩, rfl⟩
  · rintro i r tt lt ct m₁ nx h tk it o hr ⟨fl, fvs, ep, rest, rfl, h1, h2, h3, h4⟩ F₁ N₁ hoff
    clear hF hN
    have hit := neN (hoff _ (.head _))
    dsimp only at hit
    rw [fr_known h4] at F₁
    dsimp only at F₁
    have hlf : fvs.length ≤ 15 := by rw [h3.1, List.length_take]; omega
    (try k_fold)
    k_steps
    all_goals (try k_data)
    all_goals
      walk_at "my push"
      exact words_turn (by assumption) (by assumption) (.head _) (.tail _ (.head _)) (by k_mem) (by k_mem) (by intro p hp; simp only [List.mem_cons]; simp only [hp, or_true]) hit (by omega) (by omega) (by omega) h1 (fun p hp => hoff p (.tail _ hp)) h2 h3 hr rfl
        (by first | exact (Eq.trans (by assumption) (kindT_key (by assumption) (by assumption))) | exact (Eq.trans (by assumption) (kindT_var (by assumption) (by assumption))) | exact (Eq.trans (by assumption) (kindT_special (by assumption)))) (by assumption) (by assumption) (by assumption) (by assumption)
  · rintro m₁ nx hh tk ⟨fl, fvs, ep, rest, rfl, h1, h2, h3, h4⟩ F₁ N₁
    clear hF hN
    rw [fr_known h4] at F₁
    rw [List.take_length] at h3
    have hlf : fvs.length ≤ 15 := by rw [h3.1]; exact hlen
    (try k_fold)
    k_steps
    all_goals (try k_data)
    rename News h₀ _ _ _ => nE
    exact h _ _ _ _ (fvs ++ [Value.ref _]) 0 (by assumption) nE (fun p hp => .tail _ (.tail _ (.tail _ (.tail _ (.tail _ (h2 p hp)))))) (.head _)
      ⟨fvs, _, rfl, h3.mono fun p hp => .tail _ (.tail _ (.tail _ (.tail _ (.tail _ hp)))), ⟨_, _, _, rfl, .tail _ (.tail _ (.head _)), .tail _ (.tail _ (.tail _ (.head _))), ⟨by assumption, by assumption, by assumption, by assumption⟩⟩⟩
  · passes_own
end

end
local macro_rules | `(tactic| walk_at "call ref") => `(tactic| (k_here; (with_reducible show wpAny _ _ (call (Value.ref 140) _ _) _ _ _); k_dflt (first
  | (refine' cbe_word ?C ?hd ?hu ?N ?a ?wa ?wd ?v ?i ?l ?ne ?dW ?sW ?_ ?_; (case C => walk_at "my cx"); (case hd => walk_at "my dep"); (case hu => walk_at "my un"); (case N => first | k_asm | exact news_tail (by k_asm) | exact news_tail (news_tail (by k_asm))); (case a | wa | wd | v | i | l | ne | dW | sW => assumption))
  | (refine' cbe_virt ?C ?hd ?hu ?N ?a ?wa ?wd ?k ?v ?_; (case C => walk_at "my cx"); (case hd => walk_at "my dep"); (case hu => walk_at "my un"); (case N => first | k_asm | exact news_tail (by k_asm) | exact news_tail (news_tail (by k_asm))); (case a | wa | wd | k | v => assumption))); (all_goals (intros; (try k_sweep)))))

section
theorem len_vs {prog : Program} {w : World} {A : Around} {E : Value → Shared → Prop} {s : Shared} {l : Addr} {vs : List Value} {Q : Value → Shared → Prop} (hl : s.heap.IsList l vs.toArray) (hlen : vs.length ≤ 15) (h : Q (.int (vs.length : Int) (s.toks + 1)) { s with toks := s.toks + 1 + 1 }) :
    wpAny (model prog w) A (call (.builtin "len") [.ref l]) Q E s := len_list hl (by rw [List.size_toArray]; omega) (by rw [List.size_toArray]; exact h)
local macro_rules | `(tactic| walk_at "call builtin:len") => `(tactic| (k_here; (with_reducible show wpAny _ _ (call (Value.builtin _) [Value.ref _]) _ _ _); k_dflt (refine' len_vs ?l ?z ?_; (case l => is_list); (case z => assumption); k_whole)))
/-- whether a block opens ahead of the word at k -/
def opensF (rows : List Row) (k : Nat) : Bool := match rows[k]? with | none => true | some r => r.text != Str.ofString "{"
def isKey (t : Str) : Bool := [Str.ofString "let", Str.ofString "do", Str.ofString "of", Str.ofString "where"].any (· == t)
section
variable {w : World} {mean : ExcName → Option Value} {mg mb : Str → Option Value} {A A₀ : Around} {base h₀ : Heap} {outer : List Env} {env : Env} {L : Addr} {m : Str → Option Value} {s : Shared}
    {Q : Value → Shared → Prop} {E : Value → Shared → Prop}
variable {news : List (Addr × Obj)} {rl : Addr} {rvs : List Value} {rows : List Row} {epr : Nat}

set_option maxRecDepth 100000 in
set_option maxHeartbeats 4000000 in
theorem opens_end {i : Int} {ti : Tok} (C : Cx w mean mg mb A A₀ base h₀ outer env L m s.heap) (hdep : A.depth < 830) (hun : A.units < 7600) (N : News h₀ L s.heap news)
    (hrl : (rl, listOf rvs.toArray epr) ∈ news) (hlen : rvs.length ≤ 15) (hi : i = (rvs.length : Int))
    (h : ∀ h' tk, Fr h₀ L h' m → News h₀ L h' news → Q (.bool true) { s with heap := h', toks := tk }) :
    wpAny (model PySem.Challenge.rw_og0002_01.row.prog w) A (call (.ref 217) [.ref rl, .int i ti] []) Q E s := by
  obtain ⟨B, F, X, T, hfr, hloc, hkd, hha⟩ := C
  have _ : Mine.hd.heap_1 w.params = Mine.hd.heap_1 w.params ∧ PySem.Challenge.rw_og0002_01 = PySem.Challenge.rw_og0002_01 := by
    w_top off
    k_fill
    exact ⟨rfl, rfl⟩
  refine wpAny_call ?_
  refine' code_def (binds := [(Str.ofString "rows", .ref rl), (Str.ofString "at", .int i ti)]) B F X N T hfr hloc hkd ?k6 ?k7 ?k8 ?k9 ?kB ?_ ?c2 ?c3 ?c4 ?c5
  case k6 => k_is
  case k7 => k_is
  case k8 => exact Nat.lt_of_lt_of_le hdep (by decide)
  case k9 => first | exact BindsTo.of_eq rfl | exact binds_K (by k_in) rfl (by k_is) rfl rfl rfl
  case c5 => decide
  case kB => exact locs rfl
  case c2 => exact rfl
  case c3 => exact rfl
  case c4 => exact rfl
  intro g' L' h' FG' F' N' B' X' T'
  clear B F X N T
  (try k_fold)
  k_steps
  rw [decide_eq_true (show (rvs.length : Int) ≤ i by omega)]
  exact h _ _ (by assumption) (by assumption)

set_option maxRecDepth 100000 in
set_option maxHeartbeats 4000000 in
theorem opens_at {i : Int} {ti : Tok} {a : Addr} {r : Row} {tt lt ct : Tok} {ep : Nat} (C : Cx w mean mg mb A A₀ base h₀ outer env L m s.heap) (hdep : A.depth < 830) (hun : A.units < 7600) (N : News h₀ L s.heap news)
    (hrl : (rl, listOf rvs.toArray epr) ∈ news) (hlen : rvs.length ≤ 15) (hi0 : 0 ≤ i) (hi1 : i < (rvs.length : Int)) (hi2 : i < 1000) (hx : rvs.toArray[i.toNat]? = some (.ref a)) (hra : (a, rowO r tt lt ct ep) ∈ news)
    (h : ∀ h' tk, Fr h₀ L h' m → News h₀ L h' news → Q (.bool (r.text != Str.ofString "{")) { s with heap := h', toks := tk }) :
    wpAny (model PySem.Challenge.rw_og0002_01.row.prog w) A (call (.ref 217) [.ref rl, .int i ti] []) Q E s := by
  obtain ⟨B, F, X, T, hfr, hloc, hkd, hha⟩ := C
  have _ : Mine.hd.heap_1 w.params = Mine.hd.heap_1 w.params ∧ PySem.Challenge.rw_og0002_01 = PySem.Challenge.rw_og0002_01 := by
    w_top off
    k_fill
    exact ⟨rfl, rfl⟩
  refine wpAny_call ?_
  refine' code_def (binds := [(Str.ofString "rows", .ref rl), (Str.ofString "at", .int i ti)]) B F X N T hfr hloc hkd ?k6 ?k7 ?k8 ?k9 ?kB ?_ ?c2 ?c3 ?c4 ?c5
  case k6 => k_is
  case k7 => k_is
  case k8 => exact Nat.lt_of_lt_of_le hdep (by decide)
  case k9 => first | exact BindsTo.of_eq rfl | exact binds_K (by k_in) rfl (by k_is) rfl rfl rfl
  case c5 => decide
  case kB => exact locs rfl
  case c2 => exact rfl
  case c3 => exact rfl
  case c4 => exact rfl
  intro g' L' h' FG' F' N' B' X' T'
  clear B F X N T
  (try k_fold)
  k_steps
  exact h _ _ (by assumption) (by assumption)

theorem opens_spec {i : Int} {ti : Tok} (C : Cx w mean mg mb A A₀ base h₀ outer env L m s.heap) (hdep : A.depth < 830) (hun : A.units < 7600) (N : News h₀ L s.heap news)
    (hrl : (rl, listOf rvs.toArray epr) ∈ news) (hra : RowsAre news rvs rows) (hlen : rows.length ≤ 15) (hi0 : 0 ≤ i) (hi1 : i ≤ (rows.length : Int))
    (h : ∀ h' tk, Fr h₀ L h' m → News h₀ L h' news → Q (.bool (opensF rows i.toNat)) { s with heap := h', toks := tk }) :
    wpAny (model PySem.Challenge.rw_og0002_01.row.prog w) A (call (.ref 217) [.ref rl, .int i ti] []) Q E s := by
  have hl := hra.length
  by_cases hi : i < (rows.length : Int)
  · have hk : i.toNat < rows.length := by omega
    have hr : rows[i.toNat]? = some (rows[i.toNat]'hk) := by simp [hk]
    obtain ⟨a, tt, lt, ct, ep, h1, h2⟩ := hra.get hr
    refine opens_at C hdep hun N hrl (by omega) hi0 (by omega) (by omega) (by simpa using h1) h2 fun h' tk F' N' => ?_
    have := h h' tk F' N'
    unfold opensF at this
    rw [hr] at this
    exact this
  · refine opens_end C hdep hun N hrl (by omega) (by omega) fun h' tk F' N' => ?_
    have := h h' tk F' N'
    unfold opensF at this
    rw [show rows[i.toNat]? = none from by simp; omega] at this
    exact this

end
local macro_rules | `(tactic| walk_at "call ref") => `(tactic| (k_here; (with_reducible show wpAny _ _ (call (Value.ref 217) _ _) _ _ _); k_dflt (refine' opens_spec ?C ?hd ?hu ?N ?a ?b ?l ?i0 ?i1 ?_; (case C => walk_at "my cx"); (case hd => walk_at "my dep"); (case hu => walk_at "my un"); (case N => k_asm); (case b => (refine' RowsAre.mono ?bs ?bh; (case bh => assumption); (case bs => (intro p hp; (simp only [List.mem_cons]); (simp only [hp, or_true]))))); (case a => k_mem); (case l => assumption); (case i0 | i1 => omega); k_whole); intro h' tk' F' N'; (try k_sweep)))
section
variable {w : World} {mean : ExcName → Option Value} {mg mb : Str → Option Value} {A A₀ : Around} {base h₀ : Heap} {outer : List Env} {env : Env} {L : Addr} {m : Str → Option Value} {s : Shared}
    {Q : Value → Shared → Prop} {E : Value → Shared → Prop}
variable {W : List (Addr × Obj)} {rl pl tl : Addr} {rvs pvs tvs : List Value} {rows : List Row} {epr ep et : Nat} {ns : List Int}
theorem real_both {t : Str} (a : (t == Str.ofString "}") = true) (b : (t == Str.ofString "{") = true) : False := by
  rw [eq_of_beq a] at b; revert b; decide
theorem ints_eq {vs : List Value} {ns ns' : List Int} (e : ns = ns') (h : IntsAre vs ns) : IntsAre vs ns' := e ▸ h
theorem q_bool {Q : Value → Shared → Prop} {s : Shared} {b b' : Bool} (e : b = b') (h : Q (.bool b) s) : Q (.bool b') s := e ▸ h
set_option maxRecDepth 100000 in
set_option maxHeartbeats 4000000 in
theorem real_spec {i : Int} {ti : Tok} {r : Row} (C : Cx w mean mg mb A A₀ base h₀ outer env L m s.heap) (hdep : A.depth < 820) (hun : A.units < 7500) (N : News h₀ L s.heap ((pl, listOf pvs.toArray ep) :: (tl, listOf tvs.toArray et) :: W))
    (hrl : (rl, listOf rvs.toArray epr) ∈ W) (hra : RowsAre W rvs rows) (hlen : rows.length ≤ 15) (hi0 : 0 ≤ i) (hi1 : i < (rows.length : Int)) (hr : rows[i.toNat]? = some r)
    (hi : IntsAre pvs ns) (hpl : pvs.length ≤ 1000) (htl : tvs.length ≤ 1000) (hne : @Ne Nat pl tl) (hpW : ∀ p ∈ W, p.1 ≠ pl) (htW : ∀ p ∈ W, p.1 ≠ tl)
    (he : (r.text == Str.ofString "}") = true → (ns = [] ∨ ns.getLastD 0 ≠ 0) → ∀ h' tk, Fr h₀ L h' m → News h₀ L h' ((pl, listOf pvs.toArray ep) :: (tl, listOf tvs.toArray et) :: W) → Q .none { s with heap := h', toks := tk })
    (h : ¬ ((r.text == Str.ofString "}") = true ∧ (ns = [] ∨ ns.getLastD 0 ≠ 0)) → ∀ h' tk pvs' ep' et' tt, Fr h₀ L h' m → News h₀ L h' ((pl, listOf pvs'.toArray ep') :: (tl, listOf (tvs ++ [Value.str r.text tt]).toArray et') :: W) →
      IntsAre pvs' (passN (r.text == Str.ofString "{") (r.text == Str.ofString "}") ns) → Q (.bool (isKey r.text && opensF rows (i + 1).toNat)) { s with heap := h', toks := tk }) :
    wpAny (model PySem.Challenge.rw_og0002_01.row.prog w) A (call (.ref 224) [.ref rl, .int i ti, .ref pl, .ref tl] []) Q E s := by
  obtain ⟨a, tt, lt, ct, epq, hx0, hra0⟩ := hra.get hr
  have hx : rvs.toArray[i.toNat]? = some (.ref a) := by simpa using hx0
  have hi2 : i < 1000 := by omega
  have hne' := neN hne.symm
  obtain ⟨B, F, X, T, hfr, hloc, hkd, hha⟩ := C
  have _ : Mine.hd.heap_1 w.params = Mine.hd.heap_1 w.params ∧ PySem.Challenge.rw_og0002_01 = PySem.Challenge.rw_og0002_01 := by
    w_top off
    k_fill
    exact ⟨rfl, rfl⟩
  refine wpAny_call ?_
  refine' code_def (binds := [(Str.ofString "rows", .ref rl), (Str.ofString "at", .int i ti), (Str.ofString "pile", .ref pl), (Str.ofString "told", .ref tl)]) B F X N T hfr hloc hkd ?k6 ?k7 ?k8 ?k9 ?kB ?_ ?c2 ?c3 ?c4 ?c5
  case k6 => k_is
  case k7 => k_is
  case k8 => exact Nat.lt_of_lt_of_le hdep (by decide)
  case k9 => first | exact BindsTo.of_eq rfl | exact binds_K (by k_in) rfl (by k_is) rfl rfl rfl
  case c5 => decide
  case kB => exact locs rfl
  case c2 => exact rfl
  case c3 => exact rfl
  case c4 => exact rfl
  intro g' L' h' FG' F' N' B' X' T'
  clear B F X N T
  (try k_fold)
  k_steps
  all_goals first
    | exact he (by assumption) (Or.inl (of_decide_eq_true (by assumption))) _ _ (by assumption) (news_tail (by assumption))
    | exact he (by assumption) (Or.inr (by assumption)) _ _ (by assumption) (news_tail (by assumption))
    | exact (real_both (by assumption) (by assumption)).elim
    | skip
  all_goals (try walk_at "my push")
  all_goals refine q_bool (b := isKey r.text && opensF rows (i + 1).toNat) ?_ (h ?_ _ _ _ _ _ _ (by assumption) (news_sub (by assumption) (by intro p hp; (rcases List.mem_cons.mp hp with rfl | hp); k_mem; (rcases List.mem_cons.mp hp with rfl | hp); k_mem; (simp only [List.mem_cons]); (simp only [hp, or_true]))) ?_)
  all_goals first
    | (rw [show isKey r.text = true by assumption, Bool.true_and]; done)
    | (rw [show isKey r.text = false by assumption]; exact Eq.symm (by assumption))
    | exact fun q => Bool.noConfusion (q.1.symm.trans (by assumption))
    | exact fun q => q.2.elim (of_decide_eq_false (by assumption)) fun z => z (by assumption)
    | exact ints_eq (passN_1 (by assumption)) (hi.append (.cons _ _ .nil))
    | exact ints_eq (passN_2 (by assumption) (by assumption)) (by assumption)
    | exact ints_eq (passN_3 (by assumption) (by assumption)) hi
end

end
section
/-- the state at the head of a turn: both of the law's loops go from one to the next alike -/
structure St where
  pos : Nat
  ns : List Int
  op : Bool
  em : Bool
  fo : Bool
  al : Bool
  told : List PyData
inductive Out where
  | go (S : St)
  | fin (ds : List PyData)

noncomputable def tryN : Nat → List Int → List Int
  | 0, ns => ns
  | k + 1, ns => if 0 < (tryN k ns).getLastD 0 then (tryN k ns).dropLast else tryN k ns
noncomputable def tryT : Nat → List Int → List PyData
  | 0, _ => []
  | k + 1, ns => tryT k ns ++ [.bool (decide (0 < (tryN k ns).getLastD 0))]
def colAt (rows : List Row) (i : Nat) : Int := match rows[i]? with | some r => r.col | none => 0
abbrev tS (x : String) : PyData := .str (Str.ofString x)
abbrev isO (t : Str) : Bool := t == Str.ofString "{"
abbrev isC (t : Str) : Bool := t == Str.ofString "}"

noncomputable def step (rows : List Row) (tr : Nat → Nat) (S : St) : Out :=
  if S.op = true then
    if S.ns.getLastD 0 < colAt rows S.pos then .go ⟨S.pos, S.ns ++ [colAt rows S.pos], false, false, S.fo, true, S.told ++ [tS "v{"]⟩
    else .go ⟨S.pos, S.ns, false, true, S.fo, false, S.told ++ [tS "v{"]⟩
  else if S.em = true then .go ⟨S.pos, S.ns, false, false, true, S.al, S.told ++ [tS "v}"]⟩
  else match rows[S.pos]? with
    | none => if S.ns = [] then .fin S.told else if S.ns.getLastD 0 = 0 then .fin (S.told ++ [tS "error"]) else .go ⟨S.pos, S.ns.dropLast, false, false, S.fo, S.al, S.told ++ [tS "v}"]⟩
    | some r =>
      if S.al = false ∧ (r.first = true ∨ S.fo = true) ∧ 0 < S.ns.getLastD 0 ∧ r.col < S.ns.getLastD 0 then .go ⟨S.pos, S.ns.dropLast, false, false, S.fo, false, S.told ++ [tS "v}"]⟩
      else if S.al = false ∧ (r.first = true ∨ S.fo = true) ∧ 0 < S.ns.getLastD 0 ∧ r.col = S.ns.getLastD 0 then .go ⟨S.pos, S.ns, false, false, S.fo, true, S.told ++ [tS "v;"]⟩
      else if isC r.text = true ∧ (tryN (tr S.pos) S.ns = [] ∨ (tryN (tr S.pos) S.ns).getLastD 0 ≠ 0) then .fin (S.told ++ tryT (tr S.pos) S.ns ++ [tS "error"])
      else .go ⟨S.pos + 1, passN (isO r.text) (isC r.text) (tryN (tr S.pos) S.ns), isKey r.text && opensF rows (S.pos + 1), false, false, false, S.told ++ tryT (tr S.pos) S.ns ++ [.str r.text]⟩

inductive Runs (rows : List Row) (tr : Nat → Nat) : St → List PyData → Prop
  | fin {S : St} {ds : List PyData} : step rows tr S = .fin ds → Runs rows tr S ds
  | go {S S' : St} {ds : List PyData} : step rows tr S = .go S' → Runs rows tr S' ds → Runs rows tr S ds
theorem Runs.same {rows : List Row} {tr : Nat → Nat} {S : St} {a b : List PyData} (h : Runs rows tr S a) : Runs rows tr S b → a = b := by
  induction h with
  | fin h1 => intro h2; cases h2 with
    | fin h3 => rw [h1] at h3; exact Out.fin.inj h3
    | go h3 _ => rw [h1] at h3; cases h3
  | go h1 _ ih => intro h2; cases h2 with
    | fin h3 => rw [h1] at h3; cases h3
    | go h3 h4 => rw [h1] at h3; cases Out.go.inj h3; exact ih h4

def b2n (b : Bool) : Nat := if b = true then 1 else 0
def mu (n : Nat) (S : St) : Nat := 10 * (n - S.pos) + 4 * b2n S.op + 2 * b2n S.em + 2 * S.ns.length + (1 - b2n S.al)

/-- what holds at each turn's head -/
structure Inv (rows : List Row) (S : St) : Prop where
  pos : S.pos ≤ rows.length
  ge : ∀ x ∈ S.ns, 0 ≤ x
  op : S.op = true → S.em = false ∧ S.al = false

theorem last_mem {ns : List Int} (h : ns ≠ []) : ns.getLastD 0 ∈ ns := by
  induction ns with
  | nil => exact absurd rfl h
  | cons a t ih =>
    cases t with
    | nil => simp
    | cons b u => simpa using Or.inr (ih (by simp))
theorem last_ge {ns : List Int} (h : ∀ x ∈ ns, 0 ≤ x) : 0 ≤ ns.getLastD 0 := by
  by_cases e : ns = []
  · subst e; exact Int.le_refl 0
  · exact h _ (last_mem e)
theorem tryN_ge {ns : List Int} (h : ∀ x ∈ ns, 0 ≤ x) : ∀ k, ∀ x ∈ tryN k ns, 0 ≤ x
  | 0 => h
  | k + 1 => by
    unfold tryN
    split
    · exact fun x hx => tryN_ge h k x (List.dropLast_subset _ hx)
    · exact tryN_ge h k
theorem tryN_len (ns : List Int) : ∀ k, (tryN k ns).length ≤ ns.length
  | 0 => Nat.le_refl _
  | k + 1 => by
    unfold tryN
    have := tryN_len ns k
    split
    · rw [List.length_dropLast]; omega
    · exact this
theorem tryT_len (ns : List Int) : ∀ k, (tryT k ns).length = k
  | 0 => rfl
  | k + 1 => by unfold tryT; rw [List.length_append, tryT_len ns k]; rfl
theorem passN_len (a b : Bool) (ns : List Int) : (passN a b ns).length ≤ ns.length + 1 := by
  unfold passN
  split
  · simp
  · split
    · rw [List.length_dropLast]; omega
    · omega
theorem passN_ge {a b : Bool} {ns : List Int} (h : ∀ x ∈ ns, 0 ≤ x) : ∀ x ∈ passN a b ns, 0 ≤ x := by
  unfold passN
  split
  · intro x hx
    rcases List.mem_append.mp hx with hx | hx
    · exact h x hx
    · rw [List.mem_singleton.mp hx]; exact Int.le_refl 0
  · split
    · exact fun x hx => h x (List.dropLast_subset _ hx)
    · exact h

section
variable {rows : List Row} {tr : Nat → Nat} {S : St}
theorem step_good (hc : ∀ r ∈ rows, 1 ≤ r.col) (htr : ∀ i, tr i ≤ 3) (I : Inv rows S) : ∀ {S' : St}, step rows tr S = .go S' → Inv rows S' ∧ mu rows.length S' < mu rows.length S ∧ S'.told.length + 4 * mu rows.length S' ≤ S.told.length + 4 * mu rows.length S := by
  intro S' h
  obtain ⟨pos, ns, op, em, fo, al, told⟩ := S
  obtain ⟨hp, hg, ho⟩ := I
  dsimp only at hp hg ho
  have hca : 0 ≤ colAt rows pos := by
    unfold colAt
    split
    · rename_i r hr
      have := hc r (List.mem_of_getElem? hr); omega
    · exact Int.le_refl 0
  have hdl : ∀ x ∈ ns.dropLast, 0 ≤ x := fun x hx => hg x (List.dropLast_subset _ hx)
  have hnl : ns ≠ [] → ns.dropLast.length + 1 = ns.length := fun q => by rw [List.length_dropLast]; have := (List.length_pos_iff.mpr q); omega
  unfold step at h
  dsimp only at h
  split at h
  · rename_i hop
    obtain ⟨rfl, rfl⟩ := ho hop
    subst hop
    split at h
    · cases h
      refine ⟨⟨hp, fun x hx => ?_, fun q => nomatch q⟩, ?_⟩
      · rcases List.mem_append.mp hx with hx | hx
        · exact hg x hx
        · rw [List.mem_singleton.mp hx]; exact hca
      · simp only [mu, b2n, List.length_append, List.length_singleton]; simp; omega
    · cases h
      refine ⟨⟨hp, hg, fun q => nomatch q⟩, ?_⟩
      simp only [mu, b2n, List.length_append, List.length_singleton]; simp; omega
  · rename_i hop
    have hop : op = false := by simpa using hop
    subst hop
    split at h
    · rename_i hem
      subst hem
      cases h
      refine ⟨⟨hp, hg, fun q => nomatch q⟩, ?_⟩
      simp only [mu, b2n, List.length_append, List.length_singleton]; simp; omega
    · rename_i hem
      have hem : em = false := by simpa using hem
      subst hem
      split at h
      · rename_i hr
        split at h
        · cases h
        · rename_i hn
          have := hnl hn
          split at h
          · cases h
          · cases h
            refine ⟨⟨hp, hdl, fun q => nomatch q⟩, ?_⟩
            simp only [mu, b2n, List.length_append, List.length_singleton]; simp; omega
      · rename_i r hr
        have hlt : pos < rows.length := (List.getElem?_eq_some_iff.mp hr).1
        split at h
        · rename_i hq
          obtain ⟨rfl, _, h0, _⟩ := hq
          have hn : ns ≠ [] := fun q => by subst q; simp at h0
          have := hnl hn
          cases h
          refine ⟨⟨hp, hdl, fun q => nomatch q⟩, ?_⟩
          simp only [mu, b2n, List.length_append, List.length_singleton]; simp; omega
        · split at h
          · rename_i hq
            obtain ⟨rfl, _⟩ := hq
            cases h
            refine ⟨⟨hp, hg, fun q => nomatch q⟩, ?_⟩
            simp only [mu, b2n, List.length_append, List.length_singleton]; simp; omega
          · split at h
            · cases h
            · cases h
              have h1 := tryN_len ns (tr pos)
              have h2 := tryT_len ns (tr pos)
              have h3 := passN_len (isO r.text) (isC r.text) (tryN (tr pos) ns)
              have h4 := htr pos
              refine ⟨⟨hlt, passN_ge (tryN_ge hg _), fun _ => ⟨rfl, rfl⟩⟩, ?_⟩
              have h5 : b2n (isKey r.text && opensF rows (pos + 1)) ≤ 1 := by unfold b2n; split <;> omega
              have h6 : b2n al ≤ 1 := by unfold b2n; split <;> omega
              have h7 : b2n false = 0 := rfl
              simp only [mu, List.length_append, List.length_singleton, h7]
              omega
end

section
variable {prog : Program} {w : World} {A : Around} {E : Value → Shared → Prop} {s : Shared} {env : Env} {h₀ : Heap} {L t : Addr} {m : Str → Option Value} {news : List (Addr × Obj)} {items : Array Value} {nn : Nat}
theorem items_drop {n : Nat} {Q : List Value → Shared → Prop} (F : Fr h₀ L s.heap m) (N : News h₀ L s.heap ((t, ⟨.type "tuple", none, .seq items nn, #[]⟩) :: news)) (hh : A.handled = none) (hn : n = items.size)
    (h : ∀ h', Fr h₀ L h' m → News h₀ L h' news → Q items.toList { s with heap := h' }) : wpAny (model prog w) A (unpackItems (.ref t) n none) Q E s :=
  unpackItemsN_ F N ⟨_, (N _ (.head _)).1, rfl, nn, rfl⟩ hh hn fun h' F' N' => h h' F' (news_tail N')
theorem unpack_drop {elts : List PySem.Expr} {k : Nat} {pos : Pos} {Q : Unit → Shared → Prop} (F : Fr h₀ L s.heap m) (N : News h₀ L s.heap ((t, ⟨.type "tuple", none, .seq items nn, #[]⟩) :: news)) (hh : A.handled = none) (hn : (assignEach elts env).length = items.size)
    (hstar : (assignEach elts env).findIdx? (·.1) = none) (h : ∀ h', Fr h₀ L h' m → News h₀ L h' news → wpAny (model prog w) A (assignInOrder ((assignEach elts env).map (·.2)) items.toList) Q E { s with heap := h' }) :
    wpAny (model prog w) A (assign (.Tuple elts k pos) env (.ref t)) Q E s :=
  unpackN_ F N ⟨_, (N _ (.head _)).1, rfl, nn, rfl⟩ hh hn hstar fun h' F' N' => h h' F' (news_tail N')
end

end
local macro_rules | `(tactic| walk_at "call builtin:len") => `(tactic| (k_here; (with_reducible show wpAny _ _ (call (Value.builtin _) [Value.ref _]) _ _ _); k_dflt (refine' len_vs ?l ?z ?_; (case l => is_list); (case z => assumption); k_whole)))
local macro_rules | `(tactic| walk_at "call ref") => `(tactic| (k_here; (with_reducible show wpAny _ _ (call (Value.ref 217) _ _) _ _ _); k_dflt (refine' opens_spec ?C ?hd ?hu ?N ?a ?b ?l ?i0 ?i1 ?_; (case C => walk_at "my cx"); (case hd => walk_at "my dep"); (case hu => walk_at "my un"); (case N => k_asm); (case b => (refine' RowsAre.mono ?bs ?bh; (case bh => assumption); (case bs => (intro p hp; (simp only [List.mem_cons]); (simp only [hp, or_true]))))); (case a => k_mem); (case l => assumption); (case i0 | i1 => omega); k_whole); intro h' tk' F' N'; (try k_sweep)))
local macro_rules | `(tactic| walk_at "unpackItems ref") => `(tactic| (k_here; k_dflt (refine' items_drop ?k1 ?k2 ?k4 ?k5 ?_; (case k1 | k2 => k_asm); (case k4 => first | exact rfl | assumption); (case k5 => exact rfl); k_whole); intro h' F' N'; (try k_sweep)))
local macro_rules | `(tactic| walk_at "assign Tuple") => `(tactic| (k_here; (with_reducible show wpAny _ _ (assign (Expr.Tuple _ _ _) _ (Value.ref _)) _ _ _); k_dflt (refine' unpack_drop ?k1 ?k2 ?k4 ?k5 ?k6 ?_; (case k1 | k2 => k_asm); (case k4 => first | exact rfl | assumption); (case k5 => exact rfl); (case k6 => exact rfl); k_whole); intro h' F' N'; (try k_sweep)))

section
section
variable {prog : Program} {w : World} {A : Around} {E : Value → Shared → Prop} {s : Shared} {h₀ : Heap} {L l l2 td : Addr} {m : Str → Option Value} {news : List (Addr × Obj)} {vs us : List Value} {ns : List Int} {Q : Value → Shared → Prop}
theorem pick_dl (vs : List Value) : kms_pick vs none (some (-1)) = vs.dropLast := by
  unfold kms_pick kms_lo kms_hi
  simp [List.dropLast_eq_take]
theorem slice_dl {value slice : PySem.Expr} {t : Tok} (F : Fr h₀ L s.heap m) (N : News h₀ L s.heap news) (hl : s.heap.IsList l vs.toArray) (hlen : vs.length ≤ 1000)
    (h : ∀ D h', Fr h₀ L h' m → News h₀ L h' ((D, listOf vs.dropLast.toArray 0) :: news) → (∀ p ∈ news, p.1 < D) → Q (.ref D) { s with heap := h' })
    (hs : subscripted slice false (.ref l) (.ref s.heap.objs.size) = operate [.ref s.heap.objs.size, .ref l] (getItem (.ref l) (.ref s.heap.objs.size))) (ht : ∀ r, letTemporaryGo value (.ref l) r = pure ()) :
    wpAny (model prog w) A (subscriptTail value slice (.ref l) (.ref s.heap.objs.size)) Q E { s with heap := s.heap.push { cls := .type "slice", data := .fields #[.none, .int (-1) t, .none] } } :=
  kms_slice_lit (its := vs.toArray) F N hl .none (.int _ _) (pick_dl vs) h hs ht (by rw [List.size_toArray, sizeLine_eq]; omega)
theorem add_two (F : Fr h₀ L s.heap m) (N : News h₀ L s.heap news) (ha : s.heap.IsList l vs.toArray) (hb : s.heap.IsList l2 us.toArray) (h1 : vs.length ≤ 2000) (h2 : us.length ≤ 10)
    (h : ∀ D h', Fr h₀ L h' m → News h₀ L h' ((D, listOf (vs ++ us).toArray 0) :: news) → (∀ p ∈ news, p.1 < D) → Q (.ref D) { s with heap := h' }) : wpAny (model prog w) A (binaryOp .Add (.ref l) (.ref l2)) Q E s :=
  kmk_add_lit F N ha hb rfl h (by rw [sizeLine_eq]; simp; omega)
theorem item_push {value slice : PySem.Expr} {arr : Array Value} {v : Value} {u : Tok} (hl : s.heap.IsList l (arr.push v)) (h : Q v s)
    (hs : subscripted slice false (.ref l) (.int (-1) u) = operate [.ref l, .int (-1) u] (getItem (.ref l) (.int (-1) u)) := by with_unfolding_all rfl) :
    wpAny (model prog w) A (subscriptTail value slice (.ref l) (.int (-1) u)) Q E s := by
  refine tail_any hl.typeIs slot_list_getitem.lookup (wpAny_getItem_list_neg hl (by decide) ?_ (by decide) ?_ h) hs
  · simp; omega
  · have : ((-1 : Int) + ((arr.push v).size : Nat)).toNat = arr.size := by simp; omega
    rw [this]; simp

/-- the ways of an expression meet again -/
def JoinV (h₀ : Heap) (L : Addr) (m : Str → Option Value) (news : List (Addr × Obj)) (s : Shared) {α : Type} (P : α → Prop) (v : α) (s' : Shared) : Prop := P v ∧ ∃ h' tk, s' = { s with heap := h', toks := tk } ∧ Fr h₀ L h' m ∧ News h₀ L h' news
theorem join_v {α : Type} {M : Model} {x : Sem α} {Q : α → Shared → Prop} (P : α → Prop) (_ : Fr h₀ L s.heap m) (_ : News h₀ L s.heap news) (h1 : wpAny M A x (JoinV h₀ L m news s P) E s)
    (h2 : ∀ v h' tk, P v → Fr h₀ L h' m → News h₀ L h' news → Q v { s with heap := h', toks := tk }) : wpAny M A x Q E s :=
  wpAny_mono h1 (fun v s' hj => by obtain ⟨hp, h', tk, rfl, F, N⟩ := hj; exact h2 v h' tk hp F N) fun _ _ z => z
theorem join_top {M : Model} {x : Sem Value} (_ : IntsAre vs ns) (F : Fr h₀ L s.heap m) (N : News h₀ L s.heap news) (h1 : wpAny M A x (JoinV h₀ L m news s fun v => ∃ t, v = .int (ns.getLastD 0) t) E s)
    (h2 : ∀ t h' tk, Fr h₀ L h' m → News h₀ L h' news → Q (.int (ns.getLastD 0) t) { s with heap := h', toks := tk }) : wpAny M A x Q E s :=
  join_v _ F N h1 fun _ h' tk ⟨t, e⟩ F N => e ▸ h2 t h' tk F N
theorem join_last {M : Model} {x : Sem Value} (_ : IntsAre vs ns) (F : Fr h₀ L s.heap m) (N : News h₀ L s.heap news) (h1 : wpAny M A x (JoinV h₀ L m news s fun v => v = .bool (decide (0 < ns.getLastD 0))) E s)
    (h2 : ∀ h' tk, Fr h₀ L h' m → News h₀ L h' news → Q (.bool (decide (0 < ns.getLastD 0))) { s with heap := h', toks := tk }) : wpAny M A x Q E s :=
  join_v _ F N h1 fun _ h' tk e F N => e ▸ h2 h' tk F N
theorem top_nil {t : Tok} (h : decide (ns = []) = true) : ∃ t', Value.int 0 t = .int (ns.getLastD 0) t' := ⟨t, by rw [of_decide_eq_true h]; rfl⟩
theorem last_nil2 (h : decide (ns = []) = true) : Value.bool (!decide (ns = [])) = .bool (decide (0 < ns.getLastD 0)) := by rw [h, of_decide_eq_true h]; rfl
theorem last_nil (h : decide (ns = []) = true) : Value.bool false = .bool (decide (0 < ns.getLastD 0)) := by rw [of_decide_eq_true h]; rfl
end

theorem joinV_mk {h₀ h : Heap} {L : Addr} {m : Str → Option Value} {news : List (Addr × Obj)} {s : Shared} {α : Type} {P : α → Prop} {v : α} {tk : Nat} (p : P v) (F : Fr h₀ L h m) (N : News h₀ L h news) : JoinV h₀ L m news s P v { s with heap := h, toks := tk } := ⟨p, h, tk, rfl, F, N⟩
section
variable {rows : List Row} {tr : Nat → Nat} {pos : Nat} {ns : List Int} {op em fo al : Bool} {told : List PyData} {col : Int} {r : Row}
theorem step_op (hop : op = true) (hc : colAt rows pos = col) : step rows tr ⟨pos, ns, op, em, fo, al, told⟩ = .go ⟨pos, ns ++ (List.replicate (if decide (ns.getLastD 0 < col) = true then (1 : Int) else 0).toNat [col]).flatten, false, decide (col ≤ ns.getLastD 0), fo, decide (ns.getLastD 0 < col), told ++ [tS "v{"]⟩ := by
  subst hop hc
  unfold step
  simp only [if_true]
  by_cases h : ns.getLastD 0 < colAt rows pos
  · rw [if_pos h, decide_eq_true h, decide_eq_false (by omega)]; simp
  · rw [if_neg h, decide_eq_false h, decide_eq_true (show colAt rows pos ≤ ns.getLastD 0 by omega)]; simp
theorem step_em (hop : op = false) (hem : em = true) : step rows tr ⟨pos, ns, op, em, fo, al, told⟩ = .go ⟨pos, ns, op, false, true, al, told ++ [tS "v}"]⟩ := by
  subst hop hem
  unfold step
  simp
end
theorem rep_short (b : Bool) (v : Value) : (List.replicate (if b = true then (1 : Int) else 0).toNat [v]).flatten.length ≤ 10 := by cases b <;> simp
theorem fr_kn {m : Str → Option Value} {x : Str} {v : Value} (hk : m x = some v) : m = fun y => if y = x then some v else m y := by
  funext y
  by_cases hy : y = x
  · rw [if_pos hy, hy, hk]
  · rw [if_neg hy]

theorem while2_ret {h₀ : Heap} {L : Addr} {s s₃ : Shared} {J : Nat → (Str → Option Value) → List (Addr × Obj) → Prop} {Q : Flow → Shared → Prop} {n : Nat} {v : Value} (h : Q (.ret v) s₃) : WhileStep2 h₀ L s J Q n (.ret v) s₃ := h
section
variable {rows : List Row} {tr : Nat → Nat} {pos : Nat} {ns : List Int} {op em fo al : Bool} {told : List PyData} {col : Int} {r : Row}
theorem step_al1 (hop : op = false) (hem : em = false) (hr : rows[pos]? = some r) (hb : (!al && (r.first || fo) && decide (0 < ns.getLastD 0) && decide (r.col ≤ ns.getLastD 0)) = true) (he : r.col = ns.getLastD 0) :
    step rows tr ⟨pos, ns, op, em, fo, al, told⟩ = .go ⟨pos, ns, op, em, fo, (r.col == ns.getLastD 0), told ++ [tS "v;"]⟩ := by
  subst hop hem
  simp only [Bool.and_eq_true, Bool.not_eq_true', Bool.or_eq_true, decide_eq_true_eq] at hb
  obtain ⟨⟨⟨h1, h2⟩, h3⟩, h4⟩ := hb
  unfold step
  simp only [hr, Bool.false_eq_true, if_false]
  rw [if_neg (by omega), if_pos ⟨h1, h2, h3, he⟩, show (r.col == ns.getLastD 0) = true from beq_iff_eq.mpr he]
theorem step_al2 (hop : op = false) (hem : em = false) (hr : rows[pos]? = some r) (hb : (!al && (r.first || fo) && decide (0 < ns.getLastD 0) && decide (r.col ≤ ns.getLastD 0)) = true) (he : r.col ≠ ns.getLastD 0) :
    step rows tr ⟨pos, ns, op, em, fo, al, told⟩ = .go ⟨pos, ns.dropLast, op, em, fo, (r.col == ns.getLastD 0), told ++ [tS "v}"]⟩ := by
  subst hop hem
  simp only [Bool.and_eq_true, Bool.not_eq_true', Bool.or_eq_true, decide_eq_true_eq] at hb
  obtain ⟨⟨⟨h1, h2⟩, h3⟩, h4⟩ := hb
  unfold step
  simp only [hr, Bool.false_eq_true, if_false]
  rw [if_pos ⟨h1, h2, h3, by omega⟩, show (r.col == ns.getLastD 0) = false from beq_eq_false_iff_ne.mpr he]
theorem step_err (hop : op = false) (hem : em = false) (hr : rows[pos]? = some r) (hb : (!al && (r.first || fo) && decide (0 < ns.getLastD 0) && decide (r.col ≤ ns.getLastD 0)) = false)
    (h1 : isC r.text = true) (h2 : tryN (tr pos) ns = [] ∨ (tryN (tr pos) ns).getLastD 0 ≠ 0) : step rows tr ⟨pos, ns, op, em, fo, al, told⟩ = .fin (told ++ tryT (tr pos) ns ++ [tS "error"]) := by
  subst hop hem
  unfold step
  simp only [hr, Bool.false_eq_true, if_false]
  have hq : ¬ (al = false ∧ (r.first = true ∨ fo = true) ∧ 0 < ns.getLastD 0 ∧ r.col ≤ ns.getLastD 0) := fun ⟨a, b, c, d⟩ => by
    have : (!al && (r.first || fo) && decide (0 < ns.getLastD 0) && decide (r.col ≤ ns.getLastD 0)) = true := by
      simp only [Bool.and_eq_true, Bool.not_eq_true', Bool.or_eq_true, decide_eq_true_eq]; exact ⟨⟨⟨a, b⟩, c⟩, d⟩
    rw [hb] at this; cases this
  rw [if_neg (fun ⟨a, b, c, d⟩ => hq ⟨a, b, c, by omega⟩), if_neg (fun ⟨a, b, c, d⟩ => hq ⟨a, b, c, by omega⟩), if_pos ⟨h1, h2⟩]
theorem step_real (hop : op = false) (hem : em = false) (hr : rows[pos]? = some r) (hb : (!al && (r.first || fo) && decide (0 < ns.getLastD 0) && decide (r.col ≤ ns.getLastD 0)) = false)
    (h1 : ¬ (isC r.text = true ∧ (tryN (tr pos) ns = [] ∨ (tryN (tr pos) ns).getLastD 0 ≠ 0))) :
    step rows tr ⟨pos, ns, op, em, fo, al, told⟩ = .go ⟨pos + 1, passN (isO r.text) (isC r.text) (tryN (tr pos) ns), isKey r.text && opensF rows (pos + 1), em, false, false, told ++ tryT (tr pos) ns ++ [.str r.text]⟩ := by
  subst hop hem
  unfold step
  simp only [hr, Bool.false_eq_true, if_false]
  have hq : ¬ (al = false ∧ (r.first = true ∨ fo = true) ∧ 0 < ns.getLastD 0 ∧ r.col ≤ ns.getLastD 0) := fun ⟨a, b, c, d⟩ => by
    have : (!al && (r.first || fo) && decide (0 < ns.getLastD 0) && decide (r.col ≤ ns.getLastD 0)) = true := by
      simp only [Bool.and_eq_true, Bool.not_eq_true', Bool.or_eq_true, decide_eq_true_eq]; exact ⟨⟨⟨a, b⟩, c⟩, d⟩
    rw [hb] at this; cases this
  rw [if_neg (fun ⟨a, b, c, d⟩ => hq ⟨a, b, c, by omega⟩), if_neg (fun ⟨a, b, c, d⟩ => hq ⟨a, b, c, by omega⟩), if_neg h1]
theorem step_n1 (hop : op = false) (hem : em = false) (hr : rows[pos]? = none) (h : ns = []) : step rows tr ⟨pos, ns, op, em, fo, al, told⟩ = .fin told := by
  subst hop hem
  unfold step
  simp only [hr, Bool.false_eq_true, if_false]
  rw [if_pos h]
theorem step_n2 (hop : op = false) (hem : em = false) (hr : rows[pos]? = none) (h : ns ≠ []) (h0 : ns.getLastD 0 = 0) : step rows tr ⟨pos, ns, op, em, fo, al, told⟩ = .fin (told ++ [tS "error"]) := by
  subst hop hem
  unfold step
  simp only [hr, Bool.false_eq_true, if_false]
  rw [if_neg h, if_pos h0]
theorem step_n3 (hop : op = false) (hem : em = false) (hr : rows[pos]? = none) (h : ns ≠ []) (h0 : ns.getLastD 0 ≠ 0) : step rows tr ⟨pos, ns, op, em, fo, al, told⟩ = .go ⟨pos, ns.dropLast, op, em, fo, al, told ++ [tS "v}"]⟩ := by
  subst hop hem
  unfold step
  simp only [hr, Bool.false_eq_true, if_false]
  rw [if_neg h, if_neg h0]
end
theorem ints_dl : ∀ {vs : List Value} {ns : List Int}, IntsAre vs ns → IntsAre vs.dropLast ns.dropLast
  | _, _, .nil => .nil
  | _, _, .cons _ _ .nil => .nil
  | _, _, .cons n t (.cons n2 t2 r) => .cons n t (ints_dl (.cons n2 t2 r))

/-- what stands at each turn of the tries -/
def TryJ (rest : List (Addr × Obj)) (rl td tl : Addr) (pos : Nat) (t : Tok) (ns : List Int) (told : List PyData) (em : Bool) (i : Nat) (m : Str → Option Value) (nx : List (Addr × Obj)) : Prop :=
  ∃ (pl : Addr) (pvs tvs : List Value) (ep et : Nat), nx = (pl, listOf pvs.toArray ep) :: (tl, listOf tvs.toArray et) :: rest ∧ @Ne Nat pl tl ∧ (∀ p ∈ rest, p.1 ≠ pl) ∧ IntsAre pvs (tryN i ns) ∧ CarriedAll tvs (told ++ tryT i ns) ∧
    m (Str.ofString "rows") = some (.ref rl) ∧ m (Str.ofString "tries") = some (.ref td) ∧ m (Str.ofString "pile") = some (.ref pl) ∧ m (Str.ofString "told") = some (.ref tl) ∧ m (Str.ofString "at") = some (.int pos t) ∧ m (Str.ofString "is_empty") = some (.bool em)
theorem try_turn {g h' : Heap} {L : Addr} {m' : Str → Option Value} {NN rest : List (Addr × Obj)} {rl td tl pl it : Addr} {o : Obj} {pos : Nat} {t : Tok} {ns : List Int} {told : List PyData} {em : Bool} {i : Nat} {pvs tvs : List Value} {ep et tk : Nat} {s : Shared} {Q : Flow → Shared → Prop}
    (F : Fr g L h' m') (N : News g L h' NN) (h0 : (it, o) ∈ NN) (h1 : (pl, listOf pvs.toArray ep) ∈ NN) (h2 : (tl, listOf tvs.toArray et) ∈ NN) (h3 : ∀ p ∈ rest, p ∈ NN) (hne : @Ne Nat pl tl) (hpW : ∀ p ∈ rest, p.1 ≠ pl)
    (hitp : @Ne Nat pl it) (hitl : @Ne Nat tl it) (hoff : ∀ p ∈ rest, p.1 ≠ it) (hi : IntsAre pvs (tryN (i + 1) ns)) (hca : CarriedAll tvs (told ++ tryT (i + 1) ns))
    (k1 : m' (Str.ofString "rows") = some (.ref rl)) (k2 : m' (Str.ofString "tries") = some (.ref td)) (k3 : m' (Str.ofString "pile") = some (.ref pl)) (k4 : m' (Str.ofString "told") = some (.ref tl)) (k5 : m' (Str.ofString "at") = some (.int pos t)) (k6 : m' (Str.ofString "is_empty") = some (.bool em)) :
    TurnP g L (TryJ rest rl td tl pos t ns told em (i + 1)) it o s Q .next { s with heap := h', toks := tk } := by
  refine TurnP.go (nx := (pl, listOf pvs.toArray ep) :: (tl, listOf tvs.toArray et) :: rest) F (news_sub N fun p hp => ?_) (fun p hp => ?_) ⟨pl, pvs, tvs, ep, et, rfl, hne, hpW, hi, hca, k1, k2, k3, k4, k5, k6⟩
  · rcases List.mem_cons.mp hp with rfl | hp
    · exact h0
    rcases List.mem_cons.mp hp with rfl | hp
    · exact h1
    rcases List.mem_cons.mp hp with rfl | hp
    · exact h2
    exact h3 p hp
  · rcases List.mem_cons.mp hp with rfl | hp
    · exact hitp
    rcases List.mem_cons.mp hp with rfl | hp
    · exact hitl
    exact hoff p hp
theorem tryN_t {i : Nat} {ns : List Int} (h : 0 < (tryN i ns).getLastD 0) : (tryN i ns).dropLast = tryN (i + 1) ns := by rw [tryN, if_pos h]
theorem tryN_f {i : Nat} {ns : List Int} (h : ¬ 0 < (tryN i ns).getLastD 0) : tryN i ns = tryN (i + 1) ns := by rw [tryN, if_neg h]
theorem tryT_c {i : Nat} {ns : List Int} {told : List PyData} {tvs : List Value} (h : CarriedAll tvs (told ++ tryT i ns)) : CarriedAll (tvs ++ [.bool (decide (0 < (tryN i ns).getLastD 0))]) (told ++ tryT (i + 1) ns) := by
  rw [tryT, ← List.append_assoc]
  exact PyProof.Rows.CarriedAll.snoc h (.bool _)
theorem range_small {k : Int} (h0 : 0 ≤ k) (h1 : k ≤ 1000) : Builtin.Range.small 0 k 1 = true ∧ Builtin.Range.rangeSize 0 k 1 = ((k.toNat : Nat) : Int) := by
  have e : Builtin.Range.rangeSize 0 k 1 = ((k.toNat : Nat) : Int) := by rw [rangeSize_nat]; simp
  refine ⟨?_, e⟩
  unfold Builtin.Range.small Builtin.Range.rangeFitsLong
  rw [e]
  simp
  omega

end
section
def Held (P : Prop) : Prop := P
theorem held {P : Prop} (h : Held P) : P := h

/-- the dict of the tries, on the ledger -/
def TryAt (w : World) (W : List (Addr × Obj)) (td : Addr) (c : List (Int × Int)) : Prop :=
  ∃ o kvs, (td, o) ∈ W ∧ (td == sysModules) = false ∧ o.IsDictOf (PySem.intKind PySem.Challenge.rw_og0002_01.row.prog w) kvs ∧ PyProof.V.FlatPairs PyData.int kvs (kdfD c)
theorem TryAt.mono {w : World} {W W' : List (Addr × Obj)} {td : Addr} {c : List (Int × Int)} (h : TryAt w W td c) (hs : ∀ p ∈ W, p ∈ W') : TryAt w W' td c :=
  let ⟨o, kvs, h1, h2, h3, h4⟩ := h; ⟨o, kvs, hs _ h1, h2, h3, h4⟩
theorem TryAt.tab {w : World} {W : List (Addr × Obj)} {td : Addr} {c : List (Int × Int)} {h₀ h : Heap} {L : Addr} (t : TryAt w W td c) (N : News h₀ L h W) : IntTab PySem.Challenge.rw_og0002_01.row.prog w h td (kdfD c) :=
  let ⟨_, _, h1, h2, h3, h4⟩ := t; TabAt.ofNews N h1 h2 h3 h4
def triesOf (c : List (Int × Int)) (i : Nat) : Nat := (kdfLook c i 0).toNat

local macro_rules | `(tactic| walk_at "exec While") => `(tactic| (k_here; refine held ?_))
local macro_rules | `(tactic| walk_at "call ref") => `(tactic| (k_here; (with_reducible show wpAny _ _ (call (Value.ref 224) _ _) _ _ _); refine held ?_))
local macro_rules | `(tactic| walk_at "exec For") => `(tactic| (k_here; refine wpAny_For ?_))
local macro_rules | `(tactic| walk_at "exec For Name") => `(tactic| (k_here; refine wpAny_For ?_))
local macro_rules | `(tactic| walk_at "exec For Name Call cons nil") => `(tactic| (k_here; refine held ?_))
local macro_rules | `(tactic| walk_at "WhileStep2") => `(tactic| (refine while2_ret ?_))
local macro_rules | `(tactic| walk_at "call builtin:dict.get") => `(tactic| (k_here; k_dflt (refine' kdf_get2 ?T ?_; (case T => walk_at "my tab"); k_whole); intro t'))
local macro_rules | `(tactic| walk_at "my tab") => `(tactic| (refine' TryAt.tab ?t ?n; (case t => assumption); (case n => exact news_sub (by assumption) (by intro p hp; (simp only [List.mem_cons]); (simp only [hp, or_true])))))
local macro_rules | `(tactic| walk_at "getMethod ref") => `(tactic| (k_here; (with_reducible show wpAny _ _ (getMethod (Value.ref _) (Str.ofString "get") _) _ _ _); k_dflt (refine' getMethod_intTab_get ?T ?_; (case T => walk_at "my tab"); k_whole)))
local macro_rules | `(tactic| walk_at "subscriptTail Name Slice ref ref") => `(tactic| (k_here; k_dflt (refine' slice_dl ?F ?N ?l ?z ?_ ?s ?t; (case F | N => k_asm); (case l => is_list); (case z => first | assumption | (simp only [List.length_append, List.length_dropLast, List.length_cons, List.length_nil]; omega)); (case s => with_unfolding_all rfl); (case t => (intro _; with_unfolding_all rfl))); intro D' h' F' N' l1; (try k_lt l1); (try k_sweep)))
local macro_rules | `(tactic| walk_at "binaryOp Add ref ref") => `(tactic| (k_here; (with_reducible show wpAny _ _ (binaryOp _ (Value.ref _) (Value.ref _)) _ _ _); k_dflt (refine' add_two ?F ?N ?a ?b ?x ?y ?_; (case F | N => k_asm); (case a | b => is_list); (case x => first | assumption | omega | (simp only [List.length_append, List.length_dropLast, List.length_cons, List.length_nil]; omega)); (case y => first | assumption | walk_at "my short" | omega)); intro D' h' F' N' l1; (try k_lt l1); (try k_sweep)))
local macro_rules | `(tactic| walk_at "my short") => `(tactic| (simp only [List.length_cons, List.length_nil]; omega))
local macro_rules | `(tactic| walk_at "my short") => `(tactic| (with_reducible exact rep_short _ _))
local macro_rules | `(tactic| walk_at "subscriptTail Name UnaryOp ref int") => `(tactic| (k_here; (with_unfolding_all refine' item_push ?k1 ?_ ?k6; (case k1 => is_list); (case k6 => with_unfolding_all rfl); k_whole)))
local macro_rules | `(tactic| walk_at "eval IfExp") => `(tactic| (k_here; (with_reducible show wpAny _ _ (eval (PySem.Expr.IfExp (PySem.Expr.Compare _ [CmpOp.NotEq] _ _) _ _ _) _) _ _ _); (fail_if_success (with_reducible show wpAny _ _ _ (JoinV _ _ _ _ _ _) _ _)); (refine join_top (by assumption) (by assumption) (by assumption) ?_ ?_); (case' refine_2 => (intro t' h' tk' F' N'; (try k_sweep)))))
local macro_rules | `(tactic| walk_at "JoinV") => `(tactic| (refine joinV_mk ?_ (by assumption) (by first | assumption | exact news_tail (by assumption) | exact news_tail (news_tail (by assumption))); first | exact ⟨_, rfl⟩ | exact top_nil (by assumption) | rfl | exact last_nil (by assumption) | exact last_nil2 (by assumption)))
local macro_rules | `(tactic| walk_at "isTrue BoolOp") => `(tactic| (k_here; (with_reducible show wpAny _ _ (isTrue (PySem.Expr.BoolOp PySem.BoolOp.And [_, _, _, _] _) _ _) _ _ _); (fail_if_success (with_reducible show wpAny _ _ _ (JoinV _ _ _ _ _ _) _ _)); refine held ?_))
local macro_rules | `(tactic| walk_at "eval BoolOp") => `(tactic| (k_here; (with_reducible show wpAny _ _ (eval (PySem.Expr.BoolOp PySem.BoolOp.And [_, _] _) _) _ _ _); (fail_if_success (with_reducible show wpAny _ _ _ (JoinV _ _ _ _ _ _) _ _)); (refine join_last (by assumption) (by assumption) (by assumption) ?_ ?_); (case' refine_2 => (intro h' tk' F' N'; (try k_sweep)))))

def startS (rows : List Row) : St := ⟨0, [], opensF rows 0, false, false, false, []⟩
section
variable {w : World} {mean : ExcName → Option Value} {mg mb : Str → Option Value} {A A₀ : Around} {base h₀ : Heap} {outer : List Env} {env : Env} {L : Addr} {m : Str → Option Value} {s : Shared}
    {Q : Value → Shared → Prop} {E : Value → Shared → Prop}
variable {news : List (Addr × Obj)} {rl td : Addr} {rvs : List Value} {rows : List Row} {epr : Nat} {c : List (Int × Int)}

/-- what stands at each turn's head in _law_due -/
def DueJ (news : List (Addr × Obj)) (rows : List Row) (c : List (Int × Int)) (rl td : Addr) (n : Nat) (m : Str → Option Value) (nx : List (Addr × Obj)) : Prop :=
  ∃ (S : St) (pl tl : Addr) (pvs tvs : List Value) (ep et : Nat) (rest : List (Addr × Obj)) (t : Tok), nx = (pl, listOf pvs.toArray ep) :: (tl, listOf tvs.toArray et) :: rest ∧ @Ne Nat pl tl ∧ (∀ p ∈ rest, p.1 ≠ pl) ∧ (∀ p ∈ rest, p.1 ≠ tl) ∧ (∀ p ∈ news, p ∈ rest) ∧
    IntsAre pvs S.ns ∧ CarriedAll tvs S.told ∧ Inv rows S ∧ n = mu rows.length S ∧ S.told.length + 4 * mu rows.length S ≤ 700 ∧ (∀ ds, Runs rows (triesOf c) S ds → Runs rows (triesOf c) (startS rows) ds) ∧
    m (Str.ofString "rows") = some (.ref rl) ∧ m (Str.ofString "tries") = some (.ref td) ∧ m (Str.ofString "pile") = some (.ref pl) ∧ m (Str.ofString "told") = some (.ref tl) ∧ m (Str.ofString "at") = some (.int S.pos t) ∧
    m (Str.ofString "opens") = some (.bool S.op) ∧ m (Str.ofString "is_empty") = some (.bool S.em) ∧ m (Str.ofString "is_forced") = some (.bool S.fo) ∧ m (Str.ofString "is_aligned") = some (.bool S.al)

theorem due_start {pl tl : Nat} {h : Heap} {m₀ : Str → Option Value} {t : Tok} (hF : Fr h₀ L h m₀) (N : News h₀ L h ((tl, listOf #[] 0) :: (pl, listOf #[] 0) :: news)) (l0 : ∀ p ∈ news, p.1 < pl) (l1 : pl < tl ∧ AllLt tl news)
    (m1 : m₀ (Str.ofString "rows") = some (.ref rl)) (m2 : m₀ (Str.ofString "tries") = some (.ref td)) (m3 : m₀ (Str.ofString "pile") = some (.ref pl)) (m4 : m₀ (Str.ofString "told") = some (.ref tl)) (m5 : m₀ (Str.ofString "at") = some (.int 0 t))
    (m6 : m₀ (Str.ofString "opens") = some (.bool (opensF rows 0))) (m7 : m₀ (Str.ofString "is_empty") = some (.bool false)) (m8 : m₀ (Str.ofString "is_forced") = some (.bool false)) (m9 : m₀ (Str.ofString "is_aligned") = some (.bool false)) (hlen : rows.length ≤ 15) :
    News h₀ L h ((pl, listOf ([] : List Value).toArray 0) :: (tl, listOf ([] : List Value).toArray 0) :: news) ∧ DueJ news rows c rl td (mu rows.length (startS rows)) m₀ ((pl, listOf ([] : List Value).toArray 0) :: (tl, listOf ([] : List Value).toArray 0) :: news) := by
  refine ⟨news_sub N fun p hp => ?_, startS rows, pl, tl, [], [], 0, 0, news, t, rfl, Nat.ne_of_lt l1.1, all_ne_of_lt l0, all_ne_of_allLt l1.2, fun p hp => hp, .nil, .nil, ⟨Nat.zero_le _, fun x hx => (nomatch hx), fun _ => ⟨rfl, rfl⟩⟩, rfl, ?_, fun ds q => q, m1, m2, m3, m4, m5, m6, m7, m8, m9⟩
  · rcases List.mem_cons.mp hp with rfl | hp
    · exact .tail _ (.head _)
    rcases List.mem_cons.mp hp with rfl | hp
    · exact .head _
    exact .tail _ (.tail _ hp)
  · have : b2n (opensF rows 0) ≤ 1 := by unfold b2n; split <;> omega
    simp only [startS, mu, List.length_nil]
    have h2 : b2n false = 0 := rfl
    rw [h2]; omega

theorem due_next {S S' : St} {g h' : Heap} {m' : Str → Option Value} {NN rest : List (Addr × Obj)} {pl tl : Addr} {pvs tvs : List Value} {ep et tk : Nat} {t : Tok} {QF : Flow → Shared → Prop}
    (hst : step rows (triesOf c) S = .go S') (hcol : ∀ r ∈ rows, 1 ≤ r.col) (htb : ∀ i : Nat, 0 ≤ kdfLook c i 0 ∧ kdfLook c i 0 ≤ 3) (hI : Inv rows S) (hmu : S.told.length + 4 * mu rows.length S ≤ 700) (hruns : ∀ ds, Runs rows (triesOf c) S ds → Runs rows (triesOf c) (startS rows) ds)
    (F : Fr g L h' m') (N : News g L h' NN) (h1 : (pl, listOf pvs.toArray ep) ∈ NN) (h2 : (tl, listOf tvs.toArray et) ∈ NN) (h3 : ∀ p ∈ rest, p ∈ NN) (hne : @Ne Nat pl tl) (hpW : ∀ p ∈ rest, p.1 ≠ pl) (htW : ∀ p ∈ rest, p.1 ≠ tl) (hsub : ∀ p ∈ news, p ∈ rest)
    (hi : IntsAre pvs S'.ns) (hca : CarriedAll tvs S'.told)
    (m1 : m' (Str.ofString "rows") = some (.ref rl)) (m2 : m' (Str.ofString "tries") = some (.ref td)) (m3 : m' (Str.ofString "pile") = some (.ref pl)) (m4 : m' (Str.ofString "told") = some (.ref tl)) (m5 : m' (Str.ofString "at") = some (.int S'.pos t))
    (m6 : m' (Str.ofString "opens") = some (.bool S'.op)) (m7 : m' (Str.ofString "is_empty") = some (.bool S'.em)) (m8 : m' (Str.ofString "is_forced") = some (.bool S'.fo)) (m9 : m' (Str.ofString "is_aligned") = some (.bool S'.al)) :
    WhileStep2 g L s (DueJ news rows c rl td) QF (mu rows.length S) .next { s with heap := h', toks := tk } := by
  obtain ⟨hI', hlt, htold⟩ := step_good hcol (fun i => by have := htb i; unfold triesOf; omega) hI hst
  refine ⟨h', tk, m', (pl, listOf pvs.toArray ep) :: (tl, listOf tvs.toArray et) :: rest, mu rows.length S', rfl, F, news_sub N fun p hp => ?_, hlt, S', pl, tl, pvs, tvs, ep, et, rest, t, rfl, hne, hpW, htW, hsub, hi, hca, hI', rfl, by omega, fun ds q => hruns ds (.go hst q), m1, m2, m3, m4, m5, m6, m7, m8, m9⟩
  rcases List.mem_cons.mp hp with rfl | hp
  · exact h1
  rcases List.mem_cons.mp hp with rfl | hp
  · exact h2
  exact h3 p hp

set_option maxRecDepth 100000 in
set_option maxHeartbeats 4000000 in
theorem due_spec (C : Cx w mean mg mb A A₀ base h₀ outer env L m s.heap) (hdep : A.depth < 600) (hun : A.units < 6000) (N : News h₀ L s.heap news)
    (hrl : (rl, listOf rvs.toArray epr) ∈ news) (hra : RowsAre news rvs rows) (hlen : rows.length ≤ 15) (hcol : ∀ r ∈ rows, 1 ≤ r.col) (hta : TryAt w news td c) (htb : ∀ i : Nat, 0 ≤ kdfLook c i 0 ∧ kdfLook c i 0 ≤ 3)
    (h : ∀ h' tk W' dl dvs ep ds, Fr h₀ L h' m → News h₀ L h' W' → (∀ p ∈ news, p ∈ W') → (dl, listOf dvs.toArray ep) ∈ W' → CarriedAll dvs ds → Runs rows (triesOf c) (startS rows) ds → Q (.ref dl) { s with heap := h', toks := tk }) :
    wpAny (model PySem.Challenge.rw_og0002_01.row.prog w) A (call (.ref 231) [.ref rl, .ref td] []) Q E s := by
  obtain ⟨B, F, X, T, hfr, hloc, hkd, hha⟩ := C
  have _ : Mine.hd.heap_1 w.params = Mine.hd.heap_1 w.params ∧ PySem.Challenge.rw_og0002_01 = PySem.Challenge.rw_og0002_01 := by
    w_top off
    k_fill
    exact ⟨rfl, rfl⟩
  refine wpAny_call ?_
  refine' code_def (binds := [(Str.ofString "rows", .ref rl), (Str.ofString "tries", .ref td)]) B F X N T hfr hloc hkd ?k6 ?k7 ?k8 ?k9 ?kB ?_ ?c2 ?c3 ?c4 ?c5
  case k6 => k_is
  case k7 => k_is
  case k8 => exact Nat.lt_of_lt_of_le hdep (by decide)
  case k9 => first | exact BindsTo.of_eq rfl | exact binds_K (by k_in) rfl (by k_is) rfl rfl rfl
  case c5 => decide
  case kB => exact locs rfl
  case c2 => exact rfl
  case c3 => exact rfl
  case c4 => exact rfl
  intro g' L' h' FG' F' N' B' X' T'
  clear B F X N T
  (try k_fold)
  k_steps
  rename Fr _ _ _ _ => hF
  rename News _ _ _ _ => hN
  unfold Held
  obtain ⟨hN2, hJ⟩ := due_start (c := c) (rows := rows) (rl := rl) (td := td) hF hN (by assumption) (by assumption) rfl rfl rfl rfl rfl rfl rfl rfl rfl hlen
  refine While_inv2 (DueJ news rows c rl td) hF hN2 hJ ?_ ?_
  rotate_left 1
  · passes_own
  clear hF hN hN2 hJ
  rintro n m₁ nx h₁ tk₁ F₁ N₁ ⟨⟨pos, ns, op, em, fo, al, told⟩, pl, tl, pvs, tvs, ep, et, rest, t, rfl, hne, hpW, htW, hsub, hi, hca, hI, rfl, hmu, hruns, m1, m2, m3, m4, m5, m6, m7, m8, m9⟩
  dsimp only at hi hca hI hmu hruns m5 m6 m7 m8 m9
  rw [fr_kn m1] at F₁
  rw [fr_kn m2] at F₁
  rw [fr_kn m3] at F₁
  rw [fr_kn m4] at F₁
  rw [fr_kn m5] at F₁
  rw [fr_kn m6] at F₁
  rw [fr_kn m7] at F₁
  rw [fr_kn m8] at F₁
  rw [fr_kn m9] at F₁
  dsimp only at F₁
  have hrl' := hsub _ hrl
  have hra' := hra.mono hsub
  have hta' := hta.mono hsub
  have hle := hra.length
  have hlen' : rvs.length ≤ 15 := by omega
  have hpl : pvs.length ≤ 1000 := by
    have h1 := hi.length
    simp only [mu] at hmu
    omega
  have htl : tvs.length ≤ 1000 := by
    have h1 := hca.length_eq
    omega
  by_cases hp : pos < rows.length
  · obtain ⟨r, hr⟩ : ∃ r, rows[pos]? = some r := ⟨rows[pos], by simp [hp]⟩
    obtain ⟨a, tt, lt, ct, epq, hx0, hra0⟩ := hra'.get hr
    have hx : rvs.toArray[((pos : Nat) : Int).toNat]? = some (.ref a) := by simpa using hx0
    have hp1 : (pos : Int) < (rvs.length : Int) := by omega
    have hp2 : (pos : Int) < 1000 := by omega
    have hp3 : 0 ≤ (pos : Int) := by omega
    have hpe : ¬ ((pos : Int) = (rvs.length : Int)) := by omega
    have hcl : colAt rows pos = r.col := by unfold colAt; rw [hr]
    k_steps
    all_goals (try walk_at "my push")
    all_goals (try exact (hpe (by assumption)).elim)
    · refine due_next (step_op (by assumption) hcl) hcol htb hI hmu hruns (by assumption) (by assumption) (.head _) (by k_mem) (by intro p hp; simp only [List.mem_cons]; simp only [hp, or_true]) ?_ ?_ htW hsub (IntsAre.append hi (by assumption)) (PyProof.Rows.CarriedAll.snoc (by assumption) (.str _ _)) rfl rfl rfl rfl rfl rfl rfl rfl rfl
      · omega
      · exact all_ne_of_allLt (by first | exact (‹_ ∧ AllLt _ rest›).2 | exact (‹_ ∧ _ ∧ AllLt _ rest›).2.2 | exact (‹_ ∧ _ ∧ _ ∧ AllLt _ rest›).2.2.2 | exact (‹_ ∧ _ ∧ _ ∧ _ ∧ AllLt _ rest›).2.2.2.2 | exact (‹_ ∧ _ ∧ _ ∧ _ ∧ _ ∧ AllLt _ rest›).2.2.2.2.2)
    · refine due_next (step_em (by assumption) (by assumption)) hcol htb hI hmu hruns (by assumption) (by assumption) (.head _) (by k_mem) (by intro p hp; simp only [List.mem_cons]; simp only [hp, or_true]) hne hpW htW hsub hi (PyProof.Rows.CarriedAll.snoc (by assumption) (.str _ _)) rfl rfl rfl rfl rfl rfl rfl rfl rfl
    unfold Held
    refine join_v (fun b => b = (!al && (r.first || fo) && decide (0 < ns.getLastD 0) && decide (r.col ≤ ns.getLastD 0))) (by assumption) (by assumption) ?_ ?_
    · k_steps
      all_goals (refine joinV_mk ?_ (by assumption) (by assumption))
      all_goals first | (simp only [*, Bool.not_true, Bool.not_false, Bool.true_or, Bool.or_true, Bool.false_or, Bool.or_self, Bool.and_self, decide_true, decide_false, Bool.false_and, Bool.and_false, Bool.and_true, Bool.true_and]; done)
    rintro b h₂ tk₂ rfl F₂ N₂
    (try k_sweep)
    k_steps
    all_goals (try walk_at "my push")
    all_goals first
      | exact absurd (by assumption) (by assumption : _ ≠ _)
      | exact due_next (step_al1 (by assumption) (by assumption) hr (by assumption) (by assumption)) hcol htb hI hmu hruns (by assumption) (by assumption) (.head _) (by k_mem) (by intro p hp; simp only [List.mem_cons]; simp only [hp, or_true]) hne hpW htW hsub hi (PyProof.Rows.CarriedAll.snoc (by assumption) (.str _ _)) rfl rfl rfl rfl rfl rfl rfl rfl rfl
      | exact due_next (step_al2 (by assumption) (by assumption) hr (by assumption) (by assumption)) hcol htb hI hmu hruns (by assumption) (by assumption) (.head _) (by k_mem) (by intro p hp; simp only [List.mem_cons]; simp only [hp, or_true]) (by omega) (all_ne_of_allLt (by first | exact (‹_ ∧ _ ∧ AllLt _ rest›).2.2 | exact (‹_ ∧ _ ∧ _ ∧ AllLt _ rest›).2.2.2)) htW hsub (ints_dl hi) (PyProof.Rows.CarriedAll.snoc (by assumption) (.str _ _)) rfl rfl rfl rfl rfl rfl rfl rfl rfl
      | skip
    unfold Held
    refine wpAny_For ?_
    k_steps
    obtain ⟨hsm, hsz⟩ := range_small (htb pos).1 (by have := (htb pos).2; omega)
    refine rng_loop (TryJ rest rl td tl pos t ns told em) hha rfl rfl (by assumption) hsm hsz (by assumption) (by assumption) ?_ ?_ ?_ ?_
    rotate_left 3
    · passes_own
    · exact ⟨pl, pvs, tvs, ep, et, rfl, hne, hpW, hi, by rw [tryT, List.append_nil]; assumption, rfl, rfl, rfl, rfl, rfl, rfl⟩
    · rintro i m₂ nx h₃ tk₃ tk' it o hin ⟨pl', pvs', tvs', ep', et', rfl, hne', hpW', hi', hca', k1, k2, k3, k4, k5, k6⟩ F₃ N₃ hoff
      have hit1 := neN (hoff _ (.head _))
      have hit2 := neN (hoff _ (.tail _ (.head _)))
      dsimp only at hit1 hit2
      have hne2 := neN hne'.symm
      have hpl' : pvs'.length ≤ 1000 := by
        have h1 := hi'.length
        have h2 := hi.length
        have h3 := tryN_len ns i
        omega
      have htl' : tvs'.length ≤ 1000 := by
        have h1 := hca'.length_eq
        have h2 := (htb pos).2
        rw [List.length_append, tryT_len] at h1
        omega
      clear hsm hsz hcol hmu hruns hI m1 m2 m3 m4 m5 m6 m7 m8 m9 h hpW hne hi
      revert FG' F₃ N₃ hca'
      repeat (rename Fr _ _ _ _ => z; clear z)
      repeat (rename News _ _ _ _ => z; clear z)
      repeat (rename CarriedAll _ _ => z; clear z)
      repeat (rename IsRange _ _ _ _ _ _ _ _ => z; clear z)
      intro FG' hca' F₃ N₃
      rw [fr_kn k1] at F₃
      rw [fr_kn k2] at F₃
      rw [fr_kn k3] at F₃
      rw [fr_kn k4] at F₃
      rw [fr_kn k5] at F₃
      rw [fr_kn k6] at F₃
      dsimp only at F₃
      clear k1 k2 k3 k4 k5 k6
      k_steps
      all_goals (try walk_at "my push")
      all_goals first
        | exact try_turn (by assumption) (by assumption) (by k_mem) (by k_mem) (by k_mem) (by intro p hp; simp only [List.mem_cons]; simp only [hp, or_true]) hne' hpW' hit1 hit2 (fun p hp => hoff p (.tail _ (.tail _ hp))) (ints_eq (tryN_f (by first | assumption | exact of_decide_eq_false (by assumption))) hi') (tryT_c (by assumption)) rfl rfl rfl rfl rfl rfl
        | exact try_turn (by assumption) (by assumption) (by k_mem) (.head _) (by k_mem) (by intro p hp; simp only [List.mem_cons]; simp only [hp, or_true]) (by omega) (all_ne_of_allLt (by first | exact (‹_ ∧ _ ∧ AllLt _ rest›).2.2 | exact (‹_ ∧ _ ∧ _ ∧ AllLt _ rest›).2.2.2 | exact (‹_ ∧ _ ∧ _ ∧ _ ∧ AllLt _ rest›).2.2.2.2)) (by omega) hit2 (fun p hp => hoff p (.tail _ (.tail _ hp))) (ints_eq (tryN_t (by first | assumption | exact of_decide_eq_true (by assumption))) (ints_dl hi')) (tryT_c (by assumption)) rfl rfl rfl rfl rfl rfl
    · rintro m₂ nx h₃ tk₃ ⟨pl', pvs', tvs', ep', et', rfl, hne', hpW', hi', hca', k1, k2, k3, k4, k5, k6⟩ F₃ N₃
      have hpl' : pvs'.length ≤ 1000 := by
        have h1 := hi'.length
        have h2 := hi.length
        have h3 := tryN_len ns (kdfLook c pos 0).toNat
        omega
      have htl' : tvs'.length ≤ 990 := by
        have h1 := hca'.length_eq
        have h2 := (htb pos).2
        rw [List.length_append, tryT_len] at h1
        omega
      have htl2 : tvs'.length ≤ 1000 := by omega
      clear hsm hsz m1 m2 m3 m4 m5 m6 m7 m8 m9 hpW hne hi hpl htl
      revert FG' F₃ N₃ hca'
      repeat (rename Fr _ _ _ _ => z; clear z)
      repeat (rename News _ _ _ _ => z; clear z)
      repeat (rename CarriedAll _ _ => z; clear z)
      repeat (rename IsRange _ _ _ _ _ _ _ _ => z; clear z)
      intro FG' hca' F₃ N₃
      rw [fr_kn k1] at F₃
      rw [fr_kn k2] at F₃
      rw [fr_kn k3] at F₃
      rw [fr_kn k4] at F₃
      rw [fr_kn k5] at F₃
      rw [fr_kn k6] at F₃
      dsimp only at F₃
      clear k1 k2 k3 k4 k5 k6
      (try k_fold)
      k_steps
      unfold Held
      refine real_spec (W := rest) (rvs := rvs) (pvs := pvs') (tvs := tvs') (ns := tryN (kdfLook c pos 0).toNat ns) (r := r) (by walk_at "my cx") (by walk_at "my dep") (by walk_at "my un") (by assumption) hrl' hra' hlen hp3 (by omega) (by simpa using hr) hi' hpl' htl2 hne' hpW' htW ?_ ?_
      · intro hc1 hc2 h₄ tk₄ F₄ N₄
        clear F₃ N₃
        k_steps
        exact h _ _ _ _ _ _ _ (by assumption) (by assumption) (by intro p hp; have hp := hsub p hp; simp only [List.mem_cons]; simp only [hp, or_true]) (.head _) (PyProof.Rows.CarriedAll.snoc (by assumption) (.str _ _)) (hruns _ (.fin (step_err (by assumption) (by assumption) hr (by assumption) hc1 hc2)))
      · intro hnc h₄ tk₄ pvs₄ ep₄ et₄ tt₄ F₄ N₄ hi₄
        clear F₃ N₃ hi'
        k_steps
        exact due_next (step_real (by assumption) (by assumption) hr (by assumption) hnc) hcol htb hI hmu hruns (by assumption) (by assumption) (.head _) (.tail _ (.head _)) (fun p hp => .tail _ (.tail _ hp)) hne' hpW' htW hsub hi₄ (PyProof.Rows.CarriedAll.snoc (by assumption) (.str _ _)) rfl rfl rfl rfl rfl rfl rfl rfl rfl
  · have hpn : rows[pos]? = none := by simp; omega
    have hcl : colAt rows pos = 0 := by unfold colAt; rw [hpn]
    have hpo := hI.pos
    dsimp only at hpo
    have hpe : (pos : Int) = (rvs.length : Int) := by omega
    have hp0 : ¬ ((pos : Int) < (rvs.length : Int)) := by omega
    k_steps
    all_goals (try exact absurd hpe (by assumption))
    all_goals (try walk_at "my push")
    all_goals first
      | exact due_next (step_op (by assumption) hcl) hcol htb hI hmu hruns (by assumption) (by assumption) (.head _) (by k_mem) (by intro p hp; simp only [List.mem_cons]; simp only [hp, or_true]) (by omega) (all_ne_of_allLt (by first | exact (‹_ ∧ _ ∧ AllLt _ rest›).2.2 | exact (‹_ ∧ _ ∧ _ ∧ AllLt _ rest›).2.2.2 | exact (‹_ ∧ _ ∧ _ ∧ _ ∧ AllLt _ rest›).2.2.2.2)) htW hsub (IntsAre.append hi (by assumption)) (PyProof.Rows.CarriedAll.snoc (by assumption) (.str _ _)) rfl rfl rfl rfl rfl rfl rfl rfl rfl
      | exact due_next (step_em (by assumption) (by assumption)) hcol htb hI hmu hruns (by assumption) (by assumption) (.head _) (by k_mem) (by intro p hp; simp only [List.mem_cons]; simp only [hp, or_true]) hne hpW htW hsub hi (PyProof.Rows.CarriedAll.snoc (by assumption) (.str _ _)) rfl rfl rfl rfl rfl rfl rfl rfl rfl
      | exact due_next (step_n3 (by assumption) (by assumption) hpn (of_decide_eq_false (by assumption)) (by assumption)) hcol htb hI hmu hruns (by assumption) (by assumption) (by k_mem) (by k_mem) (by intro p hp; simp only [List.mem_cons]; simp only [hp, or_true]) hne hpW htW hsub (by assumption) (PyProof.Rows.CarriedAll.snoc (by assumption) (.str _ _)) rfl rfl rfl rfl rfl rfl rfl rfl rfl
      | exact h _ _ _ _ _ _ _ (by assumption) (by assumption) (by intro p hp; have hp := hsub p hp; simp only [List.mem_cons]; simp only [hp, or_true]) (by k_mem) (by assumption) (hruns _ (.fin (step_n1 (by assumption) (by assumption) hpn (of_decide_eq_true (by assumption)))))
      | exact h _ _ _ _ _ _ _ (by assumption) (by assumption) (by intro p hp; have hp := hsub p hp; simp only [List.mem_cons]; simp only [hp, or_true]) (.head _) (PyProof.Rows.CarriedAll.snoc (by assumption) (.str _ _)) (hruns _ (.fin (step_n2 (by assumption) (by assumption) hpn (of_decide_eq_false (by assumption)) (by assumption))))
end

end
section
section
variable {rows : List Row} {tr : Nat → Nat} {pos : Nat} {ns ns' : List Int} {op em fo al op' em' fo' al' : Bool} {told : List PyData} {col : Int} {r : Row} {t : Str} {first : Bool}
abbrev vS (t : Str) : PyData := .str (Str.ofString "v" ++ t)
theorem vS1 : tS "v{" = vS (Str.ofString "{") := congrArg PyData.str (by decide)
theorem vS2 : tS "v}" = vS (Str.ofString "}") := congrArg PyData.str (by decide)
theorem vS3 : tS "v;" = vS (Str.ofString ";") := congrArg PyData.str (by decide)

/-- what the layout finds ahead of a row's word, and what this law's machine does there -/
theorem found_virt (I : Inv rows ⟨pos, ns, op, em, fo, al, told⟩) (hr : rows[pos]? = some r) (h : fnd op em fo al false r.first r.col ns = .virt t op' em' fo' al' ns') :
    step rows tr ⟨pos, ns, op, em, fo, al, told⟩ = .go ⟨pos, ns', op', em', fo', al', told ++ [vS t]⟩ := by
  obtain ⟨_, hg, ho⟩ := I
  dsimp only at hg ho
  have h0 := last_ge hg
  have hc : colAt rows pos = r.col := by unfold colAt; rw [hr]
  unfold fnd at h
  unfold step
  dsimp only
  by_cases hop : op = true
  · obtain ⟨rfl, rfl⟩ := ho hop
    subst hop
    simp only [if_true, Bool.false_eq_true, if_false] at h ⊢
    rw [hc]
    split at h
    · rename_i q; cases h; rw [if_pos q, vS1]
    · rename_i q; cases h; rw [if_neg q, vS1]
  · have hop : op = false := by simpa using hop
    subst hop
    simp only [Bool.false_eq_true, if_false] at h ⊢
    by_cases hem : em = true
    · subst hem
      simp only [if_true] at h ⊢
      cases h; rw [vS2]
    · have hem : em = false := by simpa using hem
      subst hem
      simp only [Bool.false_eq_true, if_false, hr] at h ⊢
      split at h
      · rename_i hb
        simp only [Bool.and_eq_true, Bool.not_eq_true', Bool.or_eq_true] at hb
        obtain ⟨rfl, hb⟩ := hb
        split at h
        · rename_i q
          cases h
          rw [if_pos ⟨rfl, hb, by omega, q.2⟩, vS2]
        · rename_i q
          split at h
          · rename_i q2
            cases h
            rw [if_neg (fun z => q ⟨by omega, z.2.2.2⟩), if_pos ⟨rfl, hb, by omega, q2.2⟩, vS3]
          · cases h
      · cases h
theorem found_word (I : Inv rows ⟨pos, ns, op, em, fo, al, told⟩) (h : fnd op em fo al false r.first r.col ns = .word op' em' fo' al') :
    op = false ∧ em = false ∧ op' = op ∧ em' = em ∧ fo' = fo ∧ (!al && (r.first || fo) && decide (0 < ns.getLastD 0) && decide (r.col ≤ ns.getLastD 0)) = false := by
  obtain ⟨_, hg, ho⟩ := I
  dsimp only at hg ho
  have h0 := last_ge hg
  unfold fnd at h
  by_cases hop : op = true
  · subst hop
    simp only [if_true, Bool.false_eq_true, if_false] at h
    split at h <;> cases h
  · have hop : op = false := by simpa using hop
    subst hop
    simp only [Bool.false_eq_true, if_false] at h
    by_cases hem : em = true
    · subst hem
      simp only [if_true] at h
      cases h
    · have hem : em = false := by simpa using hem
      subst hem
      simp only [Bool.false_eq_true, if_false] at h
      split at h
      · split at h
        · cases h
        · rename_i q
          split at h
          · cases h
          · rename_i q2
            cases h
            refine ⟨rfl, rfl, rfl, rfl, rfl, ?_⟩
            cases hx : (!al && (r.first || fo) && decide (0 < ns.getLastD 0) && decide (r.col ≤ ns.getLastD 0)) with
            | false => rfl
            | true =>
              simp only [Bool.and_eq_true, decide_eq_true_eq] at hx
              by_cases hq : r.col < ns.getLastD 0
              · exact absurd ⟨by omega, hq⟩ q
              · exact absurd ⟨by omega, by omega⟩ q2
      · rename_i hb
        cases h
        refine ⟨rfl, rfl, rfl, rfl, rfl, ?_⟩
        cases hx : (!al && (r.first || fo) && decide (0 < ns.getLastD 0) && decide (r.col ≤ ns.getLastD 0)) with
        | false => rfl
        | true =>
          simp only [Bool.and_eq_true] at hx
          exact absurd (by simp only [Bool.and_eq_true]; exact hx.1.1) hb
theorem found_err (h : fnd op em fo al false first col ns = .err) : False := by
  unfold fnd at h
  repeat' split at h
  all_goals first | (cases h; done) | contradiction | (simp_all; done)
/-- and at the end -/
theorem end_virt (I : Inv rows ⟨pos, ns, op, em, fo, al, told⟩) (hr : rows[pos]? = none) (h : fnd op em fo al true first col ns = .virt t op' em' fo' al' ns') :
    step rows tr ⟨pos, ns, op, em, fo, al, told⟩ = .go ⟨pos, ns', op', em', fo', al', told ++ [vS t]⟩ := by
  obtain ⟨_, hg, ho⟩ := I
  dsimp only at hg ho
  have h0 := last_ge hg
  have hc : colAt rows pos = 0 := by unfold colAt; rw [hr]
  unfold fnd at h
  unfold step
  dsimp only
  by_cases hop : op = true
  · obtain ⟨rfl, rfl⟩ := ho hop
    subst hop
    simp only [if_true] at h ⊢
    rw [hc]
    rw [if_neg (by omega)] at h ⊢
    cases h; rw [vS1]
  · have hop : op = false := by simpa using hop
    subst hop
    simp only [Bool.false_eq_true, if_false] at h ⊢
    by_cases hem : em = true
    · subst hem
      simp only [if_true] at h ⊢
      cases h; rw [vS2]
    · have hem : em = false := by simpa using hem
      subst hem
      simp only [Bool.false_eq_true, if_false, hr, if_true] at h ⊢
      split at h
      · cases h
      · rename_i q
        split at h
        · cases h
        · rename_i q2
          cases h
          rw [if_neg q, if_neg q2, vS2]
theorem end_word (I : Inv rows ⟨pos, ns, op, em, fo, al, told⟩) (hr : rows[pos]? = none) (h : fnd op em fo al true first col ns = .word op' em' fo' al') :
    ns = [] ∧ step rows tr ⟨pos, ns, op, em, fo, al, told⟩ = .fin told := by
  obtain ⟨_, hg, ho⟩ := I
  dsimp only at hg ho
  have h0 := last_ge hg
  unfold fnd at h
  by_cases hop : op = true
  · subst hop
    simp only [if_true] at h
    split at h <;> cases h
  · have hop : op = false := by simpa using hop
    subst hop
    simp only [Bool.false_eq_true, if_false] at h
    by_cases hem : em = true
    · subst hem
      simp only [if_true] at h
      cases h
    · have hem : em = false := by simpa using hem
      subst hem
      simp only [Bool.false_eq_true, if_false, if_true] at h
      split at h
      · rename_i q
        exact ⟨q, step_n1 rfl rfl hr q⟩
      · split at h <;> cases h
theorem end_err (hr : rows[pos]? = none) (h : fnd op em fo al true first col ns = .err) : step rows tr ⟨pos, ns, op, em, fo, al, told⟩ = .fin (told ++ [tS "error"]) := by
  unfold fnd at h
  by_cases hop : op = true
  · subst hop
    simp only [if_true] at h
    split at h <;> cases h
  · have hop : op = false := by simpa using hop
    subst hop
    simp only [Bool.false_eq_true, if_false] at h
    by_cases hem : em = true
    · subst hem
      simp only [if_true] at h
      cases h
    · have hem : em = false := by simpa using hem
      subst hem
      simp only [Bool.false_eq_true, if_false, if_true] at h
      split at h
      · cases h
      · rename_i q
        split at h
        · rename_i q2
          exact step_n2 rfl rfl hr q q2
        · cases h
end
theorem kind_o (t : Str) : (kindT t == Str.ofString "special" && t == Str.ofString "{") = isO t := by
  cases h : t == Str.ofString "{" with
  | false => simp [isO, h]
  | true => rw [eq_of_beq h]; decide +kernel
theorem kind_c (t : Str) : (kindT t == Str.ofString "special" && t == Str.ofString "}") = isC t := by
  cases h : t == Str.ofString "}" with
  | false => simp [isC, h]
  | true => rw [eq_of_beq h]; decide +kernel
theorem kind_key (t : Str) (h : isKey t = true) : kindT t = Str.ofString "key" ∧ isOpener t = true ∧ isO t = false ∧ isC t = false := by
  unfold isKey at h
  simp only [List.any_cons, List.any_nil, Bool.or_false, Bool.or_eq_true] at h
  rcases h with h | h | h | h <;> (rw [← eq_of_beq h]; decide +kernel)
theorem opener_key (t : Str) (h : isOpener t = true) : isKey t = true := by
  unfold isOpener at h
  simp only [List.any_cons, List.any_nil, Bool.or_false, Bool.or_eq_true] at h
  rcases h with h | h | h | h <;> (rw [← eq_of_beq h]; decide +kernel)
theorem kind_k (t : Str) : (kindT t == Str.ofString "key" && isOpener t) = isKey t := by
  cases h : isKey t with
  | true =>
    obtain ⟨h1, h2, _⟩ := kind_key t h
    rw [h1, h2]; decide
  | false =>
    cases ho : isOpener t with
    | false => simp
    | true => rw [opener_key t ho] at h; cases h
theorem kind_end (t : Str) : (kindT t == Str.ofString "end") = false := by
  unfold kindT
  split
  · decide
  · split <;> decide
theorem pass_op (t : Str) (nx : Bool) : passO (isO t) (isC t) (isKey t) nx false = (isKey t && !nx) := by
  unfold passO
  cases h : isKey t with
  | true =>
    obtain ⟨_, _, h3, h4⟩ := kind_key t h
    rw [h3, h4]; simp
  | false => simp
theorem opens_nx {rows : List Row} {k : Nat} {r : Row} (h : rows[k]? = some r) : (!(isO r.text)) = opensF rows k := by unfold opensF; rw [h]; rfl
theorem opens_nx' {rows : List Row} {k : Nat} (h : rows[k]? = none) : (!false) = opensF rows k := by unfold opensF; rw [h]; rfl
theorem wordN {W : List (Addr × Obj)} {wvs us : List Value} {v : Value} {rows : List Row} (h : wvs = us ++ [v]) (hus : WordsAre W us rows) (hv : WordAt W v EndIs) {i : Nat} (hi : i ≤ rows.length) :
    ∃ a d wb, wvs.toArray[((i : Nat) : Int).toNat]? = some (.ref a) ∧ (a, instObj 79 d) ∈ W ∧ (d, wordD wb) ∈ W ∧ (∀ r, rows[i]? = some r → WordIs r wb) ∧ (rows[i]? = none → EndIs wb) := by
  subst h
  by_cases hi2 : i < rows.length
  · have hr : rows[i]? = some (rows[i]'hi2) := by simp [hi2]
    obtain ⟨u, h1, a, d, wb, rfl, h3, h4, h5⟩ := hus.2 i _ hr
    refine ⟨a, d, wb, ?_, h3, h4, fun r e => ?_, fun e => ?_⟩
    · have : i < us.length := by rw [hus.1]; exact hi2
      simp only [Int.toNat_natCast, List.getElem?_toArray]
      rw [List.getElem?_append_left this]; exact h1
    · rw [hr] at e; cases e; exact h5
    · rw [hr] at e; cases e
  · have hi3 : i = rows.length := by omega
    subst hi3
    obtain ⟨a, d, wb, rfl, h3, h4, h5⟩ := hv
    refine ⟨a, d, wb, ?_, h3, h4, fun r e => ?_, fun _ => h5⟩
    · simp only [Int.toNat_natCast, List.getElem?_toArray]
      rw [← hus.1]; simp
    · simp at e
theorem open0 {rows : List Row} {wb : WB} (h1 : ∀ r, rows[0]? = some r → WordIs r wb) (h2 : rows[0]? = none → EndIs wb) :
    (!(wb.kind == Str.ofString "special" && wb.text == Str.ofString "{") && !(wb.kind == Str.ofString "key" && wb.text == Str.ofString "module")) = opensF rows 0 := by
  cases hr : rows[0]? with
  | none =>
    have e := h2 hr
    rw [e.kind, e.text, ← opens_nx' hr]
    decide +kernel
  | some r =>
    have e := h1 r hr
    rw [e.kind, e.text, kind_o, ← opens_nx hr]
    cases hm : r.text == Str.ofString "module" with
    | false => simp
    | true => rw [eq_of_beq hm]; decide +kernel
theorem fnd_text {op em fo al isEnd first : Bool} {col : Int} {ns ns' : List Int} {t : Str} {op' em' fo' al' : Bool} (h : fnd op em fo al isEnd first col ns = .virt t op' em' fo' al' ns') : t.length ≤ 1 := by
  unfold fnd at h
  repeat' split at h
  all_goals first | (cases h; decide) | cases h

end
section
local macro_rules | `(tactic| walk_at "exec While") => `(tactic| (k_here; refine held ?_))
local macro_rules | `(tactic| walk_at "exec For Name Call cons nil") => `(tactic| (k_here; refine held ?_))
local macro_rules | `(tactic| walk_at "WhileStep2") => `(tactic| (refine while2_ret ?_))
local macro_rules | `(tactic| walk_at "call builtin:dict.get") => `(tactic| (k_here; k_dflt (refine' kdf_get2 ?T ?_; (case T => walk_at "my tab"); k_whole); intro t'))
local macro_rules | `(tactic| walk_at "my tab") => `(tactic| (refine' TryAt.tab ?t ?n; (case t => assumption); (case n => exact news_sub (by assumption) (by intro p hp; (simp only [List.mem_cons]); (simp only [hp, or_true])))))
local macro_rules | `(tactic| walk_at "getMethod ref") => `(tactic| (k_here; (with_reducible show wpAny _ _ (getMethod (Value.ref _) (Str.ofString "get") _) _ _ _); k_dflt (refine' getMethod_intTab_get ?T ?_; (case T => walk_at "my tab"); k_whole)))
local macro_rules | `(tactic| walk_at "compareOp In int ref") => `(tactic| (k_here; k_dflt (refine' kdf_in ?T ?_; (case T => walk_at "my tab"); k_whole)))
local macro_rules | `(tactic| walk_at "call ref") => `(tactic| (k_here; (with_reducible show wpAny _ _ (call (Value.ref 126) _ _) _ _ _); refine held ?_))
local macro_rules | `(tactic| walk_at "call ref") => `(tactic| (k_here; (with_reducible show wpAny _ _ (call (Value.ref 140) _ _) _ _ _); refine held ?_))
local macro_rules | `(tactic| walk_at "call ref") => `(tactic| (k_here; (with_reducible show wpAny _ _ (call (Value.ref 238) _ _) _ _ _); refine held ?_))
local macro_rules | `(tactic| walk_at "call ref") => `(tactic| (k_here; (with_reducible show wpAny _ _ (call (Value.ref 185) _ _) _ _ _); refine held ?_))
local macro_rules | `(tactic| walk_at "call ref") => `(tactic| (k_here; (with_reducible show wpAny _ _ (call (Value.ref 119) _ _) _ _ _); refine held ?_))
local macro_rules | `(tactic| walk_at "call ref") => `(tactic| (k_here; (with_reducible show wpAny _ _ (call (Value.ref 119) _ _) _ _ _); k_dflt (refine' peek_shown ?C ?hd ?N ?a ?b ?_; (case C => walk_at "my cx"); (case hd => walk_at "my dep"); (case N => k_asm); (case a | b => k_mem); k_whole); intro h' tk' F' N'; (try k_sweep)))

local macro_rules | `(tactic| walk_at "binaryOp Add ref ref") => `(tactic| (k_here; (with_reducible show wpAny _ _ (binaryOp _ (Value.ref _) (Value.ref _)) _ _ _); k_dflt (refine' add_two ?F ?N ?a ?b ?x ?y ?_; (case F | N => k_asm); (case a | b => is_list); (case x => first | assumption | omega | (simp only [List.length_append, List.length_dropLast, List.length_cons, List.length_nil]; omega)); (case y => first | assumption | (simp only [List.length_cons, List.length_nil]; omega) | omega)); intro D' h' F' N' l1; (try k_lt l1); (try k_sweep)))
local macro_rules | `(tactic| walk_at "isTrue BoolOp") => `(tactic| (k_here; (rename ((kindT _ == Str.ofString "end") = false) => hkE); (fail_if_success (with_reducible show wpAny _ _ _ (JoinV _ _ _ _ _ _) _ _)); (refine join_v (fun b => b = false) (by assumption) (by assumption) ?_ ?_); (case' refine_2 => (rintro b' h' tk' rfl F' N'; (try k_sweep)))))
local macro_rules | `(tactic| walk_at "JoinV") => `(tactic| (refine joinV_mk ?_ (by assumption) (by assumption); first | rfl | (simp only [*]; done)))

section
variable {w : World} {mean : ExcName → Option Value} {mg mb : Str → Option Value} {A A₀ : Around} {base h₀ : Heap} {outer : List Env} {env : Env} {L : Addr} {m : Str → Option Value} {s : Shared}
    {Q : Value → Shared → Prop} {E : Value → Shared → Prop}
variable {news : List (Addr × Obj)} {rl td : Addr} {rvs : List Value} {rows : List Row} {epr : Nat} {c : List (Int × Int)} {cn : Str} {cs : Scope} {ca : Addr} {ccd : Value}

/-- what stands at each turn's head in _law_told -/
def ToldJ (W0 : List (Addr × Obj)) (rows : List Row) (c : List (Int × Int)) (rl td la dx stk tl wl : Addr) (k0 k1 k2 k3 k4 k5 k6 k7 : Int) (t0 t1 t2 t3 t4 t5 t6 t7 : Tok) (n : Nat) (m : Str → Option Value) (nx : List (Addr × Obj)) : Prop :=
  ∃ (S : St) (vs tvs : List Value) (ep et : Nat) (pt : Tok), nx = (dx, dictOf [⟨k0, .str (Str.ofString "words") t0, .ref wl⟩, ⟨k1, .str (Str.ofString "at") t1, .int (S.pos : Int) pt⟩, ⟨k2, .str (Str.ofString "stack") t2, .ref stk⟩, ⟨k3, .str (Str.ofString "shown") t3, .none⟩, ⟨k4, .str (Str.ofString "is_opening") t4, .bool S.op⟩, ⟨k5, .str (Str.ofString "is_empty") t5, .bool S.em⟩, ⟨k6, .str (Str.ofString "is_forced") t6, .bool S.fo⟩, ⟨k7, .str (Str.ofString "is_aligned") t7, .bool S.al⟩] 8) :: (stk, listOf vs.toArray ep) :: (tl, listOf tvs.toArray et) :: W0 ∧
    IntsAre vs S.ns ∧ CarriedAll tvs S.told ∧ Inv rows S ∧ n = mu rows.length S ∧ S.told.length + 4 * mu rows.length S ≤ 700 ∧ (∀ ds, Runs rows (triesOf c) S ds → Runs rows (triesOf c) (startS rows) ds) ∧
    m (Str.ofString "rows") = some (.ref rl) ∧ m (Str.ofString "tries") = some (.ref td) ∧ m (Str.ofString "layout") = some (.ref la) ∧ m (Str.ofString "told") = some (.ref tl)
theorem told_start {W0 : List (Addr × Obj)} {la dx stk tl wl : Addr} {k0 k1 k2 k3 k4 k5 k6 k7 : Int} {t0 t1 t2 t3 t4 t5 t6 t7 pt : Tok} {h : Heap} {m₀ : Str → Option Value}
    (_ : Fr h₀ L h m₀) (N : News h₀ L h ((tl, listOf #[] 0) :: (dx, dictOf [⟨k0, .str (Str.ofString "words") t0, .ref wl⟩, ⟨k1, .str (Str.ofString "at") t1, .int 0 pt⟩, ⟨k2, .str (Str.ofString "stack") t2, .ref stk⟩, ⟨k3, .str (Str.ofString "shown") t3, .none⟩, ⟨k4, .str (Str.ofString "is_opening") t4, .bool (opensF rows 0)⟩, ⟨k5, .str (Str.ofString "is_empty") t5, .bool false⟩, ⟨k6, .str (Str.ofString "is_forced") t6, .bool false⟩, ⟨k7, .str (Str.ofString "is_aligned") t7, .bool false⟩] 8) :: (stk, listOf ([] : List Value).toArray 0) :: W0))
    (m1 : m₀ (Str.ofString "rows") = some (.ref rl)) (m2 : m₀ (Str.ofString "tries") = some (.ref td)) (m3 : m₀ (Str.ofString "layout") = some (.ref la)) (m4 : m₀ (Str.ofString "told") = some (.ref tl)) (hlen : rows.length ≤ 15) (hlt : dx < tl ∧ stk < tl ∧ AllLt tl W0) :
    ∃ (tl : Addr) (nx : List (Addr × Obj)), News h₀ L h nx ∧ ToldJ W0 rows c rl td la dx stk tl wl k0 k1 k2 k3 k4 k5 k6 k7 t0 t1 t2 t3 t4 t5 t6 t7 (mu rows.length (startS rows)) m₀ nx ∧ @Ne Nat dx tl ∧ @Ne Nat stk tl ∧ ∀ p ∈ W0, p.1 ≠ tl := by
  refine ⟨tl, (dx, dictOf [⟨k0, .str (Str.ofString "words") t0, .ref wl⟩, ⟨k1, .str (Str.ofString "at") t1, .int 0 pt⟩, ⟨k2, .str (Str.ofString "stack") t2, .ref stk⟩, ⟨k3, .str (Str.ofString "shown") t3, .none⟩, ⟨k4, .str (Str.ofString "is_opening") t4, .bool (opensF rows 0)⟩, ⟨k5, .str (Str.ofString "is_empty") t5, .bool false⟩, ⟨k6, .str (Str.ofString "is_forced") t6, .bool false⟩, ⟨k7, .str (Str.ofString "is_aligned") t7, .bool false⟩] 8) :: (stk, listOf ([] : List Value).toArray 0) :: (tl, listOf ([] : List Value).toArray 0) :: W0, news_sub N fun p hp => ?_, ⟨startS rows, [], [], 0, 0, pt, rfl, .nil, .nil, ⟨Nat.zero_le _, fun x hx => (nomatch hx), fun _ => ⟨rfl, rfl⟩⟩, rfl, ?_, fun ds q => q, m1, m2, m3, m4⟩,
    Nat.ne_of_lt hlt.1, Nat.ne_of_lt hlt.2.1, all_ne_of_allLt hlt.2.2⟩
  · rcases List.mem_cons.mp hp with rfl | hp
    · exact .tail _ (.head _)
    rcases List.mem_cons.mp hp with rfl | hp
    · exact .tail _ (.tail _ (.head _))
    rcases List.mem_cons.mp hp with rfl | hp
    · exact .head _
    exact .tail _ (.tail _ (.tail _ hp))
  · have : b2n (opensF rows 0) ≤ 1 := by
      unfold b2n
      split <;> omega
    simp only [startS, mu, List.length_nil]
    have h2 : b2n false = 0 := rfl
    rw [h2]; omega
theorem told_next {S S' : St} {W0 : List (Addr × Obj)} {la dx stk tl wl : Addr} {k0 k1 k2 k3 k4 k5 k6 k7 : Int} {t0 t1 t2 t3 t4 t5 t6 t7 pt : Tok} {g h' : Heap} {m' : Str → Option Value} {NN : List (Addr × Obj)} {vs tvs : List Value} {ep et tk : Nat} {QF : Flow → Shared → Prop}
    (hst : step rows (triesOf c) S = .go S') (hcol : ∀ r ∈ rows, 1 ≤ r.col) (htb : ∀ i : Nat, 0 ≤ kdfLook c i 0 ∧ kdfLook c i 0 ≤ 3) (hI : Inv rows S) (hmu : S.told.length + 4 * mu rows.length S ≤ 700) (hruns : ∀ ds, Runs rows (triesOf c) S ds → Runs rows (triesOf c) (startS rows) ds)
    (F : Fr g L h' m') (N : News g L h' NN) (h1 : (dx, dictOf [⟨k0, .str (Str.ofString "words") t0, .ref wl⟩, ⟨k1, .str (Str.ofString "at") t1, .int (S'.pos : Int) pt⟩, ⟨k2, .str (Str.ofString "stack") t2, .ref stk⟩, ⟨k3, .str (Str.ofString "shown") t3, .none⟩, ⟨k4, .str (Str.ofString "is_opening") t4, .bool S'.op⟩, ⟨k5, .str (Str.ofString "is_empty") t5, .bool S'.em⟩, ⟨k6, .str (Str.ofString "is_forced") t6, .bool S'.fo⟩, ⟨k7, .str (Str.ofString "is_aligned") t7, .bool S'.al⟩] 8) ∈ NN) (h2 : (stk, listOf vs.toArray ep) ∈ NN) (h3 : (tl, listOf tvs.toArray et) ∈ NN) (h4 : ∀ p ∈ W0, p ∈ NN)
    (hi : IntsAre vs S'.ns) (hca : CarriedAll tvs S'.told)
    (m1 : m' (Str.ofString "rows") = some (.ref rl)) (m2 : m' (Str.ofString "tries") = some (.ref td)) (m3 : m' (Str.ofString "layout") = some (.ref la)) (m4 : m' (Str.ofString "told") = some (.ref tl)) :
    WhileStep2 g L s (ToldJ W0 rows c rl td la dx stk tl wl k0 k1 k2 k3 k4 k5 k6 k7 t0 t1 t2 t3 t4 t5 t6 t7) QF (mu rows.length S) .next { s with heap := h', toks := tk } := by
  obtain ⟨hI', hlt, htold⟩ := step_good hcol (fun i => by have := htb i; unfold triesOf; omega) hI hst
  refine ⟨h', tk, m', (dx, dictOf [⟨k0, .str (Str.ofString "words") t0, .ref wl⟩, ⟨k1, .str (Str.ofString "at") t1, .int (S'.pos : Int) pt⟩, ⟨k2, .str (Str.ofString "stack") t2, .ref stk⟩, ⟨k3, .str (Str.ofString "shown") t3, .none⟩, ⟨k4, .str (Str.ofString "is_opening") t4, .bool S'.op⟩, ⟨k5, .str (Str.ofString "is_empty") t5, .bool S'.em⟩, ⟨k6, .str (Str.ofString "is_forced") t6, .bool S'.fo⟩, ⟨k7, .str (Str.ofString "is_aligned") t7, .bool S'.al⟩] 8) :: (stk, listOf vs.toArray ep) :: (tl, listOf tvs.toArray et) :: W0, mu rows.length S', rfl, F, news_sub N fun p hp => ?_, hlt, S', vs, tvs, ep, et, pt, rfl, hi, hca, hI', rfl, by omega, fun ds q => hruns ds (.go hst q), m1, m2, m3, m4⟩
  rcases List.mem_cons.mp hp with rfl | hp
  · exact h1
  rcases List.mem_cons.mp hp with rfl | hp
  · exact h2
  rcases List.mem_cons.mp hp with rfl | hp
  · exact h3
  exact h4 p hp
theorem news_mv {h : Heap} {p1 p2 p3 p4 : Addr × Obj} {l : List (Addr × Obj)} (N : News h₀ L h (p1 :: p2 :: p3 :: p4 :: l)) : News h₀ L h (p3 :: p4 :: p1 :: p2 :: l) := news_sub N fun x hx => by
  simp only [List.mem_cons] at hx ⊢
  rcases hx with z | z | z | z | z
  · exact Or.inr (Or.inr (Or.inl z))
  · exact Or.inr (Or.inr (Or.inr (Or.inl z)))
  · exact Or.inl z
  · exact Or.inr (Or.inl z)
  · exact Or.inr (Or.inr (Or.inr (Or.inr z)))

/-- what stands at each turn of the tries in _law_told -/
def ToldTry (W0 : List (Addr × Obj)) (rl td la a dx stk tl wl : Addr) (k0 k1 k2 k3 k4 k5 k6 k7 : Int) (t0 t1 t2 t3 t4 t5 t6 t7 pt : Tok) (pos : Nat) (op em fo al : Bool) (ns : List Int) (told : List PyData) (i : Nat) (m : Str → Option Value) (nx : List (Addr × Obj)) : Prop :=
  ∃ (vs tvs : List Value) (ep et : Nat), nx = (dx, dictOf [⟨k0, .str (Str.ofString "words") t0, .ref wl⟩, ⟨k1, .str (Str.ofString "at") t1, .int (pos : Int) pt⟩, ⟨k2, .str (Str.ofString "stack") t2, .ref stk⟩, ⟨k3, .str (Str.ofString "shown") t3, .ref a⟩, ⟨k4, .str (Str.ofString "is_opening") t4, .bool op⟩, ⟨k5, .str (Str.ofString "is_empty") t5, .bool em⟩, ⟨k6, .str (Str.ofString "is_forced") t6, .bool fo⟩, ⟨k7, .str (Str.ofString "is_aligned") t7, .bool al⟩] 8) :: (stk, listOf vs.toArray ep) :: (tl, listOf tvs.toArray et) :: W0 ∧
    IntsAre vs (tryN i ns) ∧ CarriedAll tvs (told ++ tryT i ns) ∧
    m (Str.ofString "rows") = some (.ref rl) ∧ m (Str.ofString "tries") = some (.ref td) ∧ m (Str.ofString "layout") = some (.ref la) ∧ m (Str.ofString "told") = some (.ref tl) ∧ m (Str.ofString "word") = some (.ref a)
theorem told_turn {W0 : List (Addr × Obj)} {la a dx stk tl wl it : Addr} {o : Obj} {k0 k1 k2 k3 k4 k5 k6 k7 : Int} {t0 t1 t2 t3 t4 t5 t6 t7 pt : Tok} {pos : Nat} {op em fo al : Bool} {ns : List Int} {told : List PyData} {i : Nat}
    {g h' : Heap} {m' : Str → Option Value} {NN : List (Addr × Obj)} {vs tvs : List Value} {ep et tk : Nat} {QF : Flow → Shared → Prop}
    (F : Fr g L h' m') (N : News g L h' NN) (h0 : (it, o) ∈ NN) (h1 : (dx, dictOf [⟨k0, .str (Str.ofString "words") t0, .ref wl⟩, ⟨k1, .str (Str.ofString "at") t1, .int (pos : Int) pt⟩, ⟨k2, .str (Str.ofString "stack") t2, .ref stk⟩, ⟨k3, .str (Str.ofString "shown") t3, .ref a⟩, ⟨k4, .str (Str.ofString "is_opening") t4, .bool op⟩, ⟨k5, .str (Str.ofString "is_empty") t5, .bool em⟩, ⟨k6, .str (Str.ofString "is_forced") t6, .bool fo⟩, ⟨k7, .str (Str.ofString "is_aligned") t7, .bool al⟩] 8) ∈ NN) (h2 : (stk, listOf vs.toArray ep) ∈ NN) (h3 : (tl, listOf tvs.toArray et) ∈ NN) (h4 : ∀ p ∈ W0, p ∈ NN)
    (n1 : @Ne Nat dx it) (n2 : @Ne Nat stk it) (n3 : @Ne Nat tl it) (hoff : ∀ p ∈ W0, p.1 ≠ it)
    (hi : IntsAre vs (tryN (i + 1) ns)) (hca : CarriedAll tvs (told ++ tryT (i + 1) ns))
    (m1 : m' (Str.ofString "rows") = some (.ref rl)) (m2 : m' (Str.ofString "tries") = some (.ref td)) (m3 : m' (Str.ofString "layout") = some (.ref la)) (m4 : m' (Str.ofString "told") = some (.ref tl)) (m5 : m' (Str.ofString "word") = some (.ref a)) :
    TurnP g L (ToldTry W0 rl td la a dx stk tl wl k0 k1 k2 k3 k4 k5 k6 k7 t0 t1 t2 t3 t4 t5 t6 t7 pt pos op em fo al ns told (i + 1)) it o s QF .next { s with heap := h', toks := tk } := by
  refine TurnP.go (nx := (dx, dictOf [⟨k0, .str (Str.ofString "words") t0, .ref wl⟩, ⟨k1, .str (Str.ofString "at") t1, .int (pos : Int) pt⟩, ⟨k2, .str (Str.ofString "stack") t2, .ref stk⟩, ⟨k3, .str (Str.ofString "shown") t3, .ref a⟩, ⟨k4, .str (Str.ofString "is_opening") t4, .bool op⟩, ⟨k5, .str (Str.ofString "is_empty") t5, .bool em⟩, ⟨k6, .str (Str.ofString "is_forced") t6, .bool fo⟩, ⟨k7, .str (Str.ofString "is_aligned") t7, .bool al⟩] 8) :: (stk, listOf vs.toArray ep) :: (tl, listOf tvs.toArray et) :: W0) F (news_sub N fun p hp => ?_) (fun p hp => ?_) ⟨vs, tvs, ep, et, rfl, hi, hca, m1, m2, m3, m4, m5⟩
  · rcases List.mem_cons.mp hp with rfl | hp
    · exact h0
    rcases List.mem_cons.mp hp with rfl | hp
    · exact h1
    rcases List.mem_cons.mp hp with rfl | hp
    · exact h2
    rcases List.mem_cons.mp hp with rfl | hp
    · exact h3
    exact h4 p hp
  · rcases List.mem_cons.mp hp with rfl | hp
    · exact n1
    rcases List.mem_cons.mp hp with rfl | hp
    · exact n2
    rcases List.mem_cons.mp hp with rfl | hp
    · exact n3
    exact hoff p hp
theorem nx_opens {k : Nat} {wb : WB} (h1 : ∀ r, rows[k]? = some r → WordIs r wb) (h2 : rows[k]? = none → EndIs wb) : (wb.kind == Str.ofString "special" && wb.text == Str.ofString "{") = !opensF rows k := by
  cases hr : rows[k]? with
  | none =>
    have e := h2 hr
    rw [e.kind, e.text, ← opens_nx' hr]
    decide +kernel
  | some r =>
    have e := h1 r hr
    rw [e.kind, e.text, kind_o, ← opens_nx hr, Bool.not_not]
theorem last_tf {ns : List Int} {i : Nat} {told : List PyData} {tvs : List Value} {b : Bool} (hb : b = decide (0 < (tryN i ns).getLastD 0)) (h : CarriedAll tvs (told ++ tryT i ns)) : CarriedAll (tvs ++ [.bool b]) (told ++ tryT (i + 1) ns) := hb ▸ tryT_c h
theorem last_pos {ns : List Int} {i : Nat} (hg : ∀ x ∈ ns, 0 ≤ x) (h : (tryN i ns).getLastD 0 ≠ 0) : 0 < (tryN i ns).getLastD 0 := by
  have := last_ge (tryN_ge hg i)
  omega

set_option maxRecDepth 100000 in
set_option maxHeartbeats 4000000 in
theorem told_spec (C : Cx w mean mg mb A A₀ base h₀ [] (envOf cn cs L ca ccd) L m s.heap) (XB : (Mine.hd.heap_1 w.params).In base) (TB : Top Mine.hd.view_39 (looseW Mine.hd.view_39 [Str.ofString "LazyError"]) mean mg mb base) (hdep : A.depth < 600) (hun : A.units < 6000) (N : News h₀ L s.heap news)
    (hrl : (rl, listOf rvs.toArray epr) ∈ news) (hra : RowsAre news rvs rows) (hlen : rows.length ≤ 15) (hcol : ∀ r ∈ rows, 1 ≤ r.col) (hta : TryAt w news td c) (htb : ∀ i : Nat, 0 ≤ kdfLook c i 0 ∧ kdfLook c i 0 ≤ 3)
    (h : ∀ h' tk W' dl dvs ep ds, Fr h₀ L h' m → News h₀ L h' W' → (∀ p ∈ news, p ∈ W') → (dl, listOf dvs.toArray ep) ∈ W' → CarriedAll dvs ds → Runs rows (triesOf c) (startS rows) ds → Q (.ref dl) { s with heap := h', toks := tk }) :
    wpAny (model PySem.Challenge.rw_og0002_01.row.prog w) A (call (.ref 245) [.ref rl, .ref td] []) Q E s := by
  obtain ⟨B, F, X, T, hfr, hloc, hkd, hha⟩ := C
  have _ : Mine.hd.heap_1 w.params = Mine.hd.heap_1 w.params ∧ PySem.Challenge.rw_og0002_01 = PySem.Challenge.rw_og0002_01 := by
    w_top off
    k_fill
    exact ⟨rfl, rfl⟩
  refine wpAny_call ?_
  refine' code_defS0 (binds := [(Str.ofString "rows", .ref rl), (Str.ofString "tries", .ref td)]) B F X N T hfr ?k6 ?k7 ?k8 ?k9 ?kB ?_ ?cK ?c2 ?c3 ?c4 ?c5
  case k6 => k_is
  case k7 => k_is
  case k8 => exact Nat.lt_of_lt_of_le hdep (by decide)
  case k9 => first | exact BindsTo.of_eq rfl | exact binds_K (by k_in) rfl (by k_is) rfl rfl rfl
  case c5 => decide
  case kB => exact locs rfl
  case cK => exact hkd
  case c2 => exact rfl
  case c3 => exact rfl
  case c4 => exact rfl
  intro g' L' h' FG' F' N' B' X' T' D'
  clear B F X N T
  (try k_fold)
  k_steps
  unfold Held
  refine words_spec (by walk_at "my cx") (by walk_at "my dep") (by walk_at "my un") (by assumption) hrl hra hlen ?_
  intro h₁ tk₁ W' wl wvs epw F₁ N₁ hsub hwl ⟨us, v, hwv, hus, hv⟩
  (try k_sweep)
  k_steps
  unfold Held
  obtain ⟨a0, d0, wb0, hx0, hwa0, hwd0, hp0, hq0⟩ := wordN hwv hus hv (Nat.zero_le _)
  refine lay_make (a := a0) (d := d0) (b0 := wb0) (epw := epw) (wvs := wvs) (by walk_at "my cx") (by walk_at "my dep") (by assumption) hwl hx0 hwa0 hwd0 ?_
  rw [open0 hp0 hq0]
  intro h₂ tk₂ la dx stk k0 k1 k2 k3 k4 k5 k6 k7 t0 t1 t2 t3 t4 t5 t6 t7 pt F₂ N₂ hne hdW hsW
  (try k_sweep)
  k_steps
  unfold Held
  rename Fr _ _ _ _ => hF
  rename News _ _ _ _ => hN
  rename (dx < _ ∧ stk < _ ∧ la < _ ∧ AllLt _ W') => hlt
  obtain ⟨tl, nx₀, hN2, hJ, hdt, hst0, hWt⟩ := told_start (c := c) (rl := rl) (td := td) (la := la) hF hN rfl rfl rfl rfl hlen ⟨hlt.1, hlt.2.1, hlt.2.2⟩
  refine While_inv2 _ hF hN2 hJ ?_ ?_
  rotate_left 1
  · passes_own
  clear hF hN hN2 hJ hlt
  rintro n m₁ nx h₃ tk₃ F₃ N₃ ⟨⟨pos, ns, op, em, fo, al, told⟩, vs, tvs, ep, et, pt', rfl, hi, hca, hI, rfl, hmu, hruns, m1, m2, m3, m4⟩
  dsimp only at hi hca hI hmu hruns N₃
  rw [fr_kn m1] at F₃
  rw [fr_kn m2] at F₃
  rw [fr_kn m3] at F₃
  rw [fr_kn m4] at F₃
  dsimp only at F₃
  clear m1 m2 m3 m4
  have hrl' := hsub _ hrl
  have hra' := hra.mono hsub
  have hta' := hta.mono hsub
  have hpo := hI.pos
  dsimp only at hpo
  have hpl : vs.length ≤ 1000 := by
    have h1 := hi.length
    simp only [mu] at hmu
    omega
  have htl : tvs.length ≤ 900 := by
    have h1 := hca.length_eq
    omega
  have hdW' : ∀ p ∈ (tl, listOf tvs.toArray et) :: (la, instObj 185 dx) :: W', p.1 ≠ dx := by
    intro p hp
    rcases List.mem_cons.mp hp with rfl | hp
    · exact hdt.symm
    · exact hdW p hp
  have hsW' : ∀ p ∈ (tl, listOf tvs.toArray et) :: (la, instObj 185 dx) :: W', p.1 ≠ stk := by
    intro p hp
    rcases List.mem_cons.mp hp with rfl | hp
    · exact hst0.symm
    · exact hsW p hp
  have hla' : (la, instObj 185 dx) ∈ (tl, listOf tvs.toArray et) :: (la, instObj 185 dx) :: W' := .tail _ (.head _)
  have hwl' : (wl, listOf wvs.toArray epw) ∈ (tl, listOf tvs.toArray et) :: (la, instObj 185 dx) :: W' := .tail _ (.tail _ hwl)
  obtain ⟨a, d, wb, hx, hwa, hwd, hpr, hpq⟩ := wordN hwv hus hv hpo
  obtain ⟨q0, q1, q2, q3, q4, q5, u0, u1, u2, u3, u4, u5, kind, kt, text, tt, line, lt, col, ct, value, first⟩ := wb
  have hwa' : (a, instObj 79 d) ∈ (tl, listOf tvs.toArray et) :: (la, instObj 185 dx) :: W' := .tail _ (.tail _ hwa)
  have hwd' : (d, wordD ⟨q0, q1, q2, q3, q4, q5, u0, u1, u2, u3, u4, u5, kind, kt, text, tt, line, lt, col, ct, value, first⟩) ∈ (tl, listOf tvs.toArray et) :: (la, instObj 185 dx) :: W' := .tail _ (.tail _ hwd)
  k_steps
  unfold Held
  rcases hr : rows[pos]? with _ | r
  · obtain ⟨e1, e2, e3, e4⟩ := hpq hr
    dsimp only at e1 e2 e3 e4
    subst e1 e2 e3 e4
    refine peek_fresh (W := (tl, listOf tvs.toArray et) :: (la, instObj 185 dx) :: W') (a := a) (d := d) (wvs := wvs) (epw := epw) (ns := ns) (by walk_at "my cx") (by walk_at "my dep") (by walk_at "my un") (by assumption) hla' hwl' (by omega) (by omega) hx hwa' hwd' hi hpl hne hdW' hsW' ?_ ?_ ?_
    · intro op' em' fo' al' hf h₄ tk₄ F₄ N₄
      obtain ⟨hns, hst⟩ := end_word (tr := triesOf c) hI hr hf
      clear N₃ F₃
      subst hns
      dsimp only [wordD] at hwd'
      k_steps
      unfold Held
      refine cbe_word (W := (tl, listOf tvs.toArray et) :: (la, instObj 185 dx) :: W') (a := a) (d := d) (wb := ⟨q0, q1, q2, q3, q4, q5, u0, u1, u2, u3, u4, u5, Str.ofString "end", kt, Str.ofString "", tt, line, lt, col, ct, .none, true⟩) (ns := []) (la := la) (by walk_at "my cx") (by walk_at "my dep") (by walk_at "my un") (by assumption) hla' hwa' hwd' rfl hi hpl hne hdW' hsW' (fun _ => ?_) (fun q => absurd rfl q)
      intro h₅ tk₅ F₅ N₅
      (try k_sweep)
      k_steps
      exact leaveS0_ (by assumption) (by assumption) .refl fun F N => h _ _ _ _ _ _ _ F N (by intro p hp; have hp := hsub p hp; simp only [List.mem_cons]; simp only [hp, or_true]) (by k_mem) (by assumption) (hruns _ (.fin hst))
    · intro t op' em' fo' al' ns' hf h₄ tk₄ x xd vb vs' ep' F₄ N₄ hi₄ hV
      have hst : step rows (triesOf c) ⟨pos, ns, op, em, fo, al, told⟩ = .go ⟨pos, ns', op', em', fo', al', told ++ [vS t]⟩ := end_virt hI hr hf
      obtain ⟨q0, q1, q2, q3, q4, q5, u0, u1, u2, u3, u4, u5, kind, kt, text, tt, line, lt, col, ct, value, first⟩ := vb
      obtain ⟨lx1, lx2, lx3, lx4, e1, e2, tv, e3⟩ := hV
      dsimp only at e1 e2 e3 N₄
      subst e1 e2 e3
      have N₅ := news_mv N₄
      have hl1 : (Str.ofString "v").length ≤ 1 := by decide
      have hl2 : text.length ≤ 1 := fnd_text hf
      clear N₄ N₃ F₃ hi hf
      have hdW2 : ∀ p ∈ (x, instObj 79 xd) :: (xd, wordD ⟨q0, q1, q2, q3, q4, q5, u0, u1, u2, u3, u4, u5, Str.ofString "special", kt, text, tt, line, lt, col, ct, .str (Str.ofString "virtual") tv, first⟩) :: (tl, listOf tvs.toArray et) :: (la, instObj 185 dx) :: W', p.1 ≠ dx := by
        intro p hp
        rcases List.mem_cons.mp hp with rfl | hp
        · exact Nat.ne_of_gt (Nat.lt_trans lx1 lx3)
        rcases List.mem_cons.mp hp with rfl | hp
        · exact Nat.ne_of_gt lx1
        exact hdW' p hp
      have htx : tl < xd := lx4 _ (.head _)
      have nx1 := neN (Nat.ne_of_lt htx)
      have nx2 := neN (Nat.ne_of_lt (Nat.lt_trans htx lx3))
      have nx3 := neN hdt.symm
      have nx4 := neN hst0.symm
      dsimp only [wordD] at N₅
      k_steps
      all_goals unfold Held
      · refine cbe_virt (W := (x, instObj 79 xd) :: (xd, wordD ⟨q0, q1, q2, q3, q4, q5, u0, u1, u2, u3, u4, u5, Str.ofString "special", kt, text, tt, line, lt, col, ct, .str (Str.ofString "virtual") tv, first⟩) :: (tl, listOf tvs.toArray et) :: (la, instObj 185 dx) :: W') (vb := ⟨q0, q1, q2, q3, q4, q5, u0, u1, u2, u3, u4, u5, Str.ofString "special", kt, text, tt, line, lt, col, ct, .str (Str.ofString "virtual") tv, first⟩) (tv := tv) (la := la) (by walk_at "my cx") (by walk_at "my dep") (by walk_at "my un") (by assumption) (.tail _ (.tail _ (.tail _ (.head _)))) (.head _) (.tail _ (.head _)) rfl rfl ?_
        intro h₅ tk₅ F₅ N₇
        dsimp only [wordD] at N₇
        (try k_sweep)
        k_steps
        unfold Held
        refine next_virt (W := (x, instObj 79 xd) :: (xd, wordD ⟨q0, q1, q2, q3, q4, q5, u0, u1, u2, u3, u4, u5, Str.ofString "special", kt, text, tt, line, lt, col, ct, .str (Str.ofString "virtual") tv, first⟩) :: (tl, listOf tvs.toArray et) :: (la, instObj 185 dx) :: W') (vb := ⟨q0, q1, q2, q3, q4, q5, u0, u1, u2, u3, u4, u5, Str.ofString "special", kt, text, tt, line, lt, col, ct, .str (Str.ofString "virtual") tv, first⟩) (tv := tv) (la := la) (by walk_at "my cx") (by walk_at "my dep") (by walk_at "my un") (by assumption) (.tail _ (.tail _ (.tail _ (.head _)))) (.head _) (.tail _ (.head _)) rfl rfl hne hdW2 ?_
        intro h₆ tk₆ F₆ N₆
        dsimp only [wordD] at N₆
        (try k_sweep)
        k_steps
        all_goals (try walk_at "my push")
        exact told_next hst hcol htb hI hmu hruns (by assumption) (by assumption) (.head _) (.tail _ (.head _)) (.tail _ (.tail _ (.tail _ (.tail _ (.head _))))) (fun p hp => .tail _ (.tail _ (.tail _ (.tail _ (.tail _ hp))))) hi₄ (PyProof.Rows.CarriedAll.snoc (by assumption) (.str _ _)) rfl rfl rfl rfl

      · refine next_virt (W := (x, instObj 79 xd) :: (xd, wordD ⟨q0, q1, q2, q3, q4, q5, u0, u1, u2, u3, u4, u5, Str.ofString "special", kt, text, tt, line, lt, col, ct, .str (Str.ofString "virtual") tv, first⟩) :: (tl, listOf tvs.toArray et) :: (la, instObj 185 dx) :: W') (vb := ⟨q0, q1, q2, q3, q4, q5, u0, u1, u2, u3, u4, u5, Str.ofString "special", kt, text, tt, line, lt, col, ct, .str (Str.ofString "virtual") tv, first⟩) (tv := tv) (la := la) (by walk_at "my cx") (by walk_at "my dep") (by walk_at "my un") (by assumption) (.tail _ (.tail _ (.tail _ (.head _)))) (.head _) (.tail _ (.head _)) rfl rfl hne hdW2 ?_
        intro h₆ tk₆ F₆ N₆
        dsimp only [wordD] at N₆
        (try k_sweep)
        k_steps
        all_goals (try walk_at "my push")
        exact told_next hst hcol htb hI hmu hruns (by assumption) (by assumption) (.head _) (.tail _ (.head _)) (.tail _ (.tail _ (.tail _ (.tail _ (.head _))))) (fun p hp => .tail _ (.tail _ (.tail _ (.tail _ (.tail _ hp))))) hi₄ (PyProof.Rows.CarriedAll.snoc (by assumption) (.str _ _)) rfl rfl rfl rfl

    · intro hf h₄ tk₄ e hER
      obtain ⟨G, hG, R, U⟩ := hER
      have hst := end_err (tr := triesOf c) (told := told) hr hf
      clear F₃ N₃
      k_steps
      exact leaveS0_ (by assumption) (by assumption) (by assumption) fun F N => h _ _ _ _ _ _ _ F N (by intro p hp; have hp := hsub p hp; simp only [List.mem_cons]; simp only [hp, or_true]) (.head _) (PyProof.Rows.CarriedAll.snoc (by assumption) (.str _ _)) (hruns _ (.fin hst))
  · obtain ⟨e1, e2, e3, e4, e5⟩ := hpr r hr
    dsimp only at e1 e2 e3 e4 e5
    subst e1 e2 e3 e4 e5
    refine peek_fresh (W := (tl, listOf tvs.toArray et) :: (la, instObj 185 dx) :: W') (a := a) (d := d) (wvs := wvs) (epw := epw) (ns := ns) (by walk_at "my cx") (by walk_at "my dep") (by walk_at "my un") (by assumption) hla' hwl' (by omega) (by omega) hx hwa' hwd' hi hpl hne hdW' hsW' ?_ ?_ ?_
    · intro op' em' fo' al' hf h₄ tk₄ F₄ N₄
      rw [kind_end] at hf
      obtain ⟨rfl, rfl, rfl, rfl, rfl, hb⟩ := found_word hI hf
      clear N₃ F₃
      have hke : (kindT r.text == Str.ofString "end") = false := kind_end r.text
      dsimp only [wordD] at hwd'
      k_steps
      all_goals (try exact (bne_contra (by assumption) (by assumption)).elim)
      unfold Held
      refine wpAny_For ?_
      k_steps
      obtain ⟨hsm, hsz⟩ := range_small (htb pos).1 (by have := (htb pos).2; omega)
      have hge := hI.ge
      dsimp only at hge
      refine rng_loop (ToldTry ((la, instObj 185 dx) :: W') rl td la a dx stk tl wl k0 k1 k2 k3 k4 k5 k6 k7 t0 t1 t2 t3 t4 t5 t6 t7 pt' pos false false fo' al' ns told) hha rfl rfl (by assumption) hsm hsz (by assumption) (by assumption) ?_ ?_ ?_ ?_
      rotate_left 3
      · passes_own
      · exact ⟨vs, tvs, ep, et, rfl, hi, by rw [tryT, List.append_nil]; assumption, rfl, rfl, rfl, rfl, rfl⟩
      · rintro i m₂ nx h₃ tk₃ tk' it o hin ⟨vs', tvs', ep', et', rfl, hi', hca', k1, k2, k3, k4, k5⟩ F₃ N₃ hoff
        have ht1 := hoff _ (.head _)
        have ht2 := hoff _ (.tail _ (.head _))
        have ht3 := hoff _ (.tail _ (.tail _ (.head _)))
        have hof0 : ∀ p ∈ (la, instObj 185 dx) :: W', p.1 ≠ it := fun p hp => hoff p (.tail _ (.tail _ (.tail _ hp)))
        dsimp only at ht1 ht2 ht3
        have nx3 := neN hdt.symm
        have nx4 := neN hst0.symm
        have nx5 := neN ht3
        have hla'' : (la, instObj 185 dx) ∈ (tl, listOf tvs'.toArray et') :: (la, instObj 185 dx) :: W' := .tail _ (.head _)
        have hwd'' : (d, wordD ⟨q0, q1, q2, q3, q4, q5, u0, u1, u2, u3, u4, u5, kindT r.text, kt, r.text, tt, line, lt, r.col, ct, .none, r.first⟩) ∈ W' := hwd
        dsimp only [wordD] at hwd''
        have hpl' : vs'.length ≤ 1000 := by
          have h1 := hi'.length
          have h2 := hi.length
          have h3 := tryN_len ns i
          omega
        have htl' : tvs'.length ≤ 1000 := by
          have h1 := hca'.length_eq
          have h2 := (htb pos).2
          rw [List.length_append, tryT_len] at h1
          omega
        have hdW3 : ∀ p ∈ (it, o) :: (tl, listOf tvs'.toArray et') :: (la, instObj 185 dx) :: W', p.1 ≠ dx := by
          intro p hp
          rcases List.mem_cons.mp hp with rfl | hp
          · exact ht1.symm
          rcases List.mem_cons.mp hp with rfl | hp
          · exact hdt.symm
          · exact hdW p hp
        have hsW3 : ∀ p ∈ (it, o) :: (tl, listOf tvs'.toArray et') :: (la, instObj 185 dx) :: W', p.1 ≠ stk := by
          intro p hp
          rcases List.mem_cons.mp hp with rfl | hp
          · exact ht2.symm
          rcases List.mem_cons.mp hp with rfl | hp
          · exact hst0.symm
          · exact hsW p hp
        clear hsm hsz hcol hmu hruns hI h hi
        revert FG' F₃ N₃ hca'
        repeat (rename Fr _ _ _ _ => z; clear z)
        repeat (rename News _ _ _ _ => z; clear z)
        repeat (rename CarriedAll _ _ => z; clear z)
        repeat (rename IsRange _ _ _ _ _ _ _ _ => z; clear z)
        intro FG' hca' F₃ N₃
        rw [fr_kn k1] at F₃
        rw [fr_kn k2] at F₃
        rw [fr_kn k3] at F₃
        rw [fr_kn k4] at F₃
        rw [fr_kn k5] at F₃
        dsimp only at F₃
        clear k1 k2 k3 k4 k5
        have N₅ := news_rot3 (news_rot3 N₃)
        clear N₃
        k_steps
        unfold Held
        refine cbe_word (W := (it, o) :: (tl, listOf tvs'.toArray et') :: (la, instObj 185 dx) :: W') (a := a) (d := d) (wb := ⟨q0, q1, q2, q3, q4, q5, u0, u1, u2, u3, u4, u5, kindT r.text, kt, r.text, tt, line, lt, r.col, ct, .none, r.first⟩) (ns := tryN i ns) (la := la) (by walk_at "my cx") (by walk_at "my dep") (by walk_at "my un") (by assumption) (.tail _ hla'') (.tail _ (.tail _ (.tail _ hwa))) (.tail _ (.tail _ (.tail _ hwd''))) rfl hi' hpl' hne hdW3 hsW3 ?_ ?_
        · intro hz h₅ tk₅ F₅ N₆
          clear N₅ F₃
          (try k_sweep)
          k_steps
          all_goals (try walk_at "my push")
          all_goals
            exact told_turn (by assumption) (by assumption) (.tail _ (.tail _ (.head _))) (.head _) (.tail _ (.head _)) (.tail _ (.tail _ (.tail _ (.head _)))) (fun p hp => .tail _ (.tail _ (.tail _ (.tail _ hp)))) ht1 ht2 ht3 hof0 (ints_eq (tryN_f (by omega)) hi') (last_tf (decide_eq_false (by omega)).symm (by assumption)) rfl rfl rfl rfl rfl
        · intro hz h₅ tk₅ vs₅ ep₅ F₅ N₆ hi₅
          have hz2 := last_pos hge hz
          clear N₅ F₃
          (try k_sweep)
          k_steps
          all_goals (try walk_at "my push")
          all_goals
            exact told_turn (by assumption) (by assumption) (.tail _ (.tail _ (.head _))) (.head _) (.tail _ (.head _)) (.tail _ (.tail _ (.tail _ (.head _)))) (fun p hp => .tail _ (.tail _ (.tail _ (.tail _ hp)))) ht1 ht2 ht3 hof0 (ints_eq (tryN_t hz2) hi₅) (last_tf (decide_eq_true hz2).symm (by assumption)) rfl rfl rfl rfl rfl
      · rintro m₂ nx h₃ tk₃ ⟨vs', tvs', ep', et', rfl, hi', hca', k1, k2, k3, k4, k5⟩ F₃ N₃
        have nx3 := neN hdt.symm
        have nx4 := neN hst0.symm
        have hpl' : vs'.length ≤ 1000 := by
          have h1 := hi'.length
          have h2 := hi.length
          have h3 := tryN_len ns (kdfLook c pos 0).toNat
          omega
        have htl' : tvs'.length ≤ 1000 := by
          have h1 := hca'.length_eq
          have h2 := (htb pos).2
          rw [List.length_append, tryT_len] at h1
          omega
        have hdW3 : ∀ p ∈ (tl, listOf tvs'.toArray et') :: (la, instObj 185 dx) :: W', p.1 ≠ dx := by
          intro p hp
          rcases List.mem_cons.mp hp with rfl | hp
          · exact hdt.symm
          · exact hdW p hp
        have hsW3 : ∀ p ∈ (tl, listOf tvs'.toArray et') :: (la, instObj 185 dx) :: W', p.1 ≠ stk := by
          intro p hp
          rcases List.mem_cons.mp hp with rfl | hp
          · exact hst0.symm
          · exact hsW p hp
        have hpr0 : pos < rows.length := by
          rcases Nat.lt_or_ge pos rows.length with q | q
          · exact q
          · rw [List.getElem?_eq_none q] at hr; cases hr
        obtain ⟨a2, d2, wb2, hx2, hwa2, hwd2, hpr2, hpq2⟩ := wordN hwv hus hv (i := pos + 1) hpr0
        have hno := nx_opens hpr2 hpq2
        have hla'' : (la, instObj 185 dx) ∈ (tl, listOf tvs'.toArray et') :: (la, instObj 185 dx) :: W' := .tail _ (.head _)
        have hwd'' : (d, wordD ⟨q0, q1, q2, q3, q4, q5, u0, u1, u2, u3, u4, u5, kindT r.text, kt, r.text, tt, line, lt, r.col, ct, .none, r.first⟩) ∈ W' := hwd
        dsimp only [wordD] at hwd''
        have hwa3 : (a, instObj 79 d) ∈ (tl, listOf tvs'.toArray et') :: (la, instObj 185 dx) :: W' := .tail _ (.tail _ hwa)
        have hwd3 := List.Mem.tail (tl, listOf tvs'.toArray et') (List.Mem.tail (la, instObj 185 dx) hwd'')
        replace hwd3 : (d, _) ∈ (tl, listOf tvs'.toArray et') :: (la, instObj 185 dx) :: W' := hwd3
        clear hsm hsz hi
        revert FG' F₃ N₃ hca'
        repeat (rename Fr _ _ _ _ => z; clear z)
        repeat (rename News _ _ _ _ => z; clear z)
        repeat (rename CarriedAll _ _ => z; clear z)
        repeat (rename IsRange _ _ _ _ _ _ _ _ => z; clear z)
        intro FG' hca' F₃ N₃
        rw [fr_kn k1] at F₃
        rw [fr_kn k2] at F₃
        rw [fr_kn k3] at F₃
        rw [fr_kn k4] at F₃
        rw [fr_kn k5] at F₃
        dsimp only at F₃
        clear k1 k2 k3 k4 k5
        (try k_fold)
        k_steps
        unfold Held
        refine next_real (W := (tl, listOf tvs'.toArray et') :: (la, instObj 185 dx) :: W') (a := a) (d := d) (wb := ⟨q0, q1, q2, q3, q4, q5, u0, u1, u2, u3, u4, u5, kindT r.text, kt, r.text, tt, line, lt, r.col, ct, .none, r.first⟩) (wb2 := wb2) (a2 := a2) (d2 := d2) (wvs := wvs) (epw := epw) (ns := tryN (kdfLook c pos 0).toNat ns) (by walk_at "my cx") (by walk_at "my dep") (by walk_at "my un") (by assumption) hla'' (.tail _ (.tail _ hwl)) (by omega) (by omega) hx2 (.tail _ (.tail _ hwa)) (.tail _ (.tail _ hwd'')) (.tail _ (.tail _ hwa2)) (.tail _ (.tail _ hwd2)) rfl (kind_end r.text) hi' hpl' hne hdW3 hsW3 ?_ ?_
        · intro hnc h₄ tk₄ pt₄ vs₄ ep₄ op₄ ns₄ F₄ N₄ hi₄ ho₄ hn₄
          dsimp only at hnc ho₄ hn₄
          rw [kind_o, kind_c, kind_k, hno, pass_op, Bool.not_not] at ho₄
          rw [kind_o, kind_c] at hn₄
          rw [kind_c] at hnc
          subst ho₄ hn₄
          clear N₃ F₃
          have hst := step_real (rows := rows) (tr := triesOf c) (pos := pos) (told := told) (op := false) (em := false) (fo := fo') (al := al) rfl rfl hr hb hnc
          k_steps
          all_goals (try walk_at "my push")
          all_goals first
            | exact told_next hst hcol htb hI hmu hruns (by assumption) (by assumption) (.head _) (.tail _ (.head _)) (.tail _ (.tail _ (.head _))) (fun p hp => .tail _ (.tail _ (.tail _ hp))) hi₄ (PyProof.Rows.CarriedAll.snoc (by assumption) (.str _ _)) rfl rfl rfl rfl
        · intro hc1 hc2 h₄ tk₄ e hER
          obtain ⟨G, hG, R, U⟩ := hER
          rw [kind_c] at hc1
          have hst := step_err (rows := rows) (tr := triesOf c) (pos := pos) (told := told) (op := false) (em := false) (fo := fo') (al := al) rfl rfl hr hb hc1 hc2
          clear F₃ N₃
          k_steps
          all_goals first
            | exact leaveS0_ (by assumption) (by assumption) (by assumption) fun F N => h _ _ _ _ _ _ _ F N (by intro p hp; have hp := hsub p hp; simp only [List.mem_cons]; simp only [hp, or_true]) (.head _) (PyProof.Rows.CarriedAll.snoc (by assumption) (.str _ _)) (hruns _ (.fin hst))
    · intro t op' em' fo' al' ns' hf h₄ tk₄ x xd vb vs' ep' F₄ N₄ hi₄ hV
      have hst : step rows (triesOf c) ⟨pos, ns, op, em, fo, al, told⟩ = .go ⟨pos, ns', op', em', fo', al', told ++ [vS t]⟩ := found_virt hI hr (by rw [kind_end] at hf; exact hf)
      obtain ⟨q0, q1, q2, q3, q4, q5, u0, u1, u2, u3, u4, u5, kind, kt, text, tt, line, lt, col, ct, value, first⟩ := vb
      obtain ⟨lx1, lx2, lx3, lx4, e1, e2, tv, e3⟩ := hV
      dsimp only at e1 e2 e3 N₄
      subst e1 e2 e3
      have N₅ := news_mv N₄
      have hl1 : (Str.ofString "v").length ≤ 1 := by decide
      have hl2 : text.length ≤ 1 := fnd_text hf
      clear N₄ N₃ F₃ hi hf
      have hdW2 : ∀ p ∈ (x, instObj 79 xd) :: (xd, wordD ⟨q0, q1, q2, q3, q4, q5, u0, u1, u2, u3, u4, u5, Str.ofString "special", kt, text, tt, line, lt, col, ct, .str (Str.ofString "virtual") tv, first⟩) :: (tl, listOf tvs.toArray et) :: (la, instObj 185 dx) :: W', p.1 ≠ dx := by
        intro p hp
        rcases List.mem_cons.mp hp with rfl | hp
        · exact Nat.ne_of_gt (Nat.lt_trans lx1 lx3)
        rcases List.mem_cons.mp hp with rfl | hp
        · exact Nat.ne_of_gt lx1
        exact hdW' p hp
      have htx : tl < xd := lx4 _ (.head _)
      have nx1 := neN (Nat.ne_of_lt htx)
      have nx2 := neN (Nat.ne_of_lt (Nat.lt_trans htx lx3))
      have nx3 := neN hdt.symm
      have nx4 := neN hst0.symm
      dsimp only [wordD] at N₅
      k_steps
      all_goals unfold Held
      · refine cbe_virt (W := (x, instObj 79 xd) :: (xd, wordD ⟨q0, q1, q2, q3, q4, q5, u0, u1, u2, u3, u4, u5, Str.ofString "special", kt, text, tt, line, lt, col, ct, .str (Str.ofString "virtual") tv, first⟩) :: (tl, listOf tvs.toArray et) :: (la, instObj 185 dx) :: W') (vb := ⟨q0, q1, q2, q3, q4, q5, u0, u1, u2, u3, u4, u5, Str.ofString "special", kt, text, tt, line, lt, col, ct, .str (Str.ofString "virtual") tv, first⟩) (tv := tv) (la := la) (by walk_at "my cx") (by walk_at "my dep") (by walk_at "my un") (by assumption) (.tail _ (.tail _ (.tail _ (.head _)))) (.head _) (.tail _ (.head _)) rfl rfl ?_
        intro h₅ tk₅ F₅ N₇
        dsimp only [wordD] at N₇
        (try k_sweep)
        k_steps
        unfold Held
        refine next_virt (W := (x, instObj 79 xd) :: (xd, wordD ⟨q0, q1, q2, q3, q4, q5, u0, u1, u2, u3, u4, u5, Str.ofString "special", kt, text, tt, line, lt, col, ct, .str (Str.ofString "virtual") tv, first⟩) :: (tl, listOf tvs.toArray et) :: (la, instObj 185 dx) :: W') (vb := ⟨q0, q1, q2, q3, q4, q5, u0, u1, u2, u3, u4, u5, Str.ofString "special", kt, text, tt, line, lt, col, ct, .str (Str.ofString "virtual") tv, first⟩) (tv := tv) (la := la) (by walk_at "my cx") (by walk_at "my dep") (by walk_at "my un") (by assumption) (.tail _ (.tail _ (.tail _ (.head _)))) (.head _) (.tail _ (.head _)) rfl rfl hne hdW2 ?_
        intro h₆ tk₆ F₆ N₆
        dsimp only [wordD] at N₆
        (try k_sweep)
        k_steps
        all_goals (try walk_at "my push")
        exact told_next hst hcol htb hI hmu hruns (by assumption) (by assumption) (.head _) (.tail _ (.head _)) (.tail _ (.tail _ (.tail _ (.tail _ (.head _))))) (fun p hp => .tail _ (.tail _ (.tail _ (.tail _ (.tail _ hp))))) hi₄ (PyProof.Rows.CarriedAll.snoc (by assumption) (.str _ _)) rfl rfl rfl rfl

      · refine next_virt (W := (x, instObj 79 xd) :: (xd, wordD ⟨q0, q1, q2, q3, q4, q5, u0, u1, u2, u3, u4, u5, Str.ofString "special", kt, text, tt, line, lt, col, ct, .str (Str.ofString "virtual") tv, first⟩) :: (tl, listOf tvs.toArray et) :: (la, instObj 185 dx) :: W') (vb := ⟨q0, q1, q2, q3, q4, q5, u0, u1, u2, u3, u4, u5, Str.ofString "special", kt, text, tt, line, lt, col, ct, .str (Str.ofString "virtual") tv, first⟩) (tv := tv) (la := la) (by walk_at "my cx") (by walk_at "my dep") (by walk_at "my un") (by assumption) (.tail _ (.tail _ (.tail _ (.head _)))) (.head _) (.tail _ (.head _)) rfl rfl hne hdW2 ?_
        intro h₆ tk₆ F₆ N₆
        dsimp only [wordD] at N₆
        (try k_sweep)
        k_steps
        all_goals (try walk_at "my push")
        exact told_next hst hcol htb hI hmu hruns (by assumption) (by assumption) (.head _) (.tail _ (.head _)) (.tail _ (.tail _ (.tail _ (.tail _ (.head _))))) (fun p hp => .tail _ (.tail _ (.tail _ (.tail _ (.tail _ hp))))) hi₄ (PyProof.Rows.CarriedAll.snoc (by assumption) (.str _ _)) rfl rfl rfl rfl

    · intro hf
      exact (found_err (by rw [kind_end] at hf; exact hf)).elim
end

end
section
theorem fm_ok {x y : Int} : IntMulOk (x.fmod 2147483647) y :=
  .of_left (intBits_le_64 (by have := Int.fmod_nonneg_of_pos x (show (0 : Int) < 2147483647 by decide); omega) (by have := Int.fmod_lt_of_pos x (show (0 : Int) < 2147483647 by decide); omega))
section
variable {w : World} {mean : ExcName → Option Value} {mg mb : Str → Option Value} {A A₀ : Around} {base h₀ : Heap} {outer : List Env} {env : Env} {L : Addr} {m : Str → Option Value} {s : Shared}
    {Q : Value → Shared → Prop} {E : Value → Shared → Prop}
variable {W : List (Addr × Obj)} {sl : Addr} {b c top : Int} {tb tc tt : Tok} {ep : Nat}
local macro_rules | `(tactic| walk_at "binaryOp Mult int int") => `(tactic| (k_here; refine mul_int ?_ fm_ok))
local macro_rules | `(tactic| walk_at "binaryOp FloorDiv int int") => `(tactic| (k_here; refine floordiv_int (by assumption) ?_ (Or.inl (PyProof.noPylong_small (by omega)))))
set_option maxRecDepth 100000 in
set_option maxHeartbeats 4000000 in
theorem take_spec (C : Cx w mean mg mb A A₀ base h₀ outer env L m s.heap) (hdep : A.depth < 840) (hun : A.units < 7700) (N : News h₀ L s.heap ((sl, listOf #[.int b tb, .int c tc] ep) :: W)) (hW : ∀ p ∈ W, p.1 ≠ sl) (htop : 0 < top) (htop2 : top < 1000)
    (h : ∀ h' tk b' tb' c' tc' d td, Fr h₀ L h' m → News h₀ L h' ((sl, listOf #[.int b' tb', .int c' tc'] ep) :: W) → 0 ≤ d → d < top → Q (.int d td) { s with heap := h', toks := tk }) :
    wpAny (model PySem.Challenge.rw_og0002_01.row.prog w) A (call (.ref 203) [.ref sl, .int top tt] []) Q E s := by
  obtain ⟨B, F, X, T, hfr, hloc, hkd, hha⟩ := C
  have _ : Mine.hd.heap_1 w.params = Mine.hd.heap_1 w.params ∧ PySem.Challenge.rw_og0002_01 = PySem.Challenge.rw_og0002_01 := by
    w_top off
    k_fill
    exact ⟨rfl, rfl⟩
  refine wpAny_call ?_
  refine' code_def (binds := [(Str.ofString "source", .ref sl), (Str.ofString "top", .int top tt)]) B F X N T hfr hloc hkd ?k6 ?k7 ?k8 ?k9 ?kB ?_ ?c2 ?c3 ?c4 ?c5
  case k6 => k_is
  case k7 => k_is
  case k8 => exact Nat.lt_of_lt_of_le hdep (by decide)
  case k9 => first | exact BindsTo.of_eq rfl | exact binds_K (by k_in) rfl (by k_is) rfl rfl rfl
  case c5 => decide
  case kB => exact locs rfl
  case c2 => exact rfl
  case c3 => exact rfl
  case c4 => exact rfl
  intro g' L' h' FG' F' N' B' X' T'
  clear B F X N T
  (try k_fold)
  have htn : top ≠ 0 := by omega
  k_steps
  all_goals first
    | exact h _ _ _ _ _ _ _ _ (by assumption) (by assumption) (Int.fmod_nonneg_of_pos _ htop) (Int.fmod_lt_of_pos _ htop)
end

end
section
local macro_rules | `(tactic| walk_at "my none") => `(tactic| skip)
local macro_rules | `(tactic| walk_at "exec For Name Call cons nil") => `(tactic| (k_here; refine held ?_))
local macro_rules | `(tactic| walk_at "call builtin:min") => `(tactic| (k_here; (with_reducible show wpAny _ _ (call (Value.builtin _) [Value.int _ _, Value.int _ _]) _ _ _); (rename News _ _ _ _ => N'); (rename Fr _ _ _ _ => F'); (with_unfolding_all apply min_two_N); (case hh => first | assumption | with_unfolding_all rfl | with_unfolding_all assumption); (case N => exact N'); (case F => exact F'); clear N' F'; intro _ _ _ _))
theorem ints_at {vs : List Value} {ns : List Int} (h : IntsAre vs ns) {i : Nat} (hi : i < ns.length) : ∃ x t, vs.toArray[((0 : Int) + (i : Int)).toNat]? = some (.int x t) := by
  have e : ((0 : Int) + (i : Int)).toNat = i := by omega
  rw [e, List.getElem?_toArray]
  clear e
  induction h generalizing i with
  | nil => exact absurd hi (Nat.not_lt_zero _)
  | cons n t r ih =>
    cases i with
    | zero => exact ⟨_, _, rfl⟩
    | succ j => exact ih (Nat.lt_of_succ_lt_succ hi)
/-- what stands at each turn of the mixing -/
def PoolJ (pl : Addr) (i : Nat) (m : Str → Option Value) (nx : List (Addr × Obj)) : Prop :=
  ∃ (b : Int) (tb : Tok) (x : Int) (tx : Tok), nx = [] ∧ m (Str.ofString "script") = some (.ref pl) ∧ m (Str.ofString "big") = some (.int b tb) ∧ m (Str.ofString "mixed") = some (.int x tx)
theorem range_small1 {a b : Int} (h0 : -1000 ≤ a) (h1 : a ≤ 1000) (h2 : -1000 ≤ b) (h3 : b ≤ 1000) : Builtin.Range.small a b 1 = true ∧ Builtin.Range.rangeSize a b 1 = (((b - a).toNat : Nat) : Int) := by
  have e : Builtin.Range.rangeSize a b 1 = (((b - a).toNat : Nat) : Int) := rangeSize_nat _ _
  refine ⟨?_, e⟩
  unfold Builtin.Range.small Builtin.Range.rangeFitsLong
  rw [e]
  simp
  omega
section
variable {w : World} {mean : ExcName → Option Value} {mg mb : Str → Option Value} {A A₀ : Around} {base h₀ : Heap} {outer : List Env} {env : Env} {L : Addr} {m : Str → Option Value} {s : Shared}
    {Q : Value → Shared → Prop} {E : Value → Shared → Prop}
variable {news : List (Addr × Obj)} {pl : Addr} {vs : List Value} {ns : List Int}
set_option maxRecDepth 100000 in
set_option maxHeartbeats 4000000 in
theorem pool_spec (C : Cx w mean mg mb A A₀ base h₀ outer env L m s.heap) (hdep : A.depth < 840) (hun : A.units < 7700) (N : News h₀ L s.heap []) (hl : h₀.IsList pl vs.toArray) (hi : IntsAre vs ns) (hlen : ¬ (63 : Int) < (ns.length : Int))
    (h : ∀ h' tk D b tb c tc, Fr h₀ L h' m → News h₀ L h' [(D, listOf #[.int b tb, .int c tc] 0)] → Q (.ref D) { s with heap := h', toks := tk }) :
    wpAny (model PySem.Challenge.rw_og0002_01.row.prog w) A (call (.ref 196) [.ref pl] []) Q E s := by
  obtain ⟨B, F, X, T, hfr, hloc, hkd, hha⟩ := C
  have _ : Mine.hd.heap_1 w.params = Mine.hd.heap_1 w.params ∧ PySem.Challenge.rw_og0002_01 = PySem.Challenge.rw_og0002_01 := by
    w_top off
    k_fill
    exact ⟨rfl, rfl⟩
  refine wpAny_call ?_
  refine' code_def (binds := [(Str.ofString "script", .ref pl)]) B F X N T hfr hloc hkd ?k6 ?k7 ?k8 ?k9 ?kB ?_ ?c2 ?c3 ?c4 ?c5
  case k6 => k_is
  case k7 => k_is
  case k8 => exact Nat.lt_of_lt_of_le hdep (by decide)
  case k9 => first | exact BindsTo.of_eq rfl | exact binds_K (by k_in) rfl (by k_is) rfl rfl rfl
  case c5 => decide
  case kB => exact locs rfl
  case c2 => exact rfl
  case c3 => exact rfl
  case c4 => exact rfl
  intro g' L' h' FG' F' N' B' X' T'
  clear B F X N T
  (try k_fold)
  have hl' := FG'.lst hl
  have hvl := hi.length
  have hvz : vs.length ≤ 1000 := by omega
  k_steps
  all_goals
    unfold Held
    refine wpAny_For ?_
    k_steps
    rename IsRange _ _ _ _ _ _ _ _ => hr
    have hf := ‹Fr g' _ _ _›
    obtain ⟨hsm, hsz⟩ := range_small1 (a := 0) (b := if (20 : Int) < (ns.length : Int) then 20 else (ns.length : Int)) (by omega) (by omega) (by split <;> omega) (by split <;> omega)
    refine rng_loop (PoolJ pl) hha rfl rfl hr hsm hsz (by assumption) (by assumption) ⟨_, _, _, _, rfl, rfl, rfl, rfl⟩ ?_ ?_ ?_
    rotate_left 2
    · passes_own
    · rintro i m₂ nx h₃ tk₃ tk' it o hin ⟨b, tb, x, tx, rfl, k1, k2, k3⟩ F₃ N₃ hoff
      have hin2 : i < ns.length := by
        split at hin <;> omega
      obtain ⟨y, ty, hy⟩ := ints_at hi hin2
      have hy0 : (0 : Int) ≤ 0 + (i : Int) := by omega
      have hy1 : (0 : Int) + (i : Int) < 1000 := by omega
      clear hr hf hsm hsz h
      revert FG' F₃ N₃
      repeat (rename Fr _ _ _ _ => z; clear z)
      repeat (rename News _ _ _ _ => z; clear z)
      intro FG' F₃ N₃
      rw [fr_kn k1] at F₃
      rw [fr_kn k2] at F₃
      rw [fr_kn k3] at F₃
      dsimp only at F₃
      clear k1 k2 k3
      k_steps
      all_goals first
        | exact TurnP.go (by assumption) (by assumption) (by intro p hp; cases hp) ⟨_, _, _, _, rfl, rfl, rfl, rfl⟩
    · rintro m₂ nx h₃ tk₃ ⟨b, tb, x, tx, rfl, k1, k2, k3⟩ F₃ N₃
      clear hr hf hsm hsz
      revert FG' F₃ N₃
      repeat (rename Fr _ _ _ _ => z; clear z)
      repeat (rename News _ _ _ _ => z; clear z)
      intro FG' F₃ N₃
      rw [fr_kn k1] at F₃
      rw [fr_kn k2] at F₃
      rw [fr_kn k3] at F₃
      dsimp only at F₃
      clear k1 k2 k3
      (try k_fold)
      k_steps
      all_goals first
        | exact h _ _ _ _ _ _ _ (by assumption) (by assumption)
end

end
section
local macro_rules | `(tactic| walk_at "exec For Name Call cons nil") => `(tactic| (k_here; refine held ?_))
theorem news_sw {h₀ h : Heap} {L : Addr} {p q : Addr × Obj} {l : List (Addr × Obj)} (N : News h₀ L h (p :: q :: l)) : News h₀ L h (q :: p :: l) := news_sub N fun x hx => by
  simp only [List.mem_cons] at hx ⊢
  rcases hx with z | z | z
  · exact Or.inr (Or.inl z)
  · exact Or.inl z
  · exact Or.inr (Or.inr z)
def isStr : Value → Bool
  | .str x _ => decide (x.length ≤ 10) && PyData.strOk x
  | _ => false
theorem item_str {prog : Program} {w : World} {A : Around} {E : Value → Shared → Prop} {s : Shared} {value slice : PySem.Expr} {l : Addr} {vs : List Value} {k : Int} {u : Tok} {n : Nat} {Q : Value → Shared → Prop}
    (hl : s.heap.IsList l vs.toArray) (ha : vs.all isStr = true) (hn : vs.length = n) (h0 : 0 ≤ k) (hk : k < (n : Int)) (h1 : n < 1000) (h : ∀ x t, x.length ≤ 10 → PyData.strOk x = true → Q (.str x t) s)
    (hs : subscripted slice false (.ref l) (.int k u) = operate [.ref l, .int k u] (getItem (.ref l) (.int k u)) := by with_unfolding_all rfl) :
    wpAny (model prog w) A (subscriptTail value slice (.ref l) (.int k u)) Q E s := by
  have hi : k.toNat < vs.length := by omega
  have hb := List.all_eq_true.mp ha _ (List.getElem_mem hi)
  have hx : vs.toArray[k.toNat]? = some (vs[k.toNat]'hi) := by simp [hi]
  revert hb hx
  generalize vs[k.toNat]'hi = v
  intro hb hx
  cases v with
  | str x t => exact item_at hl h0 (by omega) hx (h x t (of_decide_eq_true (Bool.and_eq_true_iff.mp hb).1) (Bool.and_eq_true_iff.mp hb).2) hs
  | _ => cases hb
local macro_rules | `(tactic| walk_at "subscriptTail") => `(tactic| (k_here; (with_reducible show wpAny _ _ (subscriptTail _ _ (Value.ref _) (Value.int _ _)) _ _ _); (with_unfolding_all refine' item_str (n := 12) ?k1 ?k2 ?k3 ?k4 ?k5 ?k7 ?_ ?k6; (case k1 => is_list); (case k2 => exact rfl); (case k3 => exact rfl); (case k4 | k5 => assumption); (case k7 => decide); (case k6 => with_unfolding_all rfl); k_whole); intro x' t' hx' hy'))
local macro_rules | `(tactic| walk_at "my apart") => `(tactic| (repeat' (first | assumption | exact all_ne_of_lt (by assumption) | exact all_ne_of_allLt (by assumption) | exact List.forall_mem_nil _ | (refine List.forall_mem_cons.2 ⟨?_, ?_⟩) | (intro p hp; cases hp; done) | (show @Ne Nat _ _; omega))))
local macro_rules | `(tactic| walk_at "call ref") => `(tactic| (k_here; (with_reducible show wpAny _ _ (call (Value.ref 203) _ _) _ _ _); k_dflt (refine' take_spec ?C ?hd ?hu ?N ?W ?t1 ?t2 ?_; (case C => walk_at "my cx"); (case hd => walk_at "my dep"); (case hu => walk_at "my un"); (case N => first | k_asm | exact news_sw (by k_asm) | exact news_rot3 (by k_asm)); (case W => walk_at "my apart"); (case t1 | t2 => decide); k_whole); intro h' tk' b' tb' c' tc' d' td' F' N' d0' d1'; (try k_sweep)))

theorem look_ok {cc : List (Int × Int)} (h : ∀ p ∈ cc, 0 ≤ p.2 ∧ p.2 ≤ 3) (i : Int) : 0 ≤ kdfLook cc i 0 ∧ kdfLook cc i 0 ≤ 3 := by
  unfold kdfLook
  cases hf : cc.find? fun p => decide (p.1 = i) with
  | none => exact ⟨Int.le_refl 0, by decide⟩
  | some p => exact h p (List.mem_of_find?_eq_some hf)
theorem put_ok {cc : List (Int × Int)} {k v : Int} (h : ∀ p ∈ cc, 0 ≤ p.2 ∧ p.2 ≤ 3) (hv : 0 ≤ v ∧ v ≤ 3) : ∀ p ∈ kdfPut cc k v, 0 ≤ p.2 ∧ p.2 ≤ 3 := by
  unfold kdfPut
  intro p hp
  split at hp
  · obtain ⟨q, hq, rfl⟩ := List.mem_map.mp hp
    split
    · exact hv
    · exact h q hq
  · rcases List.mem_append.mp hp with hp | hp
    · exact h p hp
    · rw [List.mem_singleton.mp hp]; exact hv
/-- the rows and the tries, as far as they stand -/
structure RowsOk (w : World) (sl rl td : Addr) (lim : Nat) (rvs : List Value) (o : Obj) (kvs : List (Int × Value)) (cc : List (Int × Int)) (rest : List (Addr × Obj)) (rows : List Row) : Prop where
  n1 : @Ne Nat sl rl
  n2 : @Ne Nat sl td
  n3 : @Ne Nat rl td
  a1 : ∀ p ∈ rest, p.1 ≠ sl
  a2 : ∀ p ∈ rest, p.1 ≠ rl
  a3 : ∀ p ∈ rest, p.1 ≠ td
  ra : RowsAre rest rvs rows
  len : rows.length ≤ lim
  col : ∀ r ∈ rows, 1 ≤ r.col
  tx : ∀ r ∈ rows, PyData.strOk r.text = true
  lo : (td == sysModules) = false
  hd : o.IsDictOf (PySem.intKind PySem.Challenge.rw_og0002_01.row.prog w) kvs
  hf : PyProof.V.FlatPairs PyData.int kvs (kdfD cc)
  cl : cc.length ≤ lim
  lk : ∀ p ∈ cc, 0 ≤ p.2 ∧ p.2 ≤ 3
theorem RowsOk.mono {w : World} {sl rl td : Addr} {lim lim' : Nat} {rvs : List Value} {o : Obj} {kvs : List (Int × Value)} {cc : List (Int × Int)} {rest : List (Addr × Obj)} {rows : List Row} (h : RowsOk w sl rl td lim rvs o kvs cc rest rows) (hl : lim ≤ lim') : RowsOk w sl rl td lim' rvs o kvs cc rest rows :=
  { h with len := Nat.le_trans h.len hl, cl := Nat.le_trans h.cl hl }
def RowsJ (w : World) (sl rl td : Addr) (lim : Nat) (m : Str → Option Value) (nx : List (Addr × Obj)) : Prop :=
  ∃ (b c : Int) (tb tc : Tok) (es er : Nat) (rvs : List Value) (o : Obj) (kvs : List (Int × Value)) (cc : List (Int × Int)) (rest : List (Addr × Obj)) (rows : List Row),
    nx = (sl, listOf #[.int b tb, .int c tc] es) :: (rl, listOf rvs.toArray er) :: (td, o) :: rest ∧ RowsOk w sl rl td lim rvs o kvs cc rest rows ∧
    m (Str.ofString "source") = some (.ref sl) ∧ m (Str.ofString "rows") = some (.ref rl) ∧ m (Str.ofString "tries") = some (.ref td)
def InnerJ (w : World) (sl rl td it : Addr) (io : Obj) (lim : Nat) (m : Str → Option Value) (nx : List (Addr × Obj)) : Prop :=
  ∃ (b c : Int) (tb tc : Tok) (es er : Nat) (rvs : List Value) (o : Obj) (kvs : List (Int × Value)) (cc : List (Int × Int)) (rest : List (Addr × Obj)) (rows : List Row) (line : Int) (lt : Tok) (col : Int) (ct : Tok),
    nx = (sl, listOf #[.int b tb, .int c tc] es) :: (rl, listOf rvs.toArray er) :: (td, o) :: (it, io) :: rest ∧ RowsOk w sl rl td lim rvs o kvs cc rest rows ∧ (∀ p ∈ rest, p.1 ≠ it) ∧ 1 ≤ col ∧
    m (Str.ofString "source") = some (.ref sl) ∧ m (Str.ofString "rows") = some (.ref rl) ∧ m (Str.ofString "tries") = some (.ref td) ∧ m (Str.ofString "line") = some (.int line lt) ∧ m (Str.ofString "column") = some (.int col ct)
theorem inner_turn {w : World} {sl rl td it it2 D : Addr} {io o2 : Obj} {lim es er ep tk : Nat} {g h' : Heap} {L : Addr} {m' : Str → Option Value} {NN rest : List (Addr × Obj)} {b c line col : Int} {tb tc tt lt ct lt2 ct2 : Tok} {rvs : List Value} {o o' : Obj} {kvs kvs' : List (Int × Value)} {cc cc' : List (Int × Int)} {rows : List Row} {s : Shared} {Q : Flow → Shared → Prop} {r : Row}
    (F : Fr g L h' m') (N : News g L h' NN) (q2 : (it2, o2) ∈ NN) (q1 : (it, io) ∈ NN) (h1 : (sl, listOf #[.int b tb, .int c tc] es) ∈ NN) (h2 : (rl, listOf (rvs ++ [Value.ref D]).toArray er) ∈ NN) (h3 : (td, o') ∈ NN) (h4 : (D, rowO r tt lt ct ep) ∈ NN) (h5 : ∀ p ∈ rest, p ∈ NN)
    (d1 : @LT.lt Nat instLTNat sl D) (d2 : @LT.lt Nat instLTNat rl D) (d3 : @LT.lt Nat instLTNat td D) (d4 : @LT.lt Nat instLTNat it D) (d5 : @LT.lt Nat instLTNat it2 D) (ok : RowsOk w sl rl td lim rvs o kvs cc rest rows) (hcol : 1 ≤ r.col) (htx : PyData.strOk r.text = true)
    (hd : o'.IsDictOf (PySem.intKind PySem.Challenge.rw_og0002_01.row.prog w) kvs') (hf : PyProof.V.FlatPairs PyData.int kvs' (kdfD cc')) (cl : cc'.length ≤ lim + 1) (lk : ∀ p ∈ cc', 0 ≤ p.2 ∧ p.2 ≤ 3)
    (hit : ∀ p ∈ rest, p.1 ≠ it) (e1 : @Ne Nat sl it2) (e2 : @Ne Nat rl it2) (e3 : @Ne Nat td it2) (e4 : @Ne Nat it it2) (hit2 : ∀ p ∈ rest, p.1 ≠ it2) (hc : 1 ≤ col)
    (k1 : m' (Str.ofString "source") = some (.ref sl)) (k2 : m' (Str.ofString "rows") = some (.ref rl)) (k3 : m' (Str.ofString "tries") = some (.ref td)) (k4 : m' (Str.ofString "line") = some (.int line lt2)) (k5 : m' (Str.ofString "column") = some (.int col ct2)) :
    TurnP g L (InnerJ w sl rl td it io (lim + 1)) it2 o2 s Q .next { s with heap := h', toks := tk } := by
  refine TurnP.go (nx := (sl, listOf #[.int b tb, .int c tc] es) :: (rl, listOf (rvs ++ [Value.ref D]).toArray er) :: (td, o') :: (it, io) :: (D, rowO r tt lt ct ep) :: rest) F (news_sub N fun p hp => ?_) (fun p hp => ?_)
    ⟨b, c, tb, tc, es, er, rvs ++ [Value.ref D], o', kvs', cc', (D, rowO r tt lt ct ep) :: rest, rows ++ [r], line, lt2, col, ct2, rfl,
      ⟨ok.n1, ok.n2, ok.n3, ?_, ?_, ?_, RowsAre.append (ok.ra.mono fun p hp => .tail _ hp) (.cons (.head _) .nil), ?_, ?_, ?_, ok.lo, hd, hf, cl, lk⟩, ?_, hc, k1, k2, k3, k4, k5⟩
  · rcases List.mem_cons.mp hp with rfl | hp
    · exact q2
    rcases List.mem_cons.mp hp with rfl | hp
    · exact h1
    rcases List.mem_cons.mp hp with rfl | hp
    · exact h2
    rcases List.mem_cons.mp hp with rfl | hp
    · exact h3
    rcases List.mem_cons.mp hp with rfl | hp
    · exact q1
    rcases List.mem_cons.mp hp with rfl | hp
    · exact h4
    exact h5 p hp
  · rcases List.mem_cons.mp hp with rfl | hp
    · exact e1
    rcases List.mem_cons.mp hp with rfl | hp
    · exact e2
    rcases List.mem_cons.mp hp with rfl | hp
    · exact e3
    rcases List.mem_cons.mp hp with rfl | hp
    · exact e4
    rcases List.mem_cons.mp hp with rfl | hp
    · exact Nat.ne_of_gt d5
    exact hit2 p hp
  · exact List.forall_mem_cons.2 ⟨Nat.ne_of_gt d1, ok.a1⟩
  · exact List.forall_mem_cons.2 ⟨Nat.ne_of_gt d2, ok.a2⟩
  · exact List.forall_mem_cons.2 ⟨Nat.ne_of_gt d3, ok.a3⟩
  · rw [List.length_append]; exact Nat.succ_le_succ ok.len
  · intro q hq
    rcases List.mem_append.mp hq with hq | hq
    · exact ok.col q hq
    · rw [List.mem_singleton.mp hq]; exact hcol
  · intro q hq
    rcases List.mem_append.mp hq with hq | hq
    · exact ok.tx q hq
    · rw [List.mem_singleton.mp hq]; exact htx
  · exact List.forall_mem_cons.2 ⟨Nat.ne_of_gt d4, hit⟩
theorem news_rev3 {h₀ h : Heap} {L : Addr} {p q r : Addr × Obj} {l : List (Addr × Obj)} (N : News h₀ L h (p :: q :: r :: l)) : News h₀ L h (r :: q :: p :: l) := news_sub N fun x hx => by
  simp only [List.mem_cons] at hx ⊢
  rcases hx with z | z | z | z
  · exact Or.inr (Or.inr (Or.inl z))
  · exact Or.inr (Or.inl z)
  · exact Or.inl z
  · exact Or.inr (Or.inr (Or.inr z))
theorem news_in {h₀ h : Heap} {L : Addr} {p q r u : Addr × Obj} {l : List (Addr × Obj)} (N : News h₀ L h (p :: q :: r :: u :: l)) : News h₀ L h (p :: r :: u :: q :: l) := news_sub N fun x hx => by
  simp only [List.mem_cons] at hx ⊢
  rcases hx with z | z | z | z | z
  · exact Or.inl z
  · exact Or.inr (Or.inr (Or.inl z))
  · exact Or.inr (Or.inr (Or.inr (Or.inl z)))
  · exact Or.inr (Or.inl z)
  · exact Or.inr (Or.inr (Or.inr (Or.inr z)))
theorem news_out {h₀ h : Heap} {L : Addr} {p q r u : Addr × Obj} {l : List (Addr × Obj)} (N : News h₀ L h (p :: r :: u :: q :: l)) : News h₀ L h (q :: p :: r :: u :: l) := news_sub N fun x hx => by
  simp only [List.mem_cons] at hx ⊢
  rcases hx with z | z | z | z | z
  · exact Or.inr (Or.inr (Or.inr (Or.inl z)))
  · exact Or.inl z
  · exact Or.inr (Or.inl z)
  · exact Or.inr (Or.inr (Or.inl z))
  · exact Or.inr (Or.inr (Or.inr (Or.inr z)))
theorem rows_off {sl rl td it : Addr} {a b c : Obj} {rest : List (Addr × Obj)} (e1 : sl ≠ it) (e2 : rl ≠ it) (e3 : td ≠ it) (h : ∀ p ∈ rest, p.1 ≠ it) : ∀ p ∈ (sl, a) :: (rl, b) :: (td, c) :: rest, p.1 ≠ it :=
  List.forall_mem_cons.2 ⟨e1, List.forall_mem_cons.2 ⟨e2, List.forall_mem_cons.2 ⟨e3, h⟩⟩⟩
theorem row_bounds {d : Int} (h0 : 0 ≤ d) (h1 : d < 5) : (((1 + d) - 0).toNat) ≤ 5 := by omega
theorem rows_start {w : World} {sl rl td : Addr} {b c : Int} {tb tc : Tok} {es : Nat} {h₀ h : Heap} {L : Addr} {m' : Str → Option Value} {o : Obj} (F : Fr h₀ L h m') (N : News h₀ L h [(td, o), (rl, listOf #[] 0), (sl, listOf #[.int b tb, .int c tc] es)])
    (lo : (td == sysModules) = false) (hd : o.IsDictOf (PySem.intKind PySem.Challenge.rw_og0002_01.row.prog w) []) (hf : PyProof.V.FlatPairs PyData.int [] []) (l1 : rl < td ∧ sl < td) (l2 : sl < rl)
    (k1 : m' (Str.ofString "source") = some (.ref sl)) (k2 : m' (Str.ofString "rows") = some (.ref rl)) (k3 : m' (Str.ofString "tries") = some (.ref td)) :
    ∃ (rl td : Addr) (nx : List (Addr × Obj)) (m₁ : Str → Option Value), Fr h₀ L h m₁ ∧ News h₀ L h nx ∧ RowsJ w sl rl td 0 m₁ nx :=
  ⟨rl, td, _, _, F, news_rev3 N, b, c, tb, tc, es, 0, [], o, [], [], [], [], rfl, ⟨Nat.ne_of_lt l2, Nat.ne_of_lt l1.2, Nat.ne_of_lt l1.1, fun _ hp => (nomatch hp), fun _ hp => (nomatch hp), fun _ hp => (nomatch hp), .nil, Nat.le_refl _, fun _ hp => (nomatch hp), fun _ hp => (nomatch hp), lo, hd, hf, Nat.le_refl _, fun _ hp => (nomatch hp)⟩, k1, k2, k3⟩
section
variable {w : World} {mean : ExcName → Option Value} {mg mb : Str → Option Value} {A A₀ : Around} {base h₀ : Heap} {outer : List Env} {env : Env} {L : Addr} {m : Str → Option Value} {s : Shared}
    {Q : Value → Shared → Prop} {E : Value → Shared → Prop}
variable {sl : Addr} {b c : Int} {tb tc : Tok} {es : Nat}
set_option maxRecDepth 100000 in
set_option maxHeartbeats 4000000 in
theorem rows_spec (C : Cx w mean mg mb A A₀ base h₀ outer env L m s.heap) (hdep : A.depth < 830) (hun : A.units < 7600) (N : News h₀ L s.heap [(sl, listOf #[.int b tb, .int c tc] es)])
    (h : ∀ h' tk D rl td rvs er rows W' cc, Fr h₀ L h' m → News h₀ L h' ((D, ⟨.type "tuple", none, .seq #[.ref rl, .ref td] 0, #[]⟩) :: W') → (rl, listOf rvs.toArray er) ∈ W' → RowsAre W' rvs rows → rows.length ≤ 15 → (∀ r ∈ rows, 1 ≤ r.col) → (∀ r ∈ rows, PyData.strOk r.text = true) → TryAt w W' td cc → (∀ i : Nat, 0 ≤ kdfLook cc i 0 ∧ kdfLook cc i 0 ≤ 3) → Q (.ref D) { s with heap := h', toks := tk }) :
    wpAny (model PySem.Challenge.rw_og0002_01.row.prog w) A (call (.ref 210) [.ref sl] []) Q E s := by
  obtain ⟨B, F, X, T, hfr, hloc, hkd, hha⟩ := C
  have _ : Mine.hd.heap_1 w.params = Mine.hd.heap_1 w.params ∧ PySem.Challenge.rw_og0002_01 = PySem.Challenge.rw_og0002_01 := by
    w_top off
    k_fill
    exact ⟨rfl, rfl⟩
  refine wpAny_call ?_
  refine' code_def (binds := [(Str.ofString "source", .ref sl)]) B F X N T hfr hloc hkd ?k6 ?k7 ?k8 ?k9 ?kB ?_ ?c2 ?c3 ?c4 ?c5
  case k6 => k_is
  case k7 => k_is
  case k8 => exact Nat.lt_of_lt_of_le hdep (by decide)
  case k9 => first | exact BindsTo.of_eq rfl | exact binds_K (by k_in) rfl (by k_is) rfl rfl rfl
  case c5 => decide
  case kB => exact locs rfl
  case c2 => exact rfl
  case c3 => exact rfl
  case c4 => exact rfl
  intro g' L' h' FG' F' N' B' X' T'
  clear B F X N T
  (try k_fold)
  k_steps
  unfold Held
  rename ((_ == sysModules) = false) => hlo
  rename Obj.IsDictOf (PySem.intKind _ _) _ _ => hdi
  rename PyProof.V.FlatPairs PyData.int _ _ => hfp
  rename Obj.IsDictOf (PySem.strKind _ _) _ _ => hdi2
  rename PyProof.V.FlatPairs PyData.str _ _ => hfp2
  clear hdi2 hfp2
  have hF := ‹Fr g' _ _ _›
  have hN := ‹News g' _ _ _›
  obtain ⟨rl, td, nx₀, m₁, hF2, hN2, b, c, tb, tc, es, er, rvs, o, kvs, cc, rest, rows, rfl, ok, k1, k2, k3⟩ := rows_start (w := w) hF hN hlo hdi hfp (by assumption) (by assumption) rfl rfl rfl
  clear hF hN hlo hdi hfp
  rw [fr_kn k1] at hF2
  rw [fr_kn k2] at hF2
  rw [fr_kn k3] at hF2
  dsimp only at hF2
  clear k1 k2 k3
  revert FG' hF2 hN2
  repeat (rename Fr _ _ _ _ => z; clear z)
  repeat (rename News _ _ _ _ => z; clear z)
  intro FG' hF2 hN2
  have hW0 := ok.a1
  have hn1 := ok.n1
  have hn2 := ok.n2
  refine wpAny_For ?_
  k_steps
  rename IsRange _ _ _ _ _ _ _ _ => hr
  rename (_ < (3 : Int)) => hd3
  rename ((0 : Int) ≤ _) => hd0
  obtain ⟨hsm, hsz⟩ := range_small1 (a := 1) (b := 2 + _) (by decide) (by decide) (by omega) (Int.le_trans (Int.add_le_add_left (Int.le_of_lt hd3) 2) (by decide))
  refine rng_loop (fun i m nx => RowsJ w sl rl td (5 * i) m nx) hha rfl rfl hr hsm hsz (by assumption) (by assumption) ⟨_, _, _, _, _, _, _, _, _, _, _, _, rfl, ok, rfl, rfl, rfl⟩ ?_ ?_ ?_
  rotate_left 2
  · passes_own
  · rintro i m₂ nx h₃ tk₃ tk' it io hin ⟨b, c, tb, tc, es, er, rvs, o, kvs, cc, rest, rows, rfl, ok, k1, k2, k3⟩ F₃ N₃ hoff
    clear hd0
    have hin3 : i < 3 := by omega
    clear hr hsm hsz hd3 h hin
    revert FG' F₃ N₃
    repeat (rename Fr _ _ _ _ => z; clear z)
    repeat (rename News _ _ _ _ => z; clear z)
    intro FG' F₃ N₃
    rw [fr_kn k1] at F₃
    rw [fr_kn k2] at F₃
    rw [fr_kn k3] at F₃
    dsimp only at F₃
    clear k1 k2 k3
    have e1 := hoff _ (.head _)
    have e2 := hoff _ (.tail _ (.head _))
    have e3 := hoff _ (.tail _ (.tail _ (.head _)))
    have e4 : ∀ p ∈ rest, p.1 ≠ it := fun p hp => hoff p (.tail _ (.tail _ (.tail _ hp)))
    dsimp only at e1 e2 e3
    have e1' := neN e1.symm
    have hW0 := ok.a1
    have hn1 := ok.n1
    have hn2 := ok.n2
    k_steps
    unfold Held
    refine wpAny_For ?_
    rename (_ < (6 : Int)) => hd6
    rename ((0 : Int) ≤ _) => hd0
    have hc1 := Int.add_le_add_left hd0 1
    k_steps
    rename IsRange _ _ _ _ _ _ _ _ => hr
    rename (_ < (5 : Int)) => hd5
    rename ((0 : Int) ≤ _) => hd0'
    rename News _ _ _ _ => hN
    obtain ⟨hsm, hsz⟩ := range_small1 (a := 0) (b := 1 + _) (by decide) (by decide) (by omega) (Int.le_trans (Int.add_le_add_left (Int.le_of_lt hd5) 1) (by decide))
    have hn5 := row_bounds hd0' hd5
    refine rng_loop (fun j m nx => InnerJ w sl rl td it io (5 * i + j) m nx) hha rfl rfl hr hsm hsz (by assumption) (news_in hN) ⟨_, _, _, _, _, _, _, _, _, _, _, _, _, _, _, _, rfl, ok, e4, hc1, rfl, rfl, rfl, rfl, rfl⟩ ?_ ?_ ?_
    rotate_left 2
    · passes_own
    · rintro j m₃ nx h₄ tk₄ tk₄' it2 o2 hjn ⟨b, c, tb, tc, es, er, rvs, o, kvs, cc, rest, rows, line, lt, col, ct, rfl, ok, hit, hc, k1, k2, k3, k4, k5⟩ F₄ N₄ hoff2
      have hlr := ok.ra.length
      have hlr2 := ok.len
      have hcl := ok.cl
      have hrv : rvs.length ≤ 15 := by omega
      have hrv2 : rvs.length ≤ 1000 := by omega
      have hcl2 : cc.length ≤ 15 := by omega
      have hdd := ok.hd
      have hff := ok.hf
      have hW0 := ok.a1
      have hW1 := ok.a2
      have hW2 := ok.a3
      have hn1 := ok.n1
      have hn2 := ok.n2
      have hn3 := ok.n3
      have f1 := hoff2 _ (.head _)
      have f2 := hoff2 _ (.tail _ (.head _))
      have f3 := hoff2 _ (.tail _ (.tail _ (.head _)))
      have f4 := hoff2 _ (.tail _ (.tail _ (.tail _ (.head _))))
      have f5 : ∀ p ∈ rest, p.1 ≠ it2 := fun p hp => hoff2 p (.tail _ (.tail _ (.tail _ (.tail _ hp))))
      dsimp only at f1 f2 f3 f4
      have g1 := neN f1.symm
      have g2 := neN f2
      have g3 := neN f3
      have g4 := neN f4
      have g5 := neN e1
      have g6 := neN e2
      have g7 := neN e3
      have g8 := neN hn1.symm
      have g9 := neN hn2.symm
      have g10 := neN hn3.symm
      clear hr hsm hsz hjn hn5 hd5 hd0' hd6 hd0 hc1
      revert FG' F₄ N₄
      repeat (rename Fr _ _ _ _ => z; clear z)
      repeat (rename News _ _ _ _ => z; clear z)
      intro FG' F₄ N₄
      rw [fr_kn k1] at F₄
      rw [fr_kn k2] at F₄
      rw [fr_kn k3] at F₄
      rw [fr_kn k4] at F₄
      rw [fr_kn k5] at F₄
      dsimp only at F₄
      clear k1 k2 k3 k4 k5
      k_steps
      all_goals (try walk_at "my push")
      · rename Str => xx
        have hr1 : (1 : Int) ≤ (Row.mk xx line col (0 + (j : Int) == 0)).col := hc
        refine inner_turn (r := ⟨xx, line, col, _⟩) (by assumption) (by assumption) (by k_mem) (by k_mem) (by k_mem) (by k_mem) (by k_mem) (.head _) (by intro p hp; simp only [List.mem_cons]; simp only [hp, or_true]) ?_ ?_ ?_ ?_ ?_ ok hc (by assumption) (by assumption) (by assumption) (Nat.le_trans (kdfPut_len _ _ _) ?_) (put_ok ok.lk ⟨?_, ?_⟩) hit f1 f2 f3 f4 f5 ?_ rfl rfl rfl rfl rfl <;> first | omega | (show cc.length + 1 ≤ 5 * i + j + 1; omega)
      · rename Str => xx
        have hr1 : (1 : Int) ≤ (Row.mk xx line col (0 + (j : Int) == 0)).col := hc
        refine inner_turn (r := ⟨xx, line, col, _⟩) (by assumption) (by assumption) (by k_mem) (by k_mem) (by k_mem) (by k_mem) (by k_mem) (.head _) (by intro p hp; simp only [List.mem_cons]; simp only [hp, or_true]) ?_ ?_ ?_ ?_ ?_ ok hc (by assumption) hdd hff ?_ ok.lk hit f1 f2 f3 f4 f5 ?_ rfl rfl rfl rfl rfl <;> first | omega | (show cc.length ≤ 5 * i + j + 1; omega)
    · rintro m₂ nx h₄ tk₄ ⟨b, c, tb, tc, es, er, rvs, o, kvs, cc, rest, rows, line, lt, col, ct, rfl, ok, hit, hc, k1, k2, k3, k4, k5⟩ F₄ N₄
      clear hr hsm hsz
      revert FG' F₄ N₄
      repeat (rename Fr _ _ _ _ => z; clear z)
      repeat (rename News _ _ _ _ => z; clear z)
      intro FG' F₄ N₄
      rw [fr_kn k1] at F₄
      rw [fr_kn k2] at F₄
      rw [fr_kn k3] at F₄
      dsimp only at F₄
      clear k1 k2 k3 k4 k5
      (try k_fold)
      k_steps
      all_goals first
        | exact TurnP.go (by assumption) (news_out (by assumption)) (rows_off e1 e2 e3 hit) ⟨_, _, _, _, _, _, _, _, _, _, _, _, rfl, ok.mono (by omega), rfl, rfl, rfl⟩
  · rintro m₂ nx h₃ tk₃ ⟨b, c, tb, tc, es, er, rvs, o, kvs, cc, rest, rows, rfl, ok, k1, k2, k3⟩ F₃ N₃
    have hlr : rows.length ≤ 15 := by have := ok.len; omega
    clear hr hsm hsz
    revert FG' F₃ N₃
    repeat (rename Fr _ _ _ _ => z; clear z)
    repeat (rename News _ _ _ _ => z; clear z)
    intro FG' F₃ N₃
    rw [fr_kn k1] at F₃
    rw [fr_kn k2] at F₃
    rw [fr_kn k3] at F₃
    dsimp only at F₃
    clear k1 k2 k3
    (try k_fold)
    k_steps
    all_goals first
      | exact h _ _ _ _ _ _ _ _ _ _ (by assumption) (by assumption) (.tail _ (.head _)) (ok.ra.mono fun p hp => .tail _ (.tail _ (.tail _ hp))) hlr ok.col ok.tx ⟨_, _, .tail _ (.tail _ (.head _)), ok.lo, ok.hd, ok.hf⟩ (fun i => look_ok ok.lk i)
end

end
section
local macro_rules | `(tactic| walk_at "call ref") => `(tactic| (k_here; (with_reducible show wpAny _ _ (call (Value.ref 196) _ _) _ _ _); refine held ?_))
local macro_rules | `(tactic| walk_at "call ref") => `(tactic| (k_here; (with_reducible show wpAny _ _ (call (Value.ref 210) _ _) _ _ _); refine held ?_))
local macro_rules | `(tactic| walk_at "call ref") => `(tactic| (k_here; (with_reducible show wpAny _ _ (call (Value.ref 245) _ _) _ _ _); refine held ?_))
local macro_rules | `(tactic| walk_at "call ref") => `(tactic| (k_here; (with_reducible show wpAny _ _ (call (Value.ref 231) _ _) _ _ _); refine held ?_))
local macro_rules | `(tactic| walk_at "compareOp Eq ref ref") => `(tactic| (k_here; refine held ?_))
/-- what the machine writes down: strings that stand, and answers -/
def okD : PyData → Bool
  | .str x => PyData.strOk x
  | .bool _ => true
  | _ => false
theorem ok_lay : ∀ {ds : List PyData}, (∀ d ∈ ds, okD d = true) → PyData.canLayAll0 ds = true
  | [], _ => by simp [PyData.canLayAll0]
  | d :: r, h => by
    have h1 := h d (.head _)
    have h2 := ok_lay fun x hx => h x (.tail _ hx)
    cases d <;> simp_all [okD, PyData.canLayAll0, PyData.canLay0]
theorem ok_depth : ∀ {ds : List PyData}, (∀ d ∈ ds, okD d = true) → PyData.depthAll ds = 0
  | [], _ => by simp [PyData.depthAll]
  | d :: r, h => by
    have h1 := h d (.head _)
    have h2 := ok_depth fun x hx => h x (.tail _ hx)
    cases d <;> simp_all [okD, PyData.depthAll, PyData.depth]
theorem ok_mix : ∀ {ds : List PyData}, (∀ d ∈ ds, okD d = true) → PySem.SeqAt.noMixAll ds ds = true
  | [], _ => by simp [PySem.SeqAt.noMixAll]
  | d :: r, h => by
    have h1 := h d (.head _)
    have h2 := ok_mix fun x hx => h x (.tail _ hx)
    cases d <;> simp_all [okD, PySem.SeqAt.noMixAll, PySem.SeqAt.noMix]
theorem ok_shaped {ds : List PyData} (h : ∀ d ∈ ds, okD d = true) : PySem.SeqAt.shaped (.list ds) = true := by
  simp [PySem.SeqAt.shaped, PyData.canLay0, PyData.depth, ok_lay h, ok_depth h]
theorem ok_app {a b : List PyData} (ha : ∀ d ∈ a, okD d = true) (hb : ∀ d ∈ b, okD d = true) : ∀ d ∈ a ++ b, okD d = true := fun d hd => (List.mem_append.mp hd).elim (ha d) (hb d)
theorem ok_one {x : PyData} (h : okD x = true) : ∀ d ∈ [x], okD d = true := fun d hd => List.mem_singleton.mp hd ▸ h
theorem ok_try {ns : List Int} : ∀ k, ∀ d ∈ tryT k ns, okD d = true
  | 0, _, hd => nomatch hd
  | k + 1, d, hd => by
    rw [tryT] at hd
    exact ok_app (ok_try k) (ok_one rfl) d hd
theorem ok_step {rows : List Row} {tr : Nat → Nat} {S : St} (hr : ∀ r ∈ rows, PyData.strOk r.text = true) (h : ∀ d ∈ S.told, okD d = true) :
    (∀ S', step rows tr S = .go S' → ∀ d ∈ S'.told, okD d = true) ∧ ∀ ds, step rows tr S = .fin ds → ∀ d ∈ ds, okD d = true := by
  have e1 : okD (tS "v{") = true := by decide +kernel
  have e2 : okD (tS "v}") = true := by decide +kernel
  have e3 : okD (tS "v;") = true := by decide +kernel
  have e4 : okD (tS "error") = true := by decide +kernel
  unfold step
  split
  · split
    · exact ⟨fun _ e => by cases e; exact ok_app h (ok_one e1), fun _ e => (nomatch e)⟩
    · exact ⟨fun _ e => by cases e; exact ok_app h (ok_one e1), fun _ e => (nomatch e)⟩
  · split
    · exact ⟨fun _ e => by cases e; exact ok_app h (ok_one e2), fun _ e => (nomatch e)⟩
    · split
      · split
        · exact ⟨fun _ e => (nomatch e), fun _ e => by cases e; exact h⟩
        · split
          · exact ⟨fun _ e => (nomatch e), fun _ e => by cases e; exact ok_app h (ok_one e4)⟩
          · exact ⟨fun _ e => by cases e; exact ok_app h (ok_one e2), fun _ e => (nomatch e)⟩
      · rename_i r hq
        have e5 : okD (.str r.text) = true := hr r (List.mem_of_getElem? hq)
        split
        · exact ⟨fun _ e => by cases e; exact ok_app h (ok_one e2), fun _ e => (nomatch e)⟩
        · split
          · exact ⟨fun _ e => by cases e; exact ok_app h (ok_one e3), fun _ e => (nomatch e)⟩
          · split
            · exact ⟨fun _ e => (nomatch e), fun _ e => by cases e; exact ok_app (ok_app h (ok_try _)) (ok_one e4)⟩
            · exact ⟨fun _ e => by cases e; exact ok_app (ok_app h (ok_try _)) (ok_one e5), fun _ e => (nomatch e)⟩
theorem ok_runs {rows : List Row} {tr : Nat → Nat} {S : St} {ds : List PyData} (hr : ∀ r ∈ rows, PyData.strOk r.text = true) (R : Runs rows tr S ds) : (∀ d ∈ S.told, okD d = true) → ∀ d ∈ ds, okD d = true := by
  induction R with
  | fin h => exact fun z => (ok_step hr z).2 _ h
  | go h _ ih => exact fun z => ih ((ok_step hr z).1 _ h)
section
variable {prog : Program} {w : World} {A : Around} {E : Value → Shared → Prop} {s : Shared} {Q : Value → Shared → Prop}
theorem eq_told {a b : Addr} {vs us : List Value} {ds : List PyData} (ha : s.heap.IsList a vs.toArray) (hb : s.heap.IsList b us.toArray) (ca : CarriedAll vs ds) (cb : CarriedAll us ds) (ok : ∀ d ∈ ds, okD d = true) (hu : A.units + 64 < cLine) (h : Q (.bool true) s) :
    wpAny (model prog w) A (compareOp .Eq (.ref a) (.ref b)) Q E s :=
  eq_dataH_same (reads_newData ha ca) (reads_newData hb cb) (ok_shaped ok) (ok_shaped ok) hu (by rw [PySem.SeqAt.noMix]; exact ok_mix ok) (by rw [PySem.Spec.same_self]; exact h)
end
local macro_rules | `(tactic| k_qdec) => `(tactic| decide +kernel)
set_option maxRecDepth 100000 in
set_option maxHeartbeats 8000000 in
theorem law_all : PySem.Challenge.rw_og0002_01.Holds := Mine.hd (by
  k_go0
  w_top off
  k_steps
  unfold Held
  rename Below callerA _ _ _ => hB
  rename (Mine.hd.heap_1 _).In _ => hX
  rename Top _ _ _ _ _ _ => hT
  rename Heap.IsList _ _ _ => hL
  rename IntsAre _ _ => hI
  rename Fr _ _ _ _ => hF
  rename News _ _ _ _ => hN
  refine pool_spec ⟨hB, hF, hX, hT, rfl, rfl, rfl, rfl⟩ (Nat.le_of_ble_eq_true rfl) (Nat.le_of_ble_eq_true rfl) hN hL hI (by assumption) ?_
  intro h₁ tk₁ D b tb c tc F₁ N₁
  clear hF hN
  k_steps
  unfold Held
  refine rows_spec ⟨hB, F₁, hX, hT, rfl, rfl, rfl, rfl⟩ (Nat.le_of_ble_eq_true rfl) (Nat.le_of_ble_eq_true rfl) N₁ ?_
  intro h₂ tk₂ D₂ rl td rvs er rows W cc F₂ N₂ hrl hra hlen hcol htx hta htb
  clear F₁ N₁
  k_steps
  unfold Held
  rename Fr _ _ _ _ => F₃
  rename News _ _ _ _ => N₃
  refine told_spec ⟨hB, F₃, hX, hT, rfl, rfl, rfl, rfl⟩ hX hT (Nat.le_of_ble_eq_true rfl) (Nat.le_of_ble_eq_true rfl) N₃ hrl hra hlen hcol hta htb ?_
  intro h₄ tk₄ W₄ dl dvs ep ds F₄ N₄ hs₄ hdl hca hru
  clear F₃ N₃
  k_steps
  unfold Held
  refine due_spec ⟨hB, F₄, hX, hT, rfl, rfl, rfl, rfl⟩ (Nat.le_of_ble_eq_true rfl) (Nat.le_of_ble_eq_true rfl) N₄ (hs₄ _ hrl) (hra.mono hs₄) hlen hcol (hta.mono hs₄) htb ?_
  intro h₅ tk₅ W₅ dl₂ dvs₂ ep₂ ds₂ F₅ N₅ hs₅ hdl₂ hca₂ hru₂
  have hds := hru.same hru₂
  subst hds
  clear F₄ N₄
  k_steps
  unfold Held
  refine eq_told (News.isList N₅ (hs₅ _ hdl)) (News.isList N₅ hdl₂) hca hca₂ (ok_runs htx hru (fun _ hd => nomatch hd)) (Nat.le_of_ble_eq_true rfl) ?_
  k_steps)

end
end Mine

theorem PySem.Challenge.cw_og0002_01_holds : PySem.Challenge.rw_og0002_01.Holds :=
  Mine.law_all
