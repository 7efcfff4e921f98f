import PyProof.Rows.All
import Wide.All
import OpenK.AllK
import Wide.FinOn
import Lean
import PySem.Challenge.RW_xm0957_01
set_option Elab.async false
set_option maxRecDepth 100000
set_option maxHeartbeats 0
set_option rowWalk.seconds 0
section
open PySem PySem.W PyProof.Rows
namespace Mine
/-- the top's run with its heap in a tree -/
noncomputable def topRunT (tb : String → Option Builtin) (p : Program) (w : World) (n₀ : Nat) (ann : Option Value) : Nat → SharedT → Thread → Option SharedT
  | 0, _, _ => none
  | n + 1, s, t => match through t with
    | true => some s
    | false => match stepOk n₀ ann t with
      | false => none
      | true => match stepT (denote tb) p w s t with
        | some (s', t') => topRunT tb p w n₀ ann n s' t'
        | none => none
theorem topRunT_of {tb : String → Option Builtin} {p : Program} {w : World} {n₀ : Nat} {ann : Option Value} : ∀ {n : Nat} {s s' : SharedT} {t : Thread}, topRunT tb p w n₀ ann n s t = some s' → topRun tb p w n₀ ann n s.abs t = some s'.abs
  | 0, _, _, _, h => by cases h
  | n + 1, s, s', t, h => by
    unfold topRunT at h
    unfold topRun
    cases he : through t with
    | true => rw [he] at h; cases h; rfl
    | false =>
      rw [he] at h
      cases hk : stepOk n₀ ann t with
      | false => rw [hk] at h; cases h
      | true =>
        rw [hk] at h
        cases hs : stepT (denote tb) p w s t with
        | none => rw [hs] at h; cases h
        | some r => obtain ⟨s₂, t₂⟩ := r; rw [hs] at h; rw [stepT_spec hs]; exact topRunT_of h
noncomputable def build : List Obj → Nat → BT → Option BT
  | [], _, T => some T
  | o :: r, n, T => match ((T.ins n o).get n).isSome with
    | true => build r (n + 1) (T.ins n o)
    | false => none
theorem build_of {life : Life} : ∀ {l : List Obj} {n : Nat} {T T' : BT}, build l n T = some T' → absHeap T' (n + l.length) life = ⟨(absHeap T n life).objs ++ l.toArray, life⟩
  | [], n, T, T', h => by cases h; simp [absHeap]
  | o :: r, n, T, T', h => by
    unfold build at h
    cases e : ((T.ins n o).get n).isSome with
    | false => rw [e] at h; cases h
    | true =>
      rw [e] at h
      have := build_of (life := life) h
      rw [List.length_cons, show n + (r.length + 1) = n + 1 + r.length by omega, this, absHeap_ins e]
      simp [Heap.push]
noncomputable def runT (p : Program) (m₀ : Nat) (ann : Option Value) (N : Nat) (w : World) (os : OsState) : Option SharedT :=
  (build (boot_heap w.params).objs.toList 0 .nil).bind fun T => topRunT treeTable p w m₀ ann N ⟨T, m₀, (boot_heap w.params).life, #[], boot_drawn, boot_toks, os⟩ (topStub p)
theorem left_T {p q : Program} {loose : List Str} {Xt : Shared → Bool} {α : Type} {Yf : Shared → α} {Ya : World → α} {N : Nat} {g0 : Bool} (m₀ : Nat) (ann : Option Value)
    (e : opening p = plainProg p.main.scope.names) (hN : Nat.ble 600 N = true) (f : ∀ s, fenceModules? p s = some s)
    (size : ∀ w : World, ((boot_heap w.params).isNs mainGlobals, (boot_heap w.params).objs.size, (boot_heap w.params).nsMap mainGlobals "__annotations__") = (true, m₀, ann))
    (ha : ∀ (w : World) (os : OsState), (runT p m₀ ann N w os).map (fun s => staticsOk (importedModules p.main.body) (boot_heap w.params) s.abs.heap && namesBound p s.abs.heap && gensDone s.abs && laidKept (boot_heap w.params) s.abs.heap) = some true)
    (hb : ∀ (w : World) (os : OsState), (runT p m₀ ann N w os).map (fun s => openSeen q loose (importedModules p.main.body) Xt g0 s.abs) = some (openGood q loose))
    (hc : ∀ (w : World) (os : OsState), (runT p m₀ ann N w os).map (fun s => Yf s.abs) = some (Ya w)) : LeftO p q loose Xt Yf Ya N g0 := fun w => by
  obtain ⟨⟨h, gs, d, k, os⟩, e1, e2⟩ := Option.map_eq_some_iff.mp (boot_open e hN f w)
  obtain ⟨rfl, rfl, rfl, rfl⟩ : h = boot_heap w.params ∧ gs = #[] ∧ d = boot_drawn ∧ k = boot_toks := by simpa using e2
  obtain ⟨z1, z2, z3⟩ : _ ∧ _ ∧ _ := by simpa only [Prod.mk.injEq] using size w
  obtain ⟨sT, r1, r2⟩ := Option.map_eq_some_iff.mp (ha w os)
  have b1 := hb w os
  have c1 := hc w os
  rw [r1] at b1 c1
  obtain ⟨T, t1, t2⟩ := Option.bind_eq_some_iff.mp r1
  have t3 := build_of (life := (boot_heap w.params).life) t1
  have t4 := topRunT_of t2
  have t5 : absHeap T m₀ (boot_heap w.params).life = boot_heap w.params := by
    have hz : 0 + (boot_heap w.params).objs.toList.length = m₀ := by rw [Nat.zero_add, Array.length_toList]; exact z2
    rw [hz] at t3
    rw [t3]
    have : (absHeap BT.nil 0 (boot_heap w.params).life).objs = #[] := rfl
    rw [this]
    simp
  unfold openEnds
  rw [e1, Option.bind_some]
  unfold topFrom
  rw [z1]
  have z4 : ((#[] : Array GenState).size == 0) = true := rfl
  simp only [z4, Bool.and_self]
  rw [z2, z3]
  have t6 : (SharedT.abs ⟨T, m₀, (boot_heap w.params).life, #[], boot_drawn, boot_toks, os⟩) = ⟨boot_heap w.params, #[], boot_drawn, boot_toks, os⟩ := by
    unfold SharedT.abs
    rw [t5]
  rw [t6] at t4
  rw [t4, Option.bind_some]
  rw [r2]
  simp only [Option.map_some, Option.some.injEq] at b1 c1 ⊢
  rw [b1, c1]
end Mine
end
section
open PySem PySem.W PyProof.Rows
lay_quick Mine.topRunT
lay_quick PySem.W.openSeen PySem.W.xlAt PySem.W.staticsOk PySem.W.namesBound PySem.W.gensDone PySem.W.laidKept PySem.W.openGood
namespace Mine
def keepB (b : List Stmt) : List Stmt := (b.drop 1).take 18 ++ ((b.drop 20).take 9 ++ ((b.drop 30).take 1 ++ ((b.drop 32).take 3 ++ ((b.drop 36).take 4 ++ ((b.drop 41).take 18 ++ ((b.drop 60).take 9 ++ b.drop 70))))))
def viewOf (p : Program) : Program := { p with main := { p.main with body := keepB p.main.body } }
abbrev looseL : List Str := [Str.ofString "SnobolError", Str.ofString "plain_count"]
theorem top_size (w : World) : ((boot_heap w.params).isNs mainGlobals, (boot_heap w.params).objs.size, (boot_heap w.params).nsMap mainGlobals "__annotations__") = (true, 11, some (.ref 6)) := by kernel_rfl
theorem top_a (w : World) (os : OsState) : (runT PySem.Challenge.pw_xm0957_01 11 (some (.ref 6)) 8230 w os).map (fun s => staticsOk (importedModules PySem.Challenge.pw_xm0957_01.main.body) (boot_heap w.params) s.abs.heap && namesBound PySem.Challenge.pw_xm0957_01 s.abs.heap && gensDone s.abs && laidKept (boot_heap w.params) s.abs.heap) = some true := by
  unfold runT; rw [PySem.W.Fast.te8941956224279638915, PySem.W.Fast.te13471830651028734593, PySem.W.Fast.te4683006035507612052, PySem.W.Fast.te12456731150446341045, PySem.W.Fast.te16898566250750103049]
  kernel_rfl
theorem top_b (w : World) (os : OsState) : (runT PySem.Challenge.pw_xm0957_01 11 (some (.ref 6)) 8230 w os).map (fun s => openSeen (viewOf PySem.Challenge.pw_xm0957_01) looseL (importedModules PySem.Challenge.pw_xm0957_01.main.body) (fun s => xlAt (viewOf PySem.Challenge.pw_xm0957_01) [] s && recOk (RowW.records (OpenRow.toRowW (OpenLaw.row PySem.Challenge.rw_xm0957_01))) s) true s.abs) = some (openGood (viewOf PySem.Challenge.pw_xm0957_01) looseL) := by
  unfold runT; rw [PySem.W.Fast.te8941956224279638915, PySem.W.Fast.te4187177175401517315, PySem.W.Fast.te4757257242682413121, PySem.W.Fast.te3486900944545009338]
  kernel_rfl
theorem top_open : opening PySem.Challenge.pw_xm0957_01 = plainProg PySem.Challenge.pw_xm0957_01.main.scope.names := by kernel_rfl
local macro_rules | `(tactic| o_head $H) => `(tactic| ((refine holds_open (q := viewOf PySem.Challenge.pw_xm0957_01) (loose := looseL) (Xt := fun s => xlAt (viewOf PySem.Challenge.pw_xm0957_01) [] s && recOk (RowW.records (OpenRow.toRowW (OpenLaw.row PySem.Challenge.rw_xm0957_01))) s) (XP := XL (viewOf PySem.Challenge.pw_xm0957_01) []) (Yf := Hook.obs $H) (Ya := Hook.val $H) (YP := Hook.says $H) (N := 8230) ?hl (Hook.of $H) (Hook.keeps $H) (fun s e => xl_of s (Bool.and_eq_true_iff.mp e).1) XL.keeps (by rfl) (by rfl) (by rfl) (fun s e => recFacts_of (Bool.and_eq_true_iff.mp e).2) (by rfl) (by first | assumption | decide +kernel) (by decide +kernel) ⟨rfl, rfl, rfl, rfl, rfl, by decide +kernel⟩ ?hw ?hc); (case hl => ((refine left_T (p := PySem.Challenge.pw_xm0957_01) 11 (some (.ref 6)) top_open (by rfl) (fun s => by rfl) top_size top_a top_b ?_); intro w os; unfold runT; rw [PySem.W.Fast.te8941956224279638915]; kernel_rfl))))
theorem top_said : OpenLaw.wellSaid PySem.Challenge.rw_xm0957_01 = true := by
  rw [PySem.W.Fast.te9446332074065402090]
  kernel_rfl
theorem top_imps : importsNone (viewOf PySem.Challenge.pw_xm0957_01) = true := by
  rw [PySem.W.Fast.te2458874890965802552]
  kernel_rfl
theorem top_names : namesOk (viewOf PySem.Challenge.pw_xm0957_01) (looseW (viewOf PySem.Challenge.pw_xm0957_01) looseL) (namesW (viewOf PySem.Challenge.pw_xm0957_01) looseL) = true := by
  rw [PySem.W.Fast.te17448422675489707002, PySem.W.Fast.te821141287760084731]
  kernel_rfl
local macro_rules | `(tactic| o_law) => `(tactic| refine holds_law top_said fun said => ?_)
open_top hd for PySem.Challenge.rw_xm0957_01
theorem kf0 : True := by
  w_top off
  trivial
end Mine
end
section
open PySem PySem.W PyProof.Rows
namespace Mine
section
variable {M : Model} {A : Around} {E : Value → Shared → Prop} {s : Shared} {h₀ : Heap} {L : Addr} {m : Str → Option Value} {news : List (Addr × Obj)}
/-- a tuple that the next step alone looks at: it is seen, and left out of the ledger -/
theorem tup_seen {vs : List Value} {Q : Value → Shared → Prop} (F : Fr h₀ L s.heap m) (N : News h₀ L s.heap news) (h : ∀ D h', Fr h₀ L h' m → News h₀ L h' news → IsTup h' D vs.toArray → Q (.ref D) { s with heap := h' }) (hz : vs.length ≤ sizeLine) : wpAny M A (newTuple vs) Q E s :=
  kup_newTuple F N (fun D h' F' N' _ => h D h' F' (fun p hp => N' p (.tail _ hp)) (News.isTup N' (.head _))) hz
theorem set_gen {o : Value} {x : Str} {v : Int} {T : Tok} {Q : Unit → Shared → Prop} (H : ∀ t, wpAny M A (setAttr o x (.int v t)) Q E s) : wpAny M A (setAttr o x (.int v T)) Q E s := H T
theorem gen_toks {α : Type} {c : Sem α} {Q : α → Shared → Prop} {h : Heap} {g : Array GenState} {d : Drawn} {T n k : Nat} {o : OsState} (H : ∀ tk : Nat, wpAny M A c Q E ⟨h, g, d, tk, o⟩) : wpAny M A c Q E ⟨h, g, d, T + n + k, o⟩ := H _
theorem tup_gen {a b : Addr} {v : Int} {T : Tok} {Q : Value → Shared → Prop} (H : ∀ t, wpAny M A (newTuple [.ref a, .int v t, .ref b]) Q E s) : wpAny M A (newTuple [.ref a, .int v T, .ref b]) Q E s := H T
theorem tup_genS {a : Str} {v : Int} {S T : Tok} {Q : Value → Shared → Prop} (H : ∀ u t, wpAny M A (newTuple [.str a u, .int v t]) Q E s) : wpAny M A (newTuple [.str a S, .int v T]) Q E s := H S T
end
end Mine
end
section
namespace Mine
def Best (w t : List Nat) (k : Nat) : Prop := k ≤ w.length ∧ w.take k <:+ t ∧ ∀ j, j ≤ w.length → w.take j <:+ t → j ≤ k
def Cand (w t : List Nat) (c h : Nat) : Prop := h ≤ w.length ∧ w.take h <:+ t ∧ ∀ j, j < w.length → w.take (j + 1) <:+ t ++ [c] → j ≤ h

theorem take_succ_suffix {w t : List Nat} {c j : Nat} (hj : j < w.length) : w.take (j + 1) <:+ t ++ [c] ↔ (w.take j <:+ t ∧ w[j]? = some c) := by
  have e : w.take (j + 1) = w.take j ++ [w[j]] := by
    rw [List.take_add_one, List.getElem?_eq_getElem hj]; rfl
  constructor
  · rintro ⟨p, hp⟩
    rw [e, ← List.append_assoc] at hp
    obtain ⟨h1, h2⟩ := List.append_inj' hp rfl
    refine ⟨⟨p, h1⟩, ?_⟩
    rw [List.getElem?_eq_getElem hj]
    injection h2 with h3 _
    rw [h3]
  · rintro ⟨⟨p, hp⟩, h⟩
    rw [List.getElem?_eq_getElem hj] at h
    injection h with h3
    refine ⟨p, ?_⟩
    rw [e, ← List.append_assoc, hp, h3]

theorem cand_start {w t : List Nat} {c h : Nat} (H : Best w t h) : Cand w t c h := by
  obtain ⟨h1, h2, h3⟩ := H
  refine ⟨h1, h2, fun j hj hs => h3 j (Nat.le_of_lt hj) ((take_succ_suffix hj).mp hs).1⟩

theorem cand_next {w t : List Nat} {c h k : Nat} (H : Cand w t c h) (h0 : 0 < h) (hm : h = w.length ∨ w[h]? ≠ some c) (B : Best w (w.take h).tail k) : Cand w t c k ∧ k < h := by
  obtain ⟨h1, h2, h3⟩ := H
  obtain ⟨b1, b2, b3⟩ := B
  have hl : (w.take h).length = h := by rw [List.length_take]; omega
  have hk : k < h := by
    have := b2.length_le
    rw [List.length_tail, List.length_take, hl] at this
    omega
  refine ⟨⟨b1, (b2.trans (List.tail_suffix _)).trans h2, fun j hj hs => ?_⟩, hk⟩
  have hle := h3 j hj hs
  obtain ⟨hs1, hs2⟩ := (take_succ_suffix hj).mp hs
  have hne : j ≠ h := by
    rintro rfl
    rcases hm with e | e
    · omega
    · exact e hs2
  have hjh : j < h := by omega
  refine b3 j (Nat.le_of_lt hj) ?_
  have hss : w.take j <:+ w.take h := List.suffix_of_suffix_length_le hs1 h2 (by rw [List.length_take, List.length_take]; omega)
  obtain ⟨p, hp⟩ := hss
  cases p with
  | nil =>
    have := congrArg List.length hp
    rw [List.nil_append, List.length_take, hl] at this
    omega
  | cons a p => exact ⟨p, by rw [← hp]; rfl⟩

theorem cand_hit {w t : List Nat} {c h : Nat} (H : Cand w t c h) (hc : w[h]? = some c) : Best w (t ++ [c]) (h + 1) := by
  obtain ⟨h1, h2, h3⟩ := H
  have hlt : h < w.length := (List.getElem?_eq_some_iff.mp hc).1
  refine ⟨hlt, (take_succ_suffix hlt).mpr ⟨h2, hc⟩, fun j hj hs => ?_⟩
  cases j with
  | zero => omega
  | succ j => have := h3 j hj hs; omega

theorem cand_miss {w t : List Nat} {c : Nat} (H : Cand w t c 0) (hc : w[0]? ≠ some c) : Best w (t ++ [c]) 0 := by
  obtain ⟨h1, h2, h3⟩ := H
  refine ⟨h1, List.nil_suffix, fun j hj hs => ?_⟩
  cases j with
  | zero => omega
  | succ j =>
    have := h3 j hj hs
    have e : j = 0 := by omega
    subst e
    exact absurd ((take_succ_suffix hj).mp hs).2 hc

/-- the links known up to n -/
def LinksTo (w : List Nat) (n : Nat) (ns : List Int) : Prop := ns.length = w.length ∧ ∀ i, 1 ≤ i → i ≤ n → ∃ k : Nat, ns[i - 1]? = some (k : Int) ∧ Best w (w.take i).tail k

theorem best_nil (w : List Nat) : Best w [] 0 := by
  refine ⟨Nat.zero_le _, List.nil_suffix, fun j hj hs => ?_⟩
  have := hs.length_le
  rw [List.length_take, List.length_nil] at this
  omega

theorem links_start {w : List Nat} {ns : List Int} (hw : 1 ≤ w.length) (h : ns = List.replicate w.length 0) : LinksTo w 1 ns := by
  subst h
  refine ⟨List.length_replicate, fun i h1 h2 => ?_⟩
  have e : i = 1 := by omega
  subst e
  refine ⟨0, ?_, ?_⟩
  · rw [List.getElem?_replicate, if_pos (by omega)]; rfl
  · have : (w.take 1).tail = [] := by
      cases w with
      | nil => rfl
      | cons a r => simp
    rw [this]; exact best_nil w

theorem links_step {w : List Nat} {n k : Nat} {ns : List Int} (H : LinksTo w n ns) (hn : n < w.length) (B : Best w (w.take (n + 1)).tail k) : LinksTo w (n + 1) (ns.set n (k : Int)) := by
  obtain ⟨h1, h2⟩ := H
  refine ⟨by rw [List.length_set]; exact h1, fun i i1 i2 => ?_⟩
  by_cases e : i = n + 1
  · subst e
    refine ⟨k, ?_, B⟩
    rw [Nat.add_sub_cancel, List.getElem?_set_self (by omega)]
  · obtain ⟨k', e1, e2⟩ := h2 i i1 (by omega)
    refine ⟨k', ?_, e2⟩
    rw [List.getElem?_set_ne (by omega)]
    exact e1

theorem take_tail_succ {w : List Nat} {n c : Nat} (h1 : 1 ≤ n) (hc : w[n]? = some c) : (w.take n).tail ++ [c] = (w.take (n + 1)).tail := by
  rw [List.take_add_one, hc]
  have : w.take n ≠ [] := by
    intro e
    have := congrArg List.length e
    rw [List.length_take, List.length_nil] at this
    have h2 := (List.getElem?_eq_some_iff.mp hc).1
    omega
  cases hw : w.take n with
  | nil => exact absurd hw this
  | cons a r => rfl

/-- the ends in the row, as the loop finds them -/
def endsOf (w r : List Nat) (n : Nat) : List Int := (List.range n).filterMap fun i => if w <:+ r.take (i + 1) then some ((i : Int) + 1) else none
/-- the ends, as the match tells them -/
def hitsOf (w r : List Nat) (n : Nat) : List Int := (List.range n).filterMap fun b => if (r.drop b).take w.length = w then some ((b : Int) + (w.length : Int)) else none

theorem endsOf_succ (w r : List Nat) (n : Nat) : endsOf w r (n + 1) = endsOf w r n ++ (if w <:+ r.take (n + 1) then [((n : Int) + 1)] else []) := by
  unfold endsOf
  rw [List.range_succ, List.filterMap_append]
  congr 1
  by_cases h : w <:+ r.take (n + 1) <;> simp [h]
theorem hitsOf_succ (w r : List Nat) (n : Nat) : hitsOf w r (n + 1) = hitsOf w r n ++ (if (r.drop n).take w.length = w then [((n : Int) + (w.length : Int))] else []) := by
  unfold hitsOf
  rw [List.range_succ, List.filterMap_append]
  congr 1
  by_cases h : (r.drop n).take w.length = w <;> simp [h]

theorem hit_iff {w r : List Nat} (hw : 1 ≤ w.length) {b : Nat} : (r.drop b).take w.length = w ↔ (b + w.length ≤ r.length ∧ w <:+ r.take (b + w.length)) := by
  constructor
  · intro h
    have hl := congrArg List.length h
    rw [List.length_take, List.length_drop] at hl
    refine ⟨by omega, ?_⟩
    rw [List.take_add, h]
    exact List.suffix_append _ _
  · rintro ⟨hle, p, hp⟩
    rw [List.take_add] at hp
    have hl : ((r.drop b).take w.length).length = w.length := by rw [List.length_take, List.length_drop]; omega
    exact ((List.append_inj' hp hl.symm).2).symm

theorem ends_short (w r : List Nat) : ∀ n, n < w.length → endsOf w r n = [] := by
  intro n
  induction n with
  | zero => intro _; rfl
  | succ n ih =>
    intro h
    rw [endsOf_succ, ih (by omega), if_neg]
    · rfl
    · intro hs
      have := hs.length_le
      rw [List.length_take] at this
      omega
theorem hits_ends {w r : List Nat} (hw : 1 ≤ w.length) : ∀ n, n + w.length ≤ r.length + 1 → hitsOf w r n = endsOf w r (n + w.length - 1) := by
  intro n
  induction n with
  | zero => intro _; rw [ends_short w r _ (by omega)]; rfl
  | succ n ih =>
    intro h
    rw [hitsOf_succ, ih (by omega), show n + 1 + w.length - 1 = (n + w.length - 1) + 1 by omega, endsOf_succ]
    congr 1
    rw [show n + w.length - 1 + 1 = n + w.length by omega]
    have e : ((n + w.length - 1 : Nat) : Int) + 1 = (n : Int) + (w.length : Int) := by omega
    rw [e]
    by_cases hs : w <:+ r.take (n + w.length)
    · rw [if_pos hs, if_pos ((hit_iff hw).mpr ⟨by omega, hs⟩)]
    · rw [if_neg hs, if_neg (fun q => hs ((hit_iff hw).mp q).2)]
theorem hits_late {w r : List Nat} (hw : 1 ≤ w.length) : ∀ d n, r.length < n + w.length → hitsOf w r (n + d) = hitsOf w r n := by
  intro d
  induction d with
  | zero => intro n _; rfl
  | succ d ih =>
    intro n h
    rw [show n + (d + 1) = (n + d) + 1 by omega, hitsOf_succ, ih n h, if_neg, List.append_nil]
    intro q
    have := ((hit_iff hw).mp q).1
    omega
theorem hits_all {w r : List Nat} (hw : 1 ≤ w.length) : hitsOf w r (r.length + 1) = endsOf w r r.length := by
  by_cases h : w.length ≤ r.length + 1
  · have e1 := hits_ends (w := w) (r := r) hw (r.length + 1 - w.length) (by omega)
    have e2 := hits_late (w := w) (r := r) hw w.length (r.length + 1 - w.length) (by omega)
    rw [show r.length + 1 - w.length + w.length = r.length + 1 by omega] at e2
    rw [e2, e1]
    congr 1
    omega
  · have e2 := hits_late (w := w) (r := r) hw (r.length + 1) 0 (by omega)
    rw [Nat.zero_add] at e2
    rw [e2, ends_short w r _ (by omega)]
    rfl
theorem best_full {w t : List Nat} {k : Nat} (H : Best w t k) : k = w.length ↔ w <:+ t := by
  constructor
  · rintro rfl
    have := H.2.1
    rwa [List.take_length] at this
  · intro h
    have := H.2.2 w.length (Nat.le_refl _) (by rwa [List.take_length])
    have := H.1
    omega
end Mine
end
section
open PySem PySem.W PyProof.Rows
namespace Mine
theorem allObj_mono : ∀ {ws : List (Addr × String)} {k k' : List (Addr × Obj) → Prop}, (∀ its, k its → k' its) → AllObj ws k → AllObj ws k'
  | [], _, _, h, x => h [] x
  | _ :: _, _, _, h, x => fun o ho => allObj_mono (fun its => h (_ :: its)) (x o ho)
section
variable {prog : Program} {w : World} {A : Around} {E : Value → Shared → Prop} {s : Shared} {env : Env} {h₀ : Heap} {target : Expr} {body : List Stmt} {Q : Flow → Shared → Prop}
theorem unrPost_mono {L : Addr} {s₁ : Shared} {its : List (Addr × Obj)} {r r' : (Str → Option Value) → List (Addr × Obj) → Prop} (h : ∀ m n, r m n → r' m n) {f : Flow} {s₂ : Shared} (x : UnrPostW h₀ L s₁ its r Q f s₂) : UnrPostW h₀ L s₁ its r' Q f s₂ := by
  cases f with
  | ret v => exact x
  | brk => exact x
  | next => obtain ⟨h', tk, m', n', e, F, N, o, hr⟩ := x; exact ⟨h', tk, m', n', e, F, N, o, h _ _ hr⟩
  | cont => obtain ⟨h', tk, m', n', e, F, N, o, hr⟩ := x; exact ⟨h', tk, m', n', e, F, N, o, h _ _ hr⟩
theorem items_loop {ws : List (Addr × String)} (J : Nat → (Str → Option Value) → List (Addr × Obj) → Prop) : ∀ (xs : List Itm) (i : Nat) (m : Str → Option Value) (news : List (Addr × Obj)),
    (∀ j a m news v h tk, xs[j]? = some a → J (i + j) m news → a.Is v h → Fr h₀ env.locals h m → AllObj ws (fun its => News h₀ env.locals h (its ++ news) →
      wpAny (model prog w) A (assign target env v) (fun _ s₂ => wpAny (model prog w) A (execs body env) (UnrPostW h₀ env.locals { s with heap := h, toks := tk } its (fun m' n' => J (i + j + 1) m' n') Q) E s₂) E { s with heap := h, toks := tk })) →
    (∀ m news h tk, J (i + xs.length) m news → Fr h₀ env.locals h m → News h₀ env.locals h news → Q .next { s with heap := h, toks := tk }) →
    J i m news → ItemsRest prog w A E h₀ env target body Q s ws [] xs m news
  | [], i, m, news, _, done, hj => fun h tk F N => done m news h tk hj F N
  | a :: r, i, m, news, turn, done, hj => by
    intro v h tk hv F
    refine allObj_mono (fun its k N => ?_) (turn 0 a m news v h tk rfl hj hv F)
    refine wpAny_mono (k N) (fun _ s₂ x => wpAny_mono x (fun f s₃ y => unrPost_mono (fun m' n' hJ => ⟨trivial, ?_⟩) y) fun _ _ e => e) fun _ _ e => e
    refine items_loop J r (i + 1) m' n' (fun j a m news v h tk ha hj hv F => ?_) (fun m news h tk hj => done m news h tk (by rw [List.length_cons, show i + (r.length + 1) = i + 1 + r.length by omega]; exact hj)) hJ
    have := turn (j + 1) a m news v h tk (by simpa using ha) (by rw [show i + (j + 1) = i + 1 + j by omega]; exact hj) hv F
    rw [show i + (j + 1) + 1 = i + 1 + j + 1 by omega] at this
    exact this

theorem for_range {x : Str} {px : Pos} {r : Addr} {a₀ b₀ : Int} {t₀ u₀ v₀ : Tok} {n : Nat} {m₀ : Str → Option Value} {news : List (Addr × Obj)}
    (hh : A.handled = none) (hr : IsRange s.heap r a₀ b₀ 1 t₀ u₀ v₀) (hsmall : Builtin.Range.small a₀ b₀ 1 = true) (hn : Builtin.Range.rangeSize a₀ b₀ 1 = (n : Int)) (F : Fr h₀ env.locals s.heap m₀) (N : News h₀ env.locals s.heap news)
    (rest : ∀ I : Addr, (∀ p ∈ news, p.1 < I) → ItemsRest prog w A E h₀ env (.Name x px) body Q s [(I, "range_iterator")] [] ((List.range n).map fun (i : Nat) => .tok (fun t => .int (a₀ + (i : Int)) t)) m₀ news) :
    wpAny (model prog w) A (pyIter (.ref r)) (fun it s₂ => TurnsAt prog w A h₀ env (.Name x px) body Q E it s₂) E s := by
  refine wpAny_pyIter_range hr hsmall ?_
  have W : Walks prog w A s.heap.objs.size [s.heap.objs.size] [s.heap.objs.size] n (fun i v => i < n ∧ ∃ t, v = .int (a₀ + i * 1) t)
      (fun i h => IsRangeIter h s.heap.objs.size (a₀ + (i : Nat) * 1) ((n : Int) - (i : Nat)) 1) := (Walks.range hh _ a₀ 1 n).bound
  refine ktu_core (tk0 := s.toks) (keep := []) (KTurns.ofWalks W fun i v s Q E st q => by unfold letOwnedTupleGo; exact wpAny_pure q) (by simp) (fun i v h hp => ?_) (fun i h st => ?_) (fun b hb => ?_) (fun b hb => by simpa using hb) (fun b hb => .inl (by simpa using hb)) ?_ (fun p hp hI => ?_) ?_ (F.push _) (fun p hp => ⟨Heap.get?_push_of_some _ (N p hp).1, (N p hp).2⟩) trivial (rest _ fun p hp => Heap.lt_size (N p hp).1)
  · obtain ⟨hi, t, rfl⟩ := hp
    refine ⟨.tok (fun t => .int (a₀ + (i : Int)) t), by simp [hi], t, ?_⟩
    rw [Int.mul_one]
  · have st' : h.get? s.heap.objs.size = some _ := st
    exact ⟨[(s.heap.objs.size, _)], ⟨⟨rfl, rfl⟩, trivial⟩, fun p hp => by rw [List.mem_singleton.mp hp]; exact st'⟩
  · have hb' : b = s.heap.objs.size := by simpa using hb
    rw [hb']
    exact ⟨List.mem_cons_self .., next_is_new F⟩
  · intro hI
    exact absurd F.ns.lt ((List.mem_singleton.mp hI) ▸ Nat.lt_irrefl _)
  · exact absurd (Heap.lt_size (N p hp).1) ((List.mem_singleton.mp hI) ▸ Nat.lt_irrefl _)
  · show IsRangeIter _ _ _ _ _
    rw [hn]
    simpa using Heap.get?_push_size _ rfl

theorem enum_draws {elts : List Expr} {k : Nat} {pos : Pos} {x : Str} {ty : String} {h' : Heap} {n : Nat} {P : Nat → Value → Prop} {St : Nat → Heap → Prop} {m₀ : Str → Option Value} {news : List (Addr × Obj)} (D : Draws prog w A.in1 s.heap.objs.size [s.heap.objs.size] n P St)
    (hP : ∀ i v, P i v → ∃ c u, x.cps[i]? = some c ∧ v = Value.str ⟨#[c]⟩ u) (hSt : ∀ i h, St i h → ∃ o, h.get? s.heap.objs.size = some o ∧ o.cls = .type ty) (hn : n = x.cps.size)
    (hE : IsEnum h' (s.heap.objs.size + 1) s.heap.objs.size 0 .none) (hst : St 0 h') (hk : ∀ b o, s.heap.get? b = some o → h'.get? b = some o)
    (F : Fr h₀ env.locals s.heap m₀) (N : News h₀ env.locals s.heap news)
    (rest : ItemsRest prog w A E h₀ env (.Tuple elts k pos) body Q s [(s.heap.objs.size + 1, "enumerate"), (s.heap.objs.size, ty)] [] ((List.range x.cps.size).map fun (i : Nat) => .pairF (fun t => .int (i : Int) t) (.str ⟨#[x.cps.getD i 0]⟩)) m₀ news) :
    wpAny (model prog w) A (pyIter (.ref (s.heap.objs.size + 1))) (fun it s₂ => TurnsAt prog w A h₀ env (.Tuple elts k pos) body Q E it s₂) E { s with heap := h' } := by
  have hLs : env.locals < s.heap.objs.size := F.ns.lt
  refine wpAny_pyIter_enum hE ?_
  refine ktu_core (tk0 := s.toks) (keep := []) (KTurns.ofWalksU (WalksT.enumerateD D (s.heap.objs.size + 1) (Nat.succ_ne_self _) (by simp) (by simp)).toU) (by simpa using hn) ?_ ?_ ?_ ?_ ?_ ?_ ?_ ?_ (F.keeps hk) (N.grown hk) trivial rest
  · rintro i v h ⟨T, vals, rfl, ⟨t, y, hy, rfl⟩, hT⟩
    obtain ⟨c, u, hc, rfl⟩ := hP i y hy
    have hi : i < x.cps.size := (Array.getElem?_eq_some_iff.mp hc).1
    refine ⟨.pairF (fun t => .int (i : Int) t) (.str ⟨#[x.cps.getD i 0]⟩), by simp [hi], T, t, _, rfl, ?_, hT⟩
    have e : x.cps.getD i 0 = c := by rw [Array.getD_eq_getD_getElem?, hc]; rfl
    rw [e]
    exact PyProof.V.Flat.str _ _
  · rintro i h ⟨⟨old, he⟩, hs⟩
    obtain ⟨oi, hoi, hic⟩ := hSt i h hs
    have he' : ∃ oe : Obj, h.get? (s.heap.objs.size + 1) = some oe ∧ oe.cls = .type "enumerate" := ⟨_, he, rfl⟩
    obtain ⟨oe, h1, h2⟩ := he'
    refine ⟨[(s.heap.objs.size + 1, oe), (s.heap.objs.size, oi)], ⟨⟨rfl, h2⟩, ⟨rfl, hic⟩, trivial⟩, fun p hp => ?_⟩
    rcases List.mem_cons.mp hp with rfl | hp
    · exact h1
    · rw [List.mem_singleton.mp hp]; exact hoi
  · intro b hb
    have hb' : b = s.heap.objs.size + 1 ∨ b = s.heap.objs.size := by simpa using hb
    rcases hb' with rfl | rfl
    · exact ⟨by simp, ktu_new F (Nat.le_add_right _ _)⟩
    · exact ⟨by simp, ktu_new F (Nat.le_refl _)⟩
  · intro b hb
    simpa using hb
  · intro b hb
    exact .inl (by simpa using hb)
  · intro hI
    rcases List.mem_cons.mp hI with e | hI
    · exact absurd hLs (by rw [e]; exact Nat.not_lt.mpr (Nat.le_add_right _ _))
    · exact absurd hLs (by rw [List.mem_singleton.mp hI]; exact Nat.lt_irrefl _)
  · intro p hp hI
    have := Heap.lt_size (N p hp).1
    rcases List.mem_cons.mp hI with e | hI
    · exact absurd this (by rw [e]; exact Nat.not_lt.mpr (Nat.le_add_right _ _))
    · exact absurd this (by rw [List.mem_singleton.mp hI]; exact Nat.lt_irrefl _)
  · exact ⟨⟨_, by simpa using hE⟩, hst⟩

theorem enum_str {elts : List Expr} {k : Nat} {pos : Pos} {x : Str} {t : Tok} {m₀ : Str → Option Value} {news : List (Addr × Obj)} (hh : A.handled = none) (F : Fr h₀ env.locals s.heap m₀) (N : News h₀ env.locals s.heap news)
    (rest : ∀ (I : Addr) (ty : String), (∀ p ∈ news, p.1 < I) → ItemsRest prog w A E h₀ env (.Tuple elts k pos) body Q s [(I + 1, "enumerate"), (I, ty)] [] ((List.range x.cps.size).map fun (i : Nat) => .pairF (fun t => .int (i : Int) t) (.str ⟨#[x.cps.getD i 0]⟩)) m₀ news) :
    wpAny (model prog w) A (call (.type "enumerate") [.str x t]) (fun xv s₁ => wpAny (model prog w) A (pyIter xv) (fun it s₂ => TurnsAt prog w A h₀ env (.Tuple elts k pos) body Q E it s₂) E s₁) E s := by
  refine call_enumerate_str fun h' he hit hsz hk => ?_
  cases ha : x.cps.all (· < 128)
  · have hit' : h'.IsStrIter s.heap.objs.size "str_iterator" x t 0 := by simpa [strIterType, ha] using hit
    exact enum_draws (Draws.strWide (A := A.in1) hh s.heap.objs.size x t) (fun i v h => h) (fun i h st => let ⟨o, ho, hc, _⟩ := st; ⟨o, ho, hc⟩) rfl he hit' hk F N (rest _ _ fun p hp => Heap.lt_size (N p hp).1)
  · have hit' : h'.IsStrIter s.heap.objs.size "str_ascii_iterator" x t 0 := by simpa [strIterType, ha] using hit
    exact enum_draws (Draws.strAscii (A := A.in1) hh s.heap.objs.size x t) (fun i v h => h) (fun i h st => let ⟨o, ho, hc, _⟩ := st; ⟨o, ho, hc⟩) rfl he hit' hk F N (rest _ _ fun p hp => Heap.lt_size (N p hp).1)
end
end Mine
end
section
open PySem PySem.W PyProof.Rows
set_option pp.deepTerms false
set_option pp.maxSteps 20000
namespace Mine
local macro_rules | `(tactic| k_ownIn) => `(tactic| (first | ((with_reducible refine gen_toks ?_); intro tk9) | (k_unfold; (try dsimp only)) | (k_end; wrow_close) | walk1 | (dsimp only; walk1) | (leave1; walk_say "STEP leave1"; try dsimp only) | fail "no step"))
local macro_rules | `(tactic| k_room) => `(tactic| ((try simp only [depth_under_make, depth_under_kw, depth_in1, depth_deeper, depth_caller]); (try dsimp only [ktrTop]); omega))
local macro_rules | `(tactic| walk_at "CompSrc") => `(tactic| (k_here; k_dflt (refine LCg.CompSrc.ledger (by rfl) (by k_asm) (by k_asm) (by k_mem) (by first | size_fits | exact Nat.le_of_ble_eq_true rfl) ?_; intro g'; lcg_lit)))
local macro_rules | `(tactic| walk_at "CompRest") => `(tactic| (with_unfolding_all first
  | (refine LCg.CompRest.succ ?_; intro v' I' oI' C' oC' D' m' h' tk' E' hv' hC' hx' F' N' off' ne'; (first | lcg_open hv' | (obtain ⟨t9', hv9'⟩ := hv'; subst hv9')))
  | refine LCg.CompRest.zero ?_))
local macro_rules | `(tactic| walk_at "CompEnd") => `(tactic| (k_here; refine LCg.CompEnd.intro (by k_asm) (by k_asm) _ (fun _ hp => hp) (by assumption) (by lcg_src) ?_))
local macro_rules | `(tactic| walk_at "call builtin:isinstance") => `(tactic| (k_here; k_dflt (refine' isi_call ?k1 ?k2 ?k3 ?k4 ?_; (case k1 => k_in); (case k2 => k_types); (case k3 => k_is); (case k4 => intro e; cases e); k_whole)))
local macro_rules | `(tactic| walk_at "exec For Tuple Call cons nil") => `(tactic| (k_here; (rename Fr _ _ _ _ => lF'); (with_unfolding_all refine' For_turns lF' ?_; k_whole)))
abbrev arrDict (P : Params) (t1 t2 t3 t4 t5 t6 t7 t8 t9 ta : Tok) (l D : Addr) : Obj := dictOf
        [{ hash := PyData.keyHash P (Str.ofString "word"), key := Value.str (Str.ofString "word") t1, val := Value.str (Str.ofString "ARRAY") t2 },
          { hash := PyData.keyHash P (Str.ofString "number"), key := Value.str (Str.ofString "number") t3, val := Value.int 1 t4 },
          { hash := PyData.keyHash P (Str.ofString "mark"), key := Value.str (Str.ofString "mark") t5, val := Value.int 0 t6 },
          { hash := PyData.keyHash P (Str.ofString "told"), key := Value.str (Str.ofString "told") t7, val := Value.str (Str.ofString "links") t8 },
          { hash := PyData.keyHash P (Str.ofString "bounds"), key := Value.str (Str.ofString "bounds") t9, val := Value.ref l },
          { hash := PyData.keyHash P (Str.ofString "items"), key := Value.str (Str.ofString "items") ta, val := Value.ref D }]
        6
abbrev refDict (P : Params) (q1 q2 q3 q4 q5 : Tok) (x : Addr) (k : Int) : Obj := dictOf
        [{ hash := PyData.keyHash P (Str.ofString "kind"), key := Value.str (Str.ofString "kind") q1, val := Value.str (Str.ofString "item") q2 },
          { hash := PyData.keyHash P (Str.ofString "owner"), key := Value.str (Str.ofString "owner") q3, val := Value.ref x },
          { hash := PyData.keyHash P (Str.ofString "key"), key := Value.str (Str.ofString "key") q4, val := Value.int k q5 }]
        3
theorem kf2 : PySem.Challenge.rw_xm0957_01 = PySem.Challenge.rw_xm0957_01 ∧ hd.heap_1 = hd.heap_1 := by
  k_fill
  exact ⟨rfl, rfl⟩
theorem item_ok {w : World} {p : Program} {loose : List Str} {mean : ExcName → Option Value} {mg mb : Str → Option Value} {k n : Int} {tk tw u1 u2 t1 t2 t3 t4 t5 t6 t7 t8 t9 ta : Tok} {kl D x d l D1 : Addr} {vs : List Value} {r1 r2 r3 r4 r5 r6 r7 r8 : Addr} {p1 p2 p3 p4 p5 p6 p7 p8 : Obj} (h1 : 1 ≤ k) (h2 : k ≤ n) (h3 : n ≤ 4)
  (dp un : Nat) (gd : Option (List Code)) (cn : Str) (cs : Scope) (a : Addr) (ccd : Value) (cl : List (Str × Addr)) (outer : List Env) (A₀ : Around) (base h₀ : Heap) (L : Addr) (m : Str → Option Value) (s : Shared)
    (Q E : Value → Shared → Prop) (B : Below A₀ base outer h₀) (F : Fr h₀ L s.heap m) (X : (hd.heap_1 w.params).In h₀)
    (N : News h₀ L s.heap ((x, instObj 250 d) :: (d, arrDict w.params t1 t2 t3 t4 t5 t6 t7 t8 t9 ta l D) :: (l, listOf #[Value.ref D1] 0) :: (D1, { cls := Value.type "tuple", data := Data.seq #[Value.int 1 u1, Value.int n u2] }) :: (D, listOf vs.toArray 0) :: (kl, listOf #[.int k tk] 0) :: [(r1, p1), (r2, p2), (r3, p3), (r4, p4), (r5, p5), (r6, p6), (r7, p7), (r8, p8)]))
    (T : Top p loose mean mg mb h₀)
    (hk : cs.kind = .function) (hdp : dp < 900)
    (ret : ∀ (z dz : Addr) (q1 q2 q3 q4 q5 : Tok) h' tk', Fr h₀ L h' m →
      News h₀ L h' ((z, instObj 131 dz) :: (dz, refDict w.params q1 q2 q3 q4 q5 x (k - 1)) :: (x, instObj 250 d) :: (d, arrDict w.params t1 t2 t3 t4 t5 t6 t7 t8 t9 ta l D) :: (l, listOf #[Value.ref D1] 0) :: (D1, { cls := Value.type "tuple", data := Data.seq #[Value.int 1 u1, Value.int n u2] }) :: (D, listOf vs.toArray 0) :: (kl, listOf #[.int k tk] 0) :: [(r1, p1), (r2, p2), (r3, p3), (r4, p4), (r5, p5), (r6, p6), (r7, p7), (r8, p8)]) →
      AllLt dz ((x, instObj 250 d) :: (d, arrDict w.params t1 t2 t3 t4 t5 t6 t7 t8 t9 ta l D) :: (l, listOf #[Value.ref D1] 0) :: (D1, { cls := Value.type "tuple", data := Data.seq #[Value.int 1 u1, Value.int n u2] }) :: (D, listOf vs.toArray 0) :: (kl, listOf #[.int k tk] 0) :: [(r1, p1), (r2, p2), (r3, p3), (r4, p4), (r5, p5), (r6, p6), (r7, p7), (r8, p8)]) → dz < z → Q (.ref z) { s with heap := h', toks := tk' }) :
    wpAny (model PySem.Challenge.rw_xm0957_01.row.prog w) (ktrTop dp un gd cn cs L a ccd cl outer) (call (.ref 304) [.ref x, .ref kl, .int 32 tw]) Q E s := by
  have hrl : recursionLimit = 1000 := rfl
  refine wpAny_call ?_
  k_dflt (refine' code_defC ?k1 ?k2 ?k3 ?k4 ?k5 ?kA ?kF ?kK ?k6 ?k7 ?k8 ?k9 ?kB ?kD ?_ ?c2 ?c3 ?c4; (case kA => exact rfl); (case kF => exact rfl); (case kK => assumption); (case k1 => k_asm); (case k2 => k_asm); (case k3 => k_asm); (case k4 => k_asm); (case k5 => k_asm); (case k6 => k_is); (case k7 => k_is); (case k8 => k_room); (case k9 => exact BindsTo.of_eq rfl); (case kB => exact rfl); (case kD => decide +kernel); (case c2 => exact rfl); (case c3 => exact rfl); (case c4 => exact rfl); k_whole; intro g' L' h' tk' cells' FG' F' N' Y' B' X' T' l1; (try k_lt l1); k_cells Y'; (try simp only [List.cons_append, List.nil_append] at N'); (try dsimp only); (try k_fold))
  have e9 : 0 * (n - 1 + 1) + k - 1 = k - 1 := by omega
  w_strict (repeat' k_ownIn)
  rename News _ _ _ _ => N9
  rw [e9] at N9
  refine ret _ _ _ _ _ _ _ _ _ (by k_asm) (kst_newsOf N9 (by lcg_sub)) ?_ (by assumption)
  simp only [AllLt, and_true]
  rename _ ∧ _ => hl9
  exact hl9.2.2
end Mine
end
section
open PySem PySem.W PyProof.Rows
namespace Mine
def Halt (P : Prop) : Prop := P
theorem Halt.mk {P : Prop} (h : Halt P) : P := h
theorem Halt.out {P : Prop} (h : P) : Halt P := h
theorem fr_norm {h₀ h : Heap} {L : Addr} {m m₀ : Str → Option Value} (st : List Str) (e : ∀ z, st.contains z = false → m z = m₀ z) (F : Fr h₀ L h m) : Fr h₀ L h (fun y => if st.contains y then m y else m₀ y) := by
  have : (fun y => if st.contains y then m y else m₀ y) = m := by
    funext y
    cases hy : st.contains y with
    | true => simp
    | false => simp [e y hy]
  rw [this]; exact F
theorem rep_flat (n : Nat) : (List.replicate n [(0 : Int)]).flatten = List.replicate n 0 := by
  induction n with
  | zero => rfl
  | succ n ih => rw [List.replicate_succ, List.flatten_cons, ih]; rfl
theorem str_len (x : Str) : x.cps.toList.length = x.length := by simp [Str.length]
theorem links_first {x : Str} (h : 1 ≤ x.length) : LinksTo x.cps.toList 1 (List.replicate (1 * ((x.length : Int) - 1 + 1)).toNat [(0 : Int)]).flatten := by
  refine links_start (by simpa [Str.length] using h) ?_
  rw [rep_flat]
  congr 1
  have := str_len x
  omega
def LinksJ (wl : List Nat) (m₀ : Str → Option Value) (rest : List (Addr × Obj)) (D : Addr) (i : Nat) (m : Str → Option Value) (news : List (Addr × Obj)) : Prop :=
  ∃ (vs : List Value) (ns : List Int), IntsAre vs ns ∧ LinksTo wl (i + 1) ns ∧ news = (D, listOf vs.toArray 0) :: rest ∧ ∀ z, (["size", "have", "sign", "ref"] : List Str).contains z = false → m z = m₀ z
theorem item_ints {prog : Program} {w : World} {A : Around} {E : Value → Shared → Prop} {s : Shared} {h₀ : Heap} {L l : Addr} {news : List (Addr × Obj)} {value slice : PySem.Expr} {vs : List Value} {ns : List Int} {k a : Int} {u : Tok} {nn : Nat} {Q : Value → Shared → Prop}
    (N : News h₀ L s.heap news) (hm : (l, listOf vs.toArray nn) ∈ news) (hi : IntsAre vs ns) (h0 : 0 ≤ k) (hhi : k < 2 ^ 62) (hx : ns[k.toNat]? = some a) (h : ∀ t, Q (.int a t) s)
    (hs : subscripted slice false (.ref l) (.int k u) = operate [.ref l, .int k u] (getItem (.ref l) (.int k u)) := by with_unfolding_all rfl) :
    wpAny (model prog w) A (subscriptTail value slice (.ref l) (.int k u)) Q E s := by
  obtain ⟨t, ht⟩ := hi.get _ _ hx
  have hl : s.heap.IsList l vs.toArray := News.isList N hm
  exact tail_any hl.typeIs slot_list_getitem.lookup (wpAny_getItem_list hl h0 (by omega) (by simpa using ht) (h t)) hs
def WhPost (h₀ : Heap) (L : Addr) (s : Shared) (led : List (Addr × Obj)) (y : Str) (m₀ : Str → Option Value) (P : Nat → Prop) (Q : Flow → Shared → Prop) (k : Nat) (f : Flow) (s₂ : Shared) : Prop :=
  match f with
  | .ret v => Q (.ret v) s₂
  | .brk => Q .next s₂
  | _ => ∃ (k' : Nat) (t' : Tok) (h' : Heap) (tk : Nat) (m' : Str → Option Value) (news' : List (Addr × Obj)), s₂ = { s with heap := h', toks := tk } ∧ Fr h₀ L h' m' ∧ News h₀ L h' news' ∧ (∀ p ∈ led, p ∈ news') ∧ m' y = some (.int (k' : Int) t') ∧ (∀ z, z ≠ y → m' z = m₀ z) ∧ P k' ∧ k' < k
section
variable {prog : Program} {w : World} {A : Around} {E : Value → Shared → Prop} {Q : Flow → Shared → Prop} {s : Shared} {env : Env} {h₀ : Heap} {L : Addr}
theorem while_have {test : Expr} {body : List Stmt} {pos : Pos} {m₀ : Str → Option Value} {led : List (Addr × Obj)} (y : Str) (P : Nat → Prop) {b : Nat} {t0 : Tok} (F : Fr h₀ L s.heap m₀) (N : News h₀ L s.heap led) (hy : m₀ y = some (.int (b : Int) t0)) (hp : P b)
    (turn : ∀ (k : Nat) (t : Tok) (u : Str → Option Value) h tk, P k → Fr h₀ L h (fun z => if z = y then some (.int (k : Int) t) else if ([y] : List Str).contains z then u z else m₀ z) → News h₀ L h led →
      wpAny (model prog w) A (isTrue test env (eval test env)) (fun b s₂ => if b = true then wpAny (model prog w) A (execs body env) (WhPost h₀ L s led y m₀ P Q k) E s₂ else Q .next s₂) E { s with heap := h, toks := tk })
    (hE : PassesOwn (model prog w) A env E := by passes_own) :
    wpAny (model prog w) A (exec (.While test body [] pos) env) Q E s := by
  refine ksw_while (σ := Nat × Tok) (fun _ => led) (fun c => [(y, .int (c.1 : Int) c.2)]) (fun _ => True) [y] (fun c => P c.1) (fun c => c.1) (b, t0) F N trivial ?_ hp ?_ hE
  · intro p hp
    rw [List.mem_singleton.mp hp]
    exact hy
  · rintro ⟨k, t⟩ u h tk _ hk F1 N1
    refine wpAny_mono (turn k t u h tk hk F1 N1) (fun b s₂ x => ?_) fun _ _ e => e
    cases b with
    | false => exact x
    | true =>
      refine wpAny_mono x (fun f s₃ z => ?_) fun _ _ e => e
      have fin : (∃ (k' : Nat) (t' : Tok) (h' : Heap) (tk : Nat) (m' : Str → Option Value) (news' : List (Addr × Obj)), s₃ = { s with heap := h', toks := tk } ∧ Fr h₀ L h' m' ∧ News h₀ L h' news' ∧ (∀ p ∈ led, p ∈ news') ∧ m' y = some (.int (k' : Int) t') ∧ (∀ z, z ≠ y → m' z = m₀ z) ∧ P k' ∧ k' < k) →
          KswEnd h₀ L s (fun _ => led) (fun c : Nat × Tok => [(y, .int (c.1 : Int) c.2)]) (fun _ => True) [y] m₀ (fun c => P c.1) (fun c => c.1) (k, t) s₃ := by
        rintro ⟨k', t', h', tk', m', news', rfl, F', N', hn, hy', hr, hp', hlt⟩
        refine ksw_end (k', t') F' N' hn trivial (fun p hp => ?_) (fun z hz _ => hr z (hz _ (List.mem_singleton.mpr rfl))) hp' hlt
        rw [List.mem_singleton.mp hp]
        exact hy'
      cases f with
      | ret v => exact z
      | brk => exact z
      | next => exact fin z
      | cont => exact fin z
end
theorem item_at {x : Str} {k c : Nat} (h : x.cps.toList[k]? = some c) : Txt.item x (k : Int) = ⟨#[c]⟩ := by
  have hk : k < x.cps.size := by
    have := (List.getElem?_eq_some_iff.mp h).1
    simpa using this
  have e : Txt.charAt x (k : Int) = some c := by
    unfold Txt.charAt
    have : seqIndex? (k : Int) x.length = some k := by
      unfold seqIndex?
      have e1 : x.length = x.cps.size := rfl
      have e2 : (if (k : Int) < 0 then (k : Int) + (x.length : Int) else (k : Int)) = (k : Int) := if_neg (by omega)
      simp only [e2]
      rw [if_pos (by simp [e1, hk])]
      simp
    rw [this, Option.bind_some]
    rw [← Array.getElem?_toList]
    exact h
  unfold Txt.item
  rw [e]; rfl
theorem one_beq (a b : Nat) : ((⟨#[a]⟩ : Str) == ⟨#[b]⟩) = (a == b) := by
  by_cases h : a = b
  · subst h; simp
  · have : (⟨#[a]⟩ : Str) ≠ ⟨#[b]⟩ := by
      intro e
      injection e with e
      injection e with e
      injection e with e
      exact h e
    rw [beq_eq_false_iff_ne.mpr this, beq_eq_false_iff_ne.mpr h]
theorem cand_le {w t : List Nat} {c h : Nat} (H : Cand w t c h) : h ≤ t.length := by
  have := H.2.1.length_le
  have h1 := H.1
  rw [List.length_take] at this
  omega
theorem get_some {l : List Nat} {k : Nat} (h : k < l.length) : ∃ c, l[k]? = some c := ⟨l[k], List.getElem?_eq_getElem h⟩
theorem sign_ne {x : Str} {k n c : Nat} {i : Int} (hi : i = (n : Int)) (hk : k < x.cps.toList.length) (hn : x.cps.toList[n]? = some c) (h : (Txt.item x (k : Int) != Txt.item x i) = true) : x.cps.toList[k]? ≠ some c := by
  intro hc
  rw [hi, item_at hc, item_at hn] at h
  simp at h
theorem sign_eq {x : Str} {k n c : Nat} {i : Int} (hi : i = (n : Int)) (hk : k < x.cps.toList.length) (hn : x.cps.toList[n]? = some c) (h : (Txt.item x (k : Int) == Txt.item x i) = true) : x.cps.toList[k]? = some c := by
  obtain ⟨d, hd⟩ := get_some hk
  rw [hi, item_at hd, item_at hn, one_beq] at h
  rw [hd, beq_iff_eq.mp h]
theorem sign_ne' {x : Str} {k n c : Nat} {i : Int} (hi : i = (n : Int)) (hk : k < x.cps.toList.length) (hn : x.cps.toList[n]? = some c) (h : (Txt.item x (k : Int) == Txt.item x i) = false) : x.cps.toList[k]? ≠ some c := by
  intro hc
  rw [hi, item_at hc, item_at hn] at h
  simp at h
theorem off_have {m₀ u : Str → Option Value} {v w : Option Value} {y : Str} : ∀ z, z ≠ y → (fun z => if z = y then v else if z = y then w else if ([y] : List Str).contains z then u z else m₀ z) z = m₀ z := by
  intro z hz
  have : ([y] : List Str).contains z = false := by simp [hz]
  simp [hz]
theorem links_end {w : List Nat} {j k : Nat} {c : Nat} {ns : List Int} {v i : Int} (H : LinksTo w (0 + j + 1) ns) (hc : w[j + 1]? = some c) (B : Best w ((w.take (j + 1)).tail ++ [c]) k) (hv : v = (k : Int)) (hi : i = ((j + 1 : Nat) : Int)) : LinksTo w (0 + j + 1 + 1) (ns.set i.toNat v) := by
  subst hv hi
  rw [take_tail_succ (by omega) hc] at B
  rw [Int.toNat_natCast]
  rw [show 0 + j + 1 = j + 1 by omega] at H ⊢
  exact links_step H (List.getElem?_eq_some_iff.mp hc).1 B
theorem off_size {st : List Str} {m₀ m' : Str → Option Value} (h : ∀ z, st.contains z = false → m' z = m₀ z) : ∀ z, st.contains z = false → m' z = m₀ z := h
theorem range_get {f : Nat → Itm} {n j : Nat} {a : Itm} (h : ((List.range n).map f)[j]? = some a) : j < n ∧ a = f j := by
  rw [List.getElem?_map] at h
  by_cases hj : j < n
  · rw [List.getElem?_range hj] at h
    exact ⟨hj, (Option.some.inj h).symm⟩
  · rw [List.getElem?_eq_none (by simpa using hj)] at h
    cases h
end Mine
end
section
open PySem PySem.W PyProof.Rows
namespace Mine
theorem sign_eqb {x : Str} {k n c : Nat} {i : Int} (hi : i = (n : Int)) (hk : k < x.cps.toList.length) (hn : x.cps.toList[n]? = some c) (h : (Txt.item x (k : Int) != Txt.item x i) = false) : x.cps.toList[k]? = some c :=
  sign_eq hi hk hn (by simpa [bne] using h)
theorem link_miss {w t : List Nat} {c k : Nat} (hP : Cand w t c k) (hX : k = 0 ∨ w[k]? = some c) (hc : w[k]? ≠ some c) : Best w (t ++ [c]) 0 := by
  rcases hX with rfl | h
  · exact cand_miss hP hc
  · exact absurd h hc
section
variable {prog : Program} {w : World} {A : Around} {E : Value → Shared → Prop} {s : Shared} {env : Env} {h₀ : Heap} {L : Addr} {m : Str → Option Value}
def MeetI (h₀ : Heap) (L : Addr) (m : Str → Option Value) (led : List (Addr × Obj)) (B : Int → Prop) (s : Shared) (v : Value) (s' : Shared) : Prop := ∃ h' tk' k t, s' = { s with heap := h', toks := tk' } ∧ v = .int k t ∧ Fr h₀ L h' m ∧ News h₀ L h' led ∧ B k
theorem meet_int {e : Expr} {Q : Value → Shared → Prop} {led : List (Addr × Obj)} (B : Int → Prop) (_ : Fr h₀ L s.heap m) (_ : News h₀ L s.heap led)
    (ev : wpAny (model prog w) A (eval e env) (MeetI h₀ L m led B s) E s)
    (go : ∀ h' tk' k t, B k → Fr h₀ L h' m → News h₀ L h' led → Q (.int k t) { s with heap := h', toks := tk' }) : wpAny (model prog w) A (eval e env) Q E s :=
  wpAny_mono ev (fun v s' ⟨h', tk', k, t, e1, e2, F, N, b⟩ => by subst e1 e2; exact go h' tk' k t b F N) fun _ _ e => e
end
section
variable {prog : Program} {w : World} {A : Around} {E : Value → Shared → Prop} {Q : Flow → Shared → Prop} {s : Shared} {env : Env} {h₀ : Heap} {L : Addr}
theorem while_have_once {test : Expr} {body : List Stmt} {pos : Pos} {m₀ : Str → Option Value} {led : List (Addr × Obj)} (y : Str) (P X : Nat → Prop) {b : Nat} {t0 : Tok} (F : Fr h₀ L s.heap m₀) (N : News h₀ L s.heap led) (hy : m₀ y = some (.int (b : Int) t0)) (hp : P b)
    (turn : ∀ (k : Nat) (t : Tok) (u : Str → Option Value) h tk, P k → Fr h₀ L h (fun z => if z = y then some (.int (k : Int) t) else if ([y] : List Str).contains z then u z else m₀ z) → News h₀ L h led →
      wpAny (model prog w) A (isTrue test env (eval test env)) (fun b s₂ => if b = true then wpAny (model prog w) A (execs body env) (WhPost h₀ L s led y m₀ P Q k) E s₂ else ∃ h' tk', s₂ = { s with heap := h', toks := tk' } ∧ Fr h₀ L h' (fun z => if z = y then some (.int (k : Int) t) else if ([y] : List Str).contains z then u z else m₀ z) ∧ News h₀ L h' led ∧ X k) E { s with heap := h, toks := tk })
    (done : ∀ (k : Nat) (t : Tok) (u : Str → Option Value) h tk, P k → X k → Fr h₀ L h (fun z => if z = y then some (.int (k : Int) t) else if ([y] : List Str).contains z then u z else m₀ z) → News h₀ L h led → Q .next { s with heap := h, toks := tk })
    (hE : PassesOwn (model prog w) A env E := by passes_own) :
    wpAny (model prog w) A (exec (.While test body [] pos) env) Q E s := by
  refine while_have y P F N hy hp (fun k t u h tk hk F1 N1 => wpAny_mono (turn k t u h tk hk F1 N1) (fun b s₂ x => ?_) fun _ _ e => e) hE
  cases b with
  | true => exact x
  | false =>
    obtain ⟨h', tk', rfl, F2, N2, hx⟩ := x
    exact done k t u h' tk' hk hx F2 N2
end
end Mine
end
section
open PySem PySem.W PyProof.Rows
set_option pp.deepTerms false
set_option pp.maxSteps 20000
namespace Mine
local macro_rules | `(tactic| k_ownIn) => `(tactic| (first | ((with_reducible refine gen_toks ?_); intro tk9) | (k_unfold; (try dsimp only)) | (k_end; wrow_close) | walk1 | (dsimp only; walk1) | (leave1; walk_say "STEP leave1"; try dsimp only) | fail "no step"))
local macro_rules | `(tactic| walk_at "exec For Name Call cons nil") => `(tactic| (k_here; (rename Fr _ _ _ _ => lF'); (with_unfolding_all refine' For_turns lF' ?_; k_whole)))
local macro_rules | `(tactic| walk_at "pyIter ref") => `(tactic| (k_here; (with_reducible show wpAny _ _ (pyIter (Value.ref _)) (fun it s₂ => TurnsAt _ _ _ _ _ _ _ _ _ it s₂) _ _); (with_reducible rename IsRange _ _ _ _ _ _ _ _ => hR9); refine Halt.mk ?_))
local macro_rules | `(tactic| walk_at "call ref") => `(tactic| (k_here; (with_reducible show wpAny _ _ (call (Value.ref 304) _) _ _ _); refine Halt.mk ?_))
local macro_rules | `(tactic| walk_at "call builtin:isinstance") => `(tactic| (k_here; k_dflt (refine' isi_call ?k1 ?k2 ?k3 ?k4 ?_; (case k1 => k_in); (case k2 => k_types); (case k3 => k_is); (case k4 => intro e; cases e); k_whole)))
local macro_rules | `(tactic| walk_at "subscriptTail") => `(tactic| (k_here; (with_reducible show wpAny _ _ (subscriptTail _ _ (Value.ref _) (Value.int _ _)) _ _ _); refine Halt.mk ?_))
local macro_rules | `(tactic| k_in) => `(tactic| exact Frag.In.keeps (by with_reducible assumption) (Fr.keep (by with_reducible assumption)))
local macro_rules | `(tactic| walk_at "exec While Compare cons nil") => `(tactic| (k_here; refine Halt.mk ?_))
local macro_rules | `(tactic| walk_at "exec While") => `(tactic| (k_here; refine Halt.mk ?_))
local macro_rules | `(tactic| walk_at "setItem ref int") => `(tactic| (k_here; (with_reducible show wpAny _ _ (setItem (Value.ref _) (Value.int _ _) _) _ _ _); refine Halt.mk ?_))
local macro_rules | `(tactic| walk_at "eval IfExp") => `(tactic| (k_here; refine Halt.mk ?_))
local macro_rules | `(tactic| walk_at "UnrEndW") => `(tactic| (goal_has Mine.LinksJ; refine Halt.mk ?_))
theorem kf3 : PySem.Challenge.rw_xm0957_01 = PySem.Challenge.rw_xm0957_01 ∧ hd.heap_1 = hd.heap_1 := by
  k_fill
  exact ⟨rfl, rfl⟩
theorem links_ok {w : World} {p : Program} {loose : List Str} {mean : ExcName → Option Value} {mg mb : Str → Option Value} {x : Str} {t : Tok} (hx1 : 1 ≤ x.length) (hx4 : x.length ≤ 4)
  (cn : Str) (cs : Scope) (a : Addr) (ccd : Value) (cl : List (Str × Addr)) (base h₀ : Heap) (L : Addr) (m : Str → Option Value) (c1 c2 c3 c4 : Addr) (o1 o2 o3 o4 : Obj) (s : Shared)
    (Q E : Value → Shared → Prop) (B : Below callerA base [] h₀) (F : Fr h₀ L s.heap m) (X : (hd.heap_1 w.params).In h₀) (N : News h₀ L s.heap [(c4, o4), (c3, o3), (c2, o2), (c1, o1)]) (T : Top p loose mean mg mb h₀)
    (hk : cs.kind = .function)
    (ret : ∀ (x' d l D1 D : Addr) (t1 t2 t3 t4 t5 t6 t7 t8 t9 ta u1 u2 : Tok) (vs : List Value) (ns : List Int) h' tk', IntsAre vs ns → LinksTo x.cps.toList x.length ns → Fr h₀ L h' m →
      News h₀ L h' [(x', instObj 250 d), (d, arrDict w.params t1 t2 t3 t4 t5 t6 t7 t8 t9 ta l D), (l, listOf #[Value.ref D1] 0), (D1, { cls := Value.type "tuple", data := Data.seq #[Value.int 1 u1, Value.int (x.length : Int) u2] }), (D, listOf vs.toArray 0), (c4, o4), (c3, o3), (c2, o2), (c1, o1)] →
      (AllLt D1 [(c4, o4), (c3, o3), (c2, o2), (c1, o1)] ∧ @LT.lt Nat _ D1 l ∧ @LT.lt Nat _ l d ∧ @LT.lt Nat _ d x' ∧ @LT.lt Nat _ x' D) → Q (.ref x') { s with heap := h', toks := tk' }) :
    wpAny (model PySem.Challenge.rw_xm0957_01.row.prog w) (callerA.deeper (envX cn cs L a ccd cl)) (call (.ref 573) [.str x t]) Q E s := by
  refine wpAny_call ?_
  k_dflt ktr_enter
  w_strict (repeat' k_ownIn)
  refine Halt.out ?_
  have hwl := str_len x
  with_unfolding_all refine for_range (n := x.length - 1) rfl (by assumption) (small_one (by omega) (by omega) (by omega) (by omega)) (by rw [rangeSize_nat]; omega) (by k_asm) (kst_newsOf (by k_asm) (l' := [(_, listOf (List.replicate (1 * ((x.length : Int) - 1 + 1)).toNat [Value.int 0 _]).flatten.toArray 0), (_, instObj 250 _), (_, arrDict w.params _ _ _ _ _ _ _ _ _ _ _ _), (_, listOf #[Value.ref _] 0), (_, { cls := Value.type "tuple", data := Data.seq #[Value.int 1 _, Value.int _ _] }), (c4, o4), (c3, o3), (c2, o2), (c1, o1)]) (by lcg_sub)) ?_
  intro I hI
  have hlt9 := allLt_of hI
  simp only [AllLt, and_true] at hlt9
  have hI9 : ∀ I8 : Addr, I8 = I → I8 = I := fun _ h => h
  with_unfolding_all refine' items_loop (LinksJ x.cps.toList _ _ _) _ 0 _ _ ?turn ?done ⟨_, _, ?ia, links_first hx1, rfl, fun _ _ => rfl⟩
  case ia => assumption
  case done =>
    rintro m1 news1 h1 tk1 ⟨vs, ns, hia, hli, rfl, hm⟩ F1 N1
    replace F1 := fr_norm (["size", "have", "sign", "ref"] : List Str) hm F1
    w_strict (repeat' k_ownIn)
    have hli' : LinksTo x.cps.toList x.length ns := by
      have e : 0 + ((List.range (x.length - 1)).map fun (i : Nat) => Itm.tok (fun t => .int (2 + (i : Int)) t)).length + 1 = x.length := by rw [List.length_map, List.length_range]; omega
      rw [e] at hli
      exact hli
    rename News _ _ _ _ => N9
    refine ret _ _ _ _ _ _ _ _ _ _ _ _ _ _ _ _ _ vs ns _ _ hia hli' (by k_asm) (kst_newsOf N9 (by lcg_sub)) ?_
    simp only [AllLt, and_true]
    refine ⟨⟨?_, ?_, ?_, ?_⟩, ?_, ?_, ?_, ?_⟩ <;> omega
  case turn =>
    rintro j a1 m1 news1 v1 h1 tk1 hxs ⟨vs, ns, hia, hli, rfl, hm⟩ hv F1
    replace F1 := fr_norm (["size", "have", "sign", "ref"] : List Str) hm F1
    obtain ⟨hj, rfl⟩ := range_get hxs
    obtain ⟨t9, rfl⟩ := hv
    refine AllObj.cons (fun o9 ho9 => ?_)
    refine AllObj.nil (fun N1 => ?_)
    simp only [List.cons_append, List.nil_append] at N1
    dsimp only
    w_strict (repeat' k_ownIn)
    refine Halt.out ?_
    rename News _ _ _ _ => N2
    with_unfolding_all refine' item_ok (r1 := I) (r2 := c4) (r3 := c3) (r4 := c2) (r5 := c1) (r6 := c1) (r7 := c1) (r8 := c1) (p1 := o9) (p2 := o4) (p3 := o3) (p4 := o2) (p5 := o1) (p6 := o1) (p7 := o1) (p8 := o1) ?h1 ?h2 ?h3 _ _ _ _ _ _ _ _ _ _ _ _ _ _ _ _ _ ?B ?F ?X ?N ?T ?hk ?hdp ?ret
    case B => k_asm
    case F => k_asm
    case X => k_asm
    case N => exact kst_newsOf N2 (by lcg_sub)
    case T => k_asm
    case hk => rfl
    case hdp => (simp only [depth_deeper, depth_caller]; decide)
    case h1 => omega
    case h2 => omega
    case h3 => omega
    case ret =>
      clear N2
      intro z1 dz1 q1 q2 q3 q4 q5 h2 tk2 F2 N2 hl2 hz2
      simp only [AllLt, and_true] at hl2; replace hz2 := ltN hz2
      w_strict (repeat' k_ownIn)
      refine Halt.out ?_
      obtain ⟨b, hb1, hb2⟩ := hli.2 (0 + j + 1) (by omega) (Nat.le_refl _)
      refine item_ints (by k_asm) (by k_mem) hia (by omega) (by omega) (by rw [show (2 + (j : Int) - 1 - 1).toNat = 0 + j + 1 - 1 by omega]; exact hb1) (fun t7 => ?_)
      w_strict (repeat' k_ownIn)
      refine Halt.out ?_
      obtain ⟨ch, hch⟩ := get_some (l := x.cps.toList) (k := j + 1) (by omega)
      have hsg : Txt.item x (2 + (j : Int) - 1) = ⟨#[ch]⟩ := by rw [show (2 + (j : Int) - 1) = ((j + 1 : Nat) : Int) by omega]; exact item_at hch
      rw [hsg] at *
      have hbc : Cand x.cps.toList (x.cps.toList.take (j + 1)).tail ch b := cand_start (by simpa using hb2)
      rename News _ _ _ _ => N3
      have N4 := kst_newsOf (l' := [(I, o9), (_, listOf vs.toArray 0), (_, instObj 250 _), (_, arrDict w.params _ _ _ _ _ _ _ _ _ _ _ _), (_, listOf #[Value.ref _] 0), (_, { cls := Value.type "tuple", data := Data.seq #[Value.int 1 _, Value.int (x.length : Int) _] }), (c4, o4), (c3, o3), (c2, o2), (c1, o1)]) N3 (by lcg_sub)
      clear N3
      with_unfolding_all refine' while_have_once (Str.ofString "have") (fun k => Cand x.cps.toList (x.cps.toList.take (j + 1)).tail ch k) (fun k => k = 0 ∨ x.cps.toList[k]? = some ch) ?F N4 ?hy hbc ?turn ?done
      case F => k_asm
      case hy => rfl
      case turn =>
        clear N4
        intro k tk8 u8 h8 tk9 hP F8 N8
        have hkj : k ≤ j := by
          have := cand_le hP
          rw [List.length_tail, List.length_take] at this
          omega
        w_strict (repeat' k_ownIn)
        · rename (_ != _) = true => hne
          rename (0 : Int) < _ => hk0
          refine Halt.out ?_
          rename News _ _ _ _ => N2
          with_unfolding_all refine' item_ok (r1 := I) (r2 := c4) (r3 := c3) (r4 := c2) (r5 := c1) (r6 := c1) (r7 := c1) (r8 := c1) (p1 := o9) (p2 := o4) (p3 := o3) (p4 := o2) (p5 := o1) (p6 := o1) (p7 := o1) (p8 := o1) ?h1 ?h2 ?h3 _ _ _ _ _ _ _ _ _ _ _ _ _ _ _ _ _ ?B ?F ?X ?N ?T ?hk ?hdp ?ret
          case B => k_asm
          case F => k_asm
          case X => k_asm
          case N => exact kst_newsOf N2 (by lcg_sub)
          case T => k_asm
          case hk => rfl
          case hdp => (simp only [depth_deeper, depth_caller]; decide)
          case h1 => omega
          case h2 => omega
          case h3 => omega
          case ret =>
            clear N2
            intro z1 dz1 q1 q2 q3 q4 q5 h2 tk2 F2 N2 hl2 hz2
            simp only [AllLt, and_true] at hl2; replace hz2 := ltN hz2
            w_strict (repeat' k_ownIn)
            refine Halt.out ?_
            obtain ⟨b', hb1', hb2'⟩ := hli.2 k (by omega) (by omega)
            refine item_ints (by k_asm) (by k_mem) hia (by omega) (by omega) (by rw [show ((k : Int) - 1).toNat = k - 1 by omega]; exact hb1') (fun t6 => ?_)
            w_strict (repeat' k_ownIn)
            obtain ⟨hc', hlt'⟩ := cand_next hP (by omega) (Or.inr (sign_ne (by omega) (by omega) hch hne)) hb2'
            exact ⟨b', t6, _, _, _, _, rfl, by k_asm, by k_asm, by lcg_sub, rfl, off_have, hc', hlt'⟩
        all_goals (first | k_asm | exact Or.inl (by omega) | exact Or.inr (sign_eqb (i := 2 + (j : Int) - 1) (n := j + 1) (by omega) (by omega) hch (by assumption)))
      case done =>
        clear N4
        intro k tk8 u8 h8 tk9 hP hX F8 N8
        have hkj : k ≤ j := by
          have := cand_le hP
          rw [List.length_tail, List.length_take] at this
          omega
        w_strict (repeat' k_ownIn)
        refine Halt.out ?_
        rename News _ _ _ _ => N2
        with_unfolding_all refine' item_ok (r1 := I) (r2 := c4) (r3 := c3) (r4 := c2) (r5 := c1) (r6 := c1) (r7 := c1) (r8 := c1) (p1 := o9) (p2 := o4) (p3 := o3) (p4 := o2) (p5 := o1) (p6 := o1) (p7 := o1) (p8 := o1) ?h1 ?h2 ?h3 _ _ _ _ _ _ _ _ _ _ _ _ _ _ _ _ _ ?B ?F ?X ?N ?T ?hk ?hdp ?ret
        case B => k_asm
        case F => k_asm
        case X => k_asm
        case N => exact kst_newsOf N2 (by lcg_sub)
        case T => k_asm
        case hk => rfl
        case hdp => (simp only [depth_deeper, depth_caller]; decide)
        case h1 => omega
        case h2 => omega
        case h3 => omega
        case ret =>
          clear N2
          intro z1 dz1 q1 q2 q3 q4 q5 h2 tk2 F2 N2 hl2 hz2
          simp only [AllLt, and_true] at hl2; replace hz2 := ltN hz2
          w_strict (repeat' k_ownIn)
          refine Halt.out ?_
          rename News _ _ _ _ => N5
          refine meet_int (fun i => ∃ k' : Nat, i = (k' : Int) ∧ Best x.cps.toList ((x.cps.toList.take (j + 1)).tail ++ [ch]) k') (by k_asm) N5 ?ev ?go
          case ev =>
            refine IfExp_ ?_
            w_strict (repeat' k_ownIn)
            · exact ⟨_, _, _, _, rfl, rfl, by k_asm, by k_asm, k + 1, by omega, cand_hit hP (sign_eq (i := 2 + (j : Int) - 1) (n := j + 1) (by omega) (by omega) hch (by assumption))⟩
            · exact ⟨_, _, _, _, rfl, rfl, by k_asm, by k_asm, 0, by omega, link_miss hP hX (sign_ne' (i := 2 + (j : Int) - 1) (n := j + 1) (by omega) (by omega) hch (by assumption))⟩
          case go =>
            clear N5
            rintro h5 tk5 k5 t5 ⟨k', rfl, hB'⟩ F5 N5
            w_strict (repeat' k_ownIn)
            refine Halt.out ?_
            rename News _ _ _ _ => N5; have hln := hli.1
            refine ksa_set (by k_asm) N5 (by k_upd) hia (by omega) (by omega) (by omega) (fun h7 F7 N7 hi7 _ _ => ?_)
            w_strict (repeat' k_ownIn)
            refine Halt.out ?_
            rename News _ _ _ _ => N6
            refine ⟨_, _, _, _, rfl, by k_asm, kst_newsOf (l' := (I, o9) :: (_, listOf (vs.set (2 + (j : Int) - 1).toNat _).toArray 0) :: (_, instObj 250 _) :: (_, arrDict w.params _ _ _ _ _ _ _ _ _ _ _ _) :: (_, listOf #[Value.ref _] 0) :: (_, { cls := Value.type "tuple", data := Data.seq #[Value.int 1 _, Value.int (x.length : Int) _] }) :: (c4, o4) :: (c3, o3) :: (c2, o2) :: (c1, o1) :: []) N6 (by lcg_sub), ?_, ⟨_, _, hi7, ?_, rfl, ?_⟩⟩
            · intro p hp q hq
              rw [List.mem_singleton.mp hq]
              simp only [List.mem_cons, List.mem_nil_iff, or_false] at hp
              rcases hp with rfl | rfl | rfl | rfl | rfl | rfl | rfl | rfl | rfl <;> (refine neN ?_; dsimp only; omega)
            · exact links_end hli hch hB' rfl (by omega)
            · intro z hz
              have z1 : z ≠ Str.ofString "ref" := by rintro rfl; revert hz; decide
              have z2 : z ≠ Str.ofString "have" := by rintro rfl; revert hz; decide
              have z3 : z ≠ Str.ofString "sign" := by rintro rfl; revert hz; decide
              have z4 : z ≠ Str.ofString "size" := by rintro rfl; revert hz; decide
              have z5 : ([Str.ofString "have"] : List Str).contains z = false := by simp [z2]
              simp only [if_neg z1, if_neg z2, if_neg z3, if_neg z4, z5, hz, Bool.false_eq_true, if_false]
end Mine
end
section
open PySem PySem.W PyProof.Rows
namespace Mine
abbrev hostDict (P : Params) (a1 a2 a3 a4 a5 a6 b1 b2 b3 : Tok) (V R G : Addr) (st : Int) : Obj := dictOf
        [{ hash := PyData.keyHash P (Str.ofString "values"), key := Value.str (Str.ofString "values") a1, val := Value.ref V },
          { hash := PyData.keyHash P (Str.ofString "limit"), key := Value.str (Str.ofString "limit") a2, val := Value.int 9999 b1 },
          { hash := PyData.keyHash P (Str.ofString "refused"), key := Value.str (Str.ofString "refused") a3, val := Value.ref R },
          { hash := PyData.keyHash P (Str.ofString "width"), key := Value.str (Str.ofString "width") a4, val := Value.int 64 b2 },
          { hash := PyData.keyHash P (Str.ofString "steps"), key := Value.str (Str.ofString "steps") a5, val := Value.int st b3 },
          { hash := PyData.keyHash P (Str.ofString "log"), key := Value.str (Str.ofString "log") a6, val := Value.ref G }]
        6
abbrev varDict (P : Params) (a1 a2 a3 b1 b2 : Tok) : Obj := dictOf
        [{ hash := PyData.keyHash P (Str.ofString "kind"), key := Value.str (Str.ofString "kind") a1, val := Value.str (Str.ofString "var") b1 },
          { hash := PyData.keyHash P (Str.ofString "owner"), key := Value.str (Str.ofString "owner") a2, val := Value.none },
          { hash := PyData.keyHash P (Str.ofString "key"), key := Value.str (Str.ofString "key") a3, val := Value.str (Str.ofString "J") b2 }]
        3
abbrev tup (vs : Array Value) : Obj := { cls := Value.type "tuple", data := Data.seq vs }
/-- the log: references to pairs ('J', place) -/
def LogIn (tl : List (Addr × Obj)) (vs : List Value) (ns : List Int) : Prop :=
  vs.length = ns.length ∧ ∀ (i : Nat) (v : Value), vs[i]? = some v → ∃ (g : Addr) (n : Int) (t u : Tok), v = .ref g ∧ ns[i]? = some n ∧ (g, tup #[.str (Str.ofString "J") t, .int n u]) ∈ tl
theorem LogIn.nil {tl : List (Addr × Obj)} : LogIn tl [] [] := ⟨rfl, fun i v h => by simp at h⟩
theorem LogIn.snoc {tl : List (Addr × Obj)} {vs : List Value} {ns : List Int} {g : Addr} {v : Int} {t u : Tok} (x : LogIn tl vs ns) (hm : (g, tup #[.str (Str.ofString "J") t, .int v u]) ∈ tl) : LogIn tl (vs ++ [.ref g]) (ns ++ [v]) := by
  obtain ⟨e, ih⟩ := x
  refine ⟨by rw [List.length_append, List.length_append, e]; rfl, fun i z h => ?_⟩
  by_cases hi : i < vs.length
  · rw [List.getElem?_append_left hi] at h
    obtain ⟨g', n', t', u', h1, h2, h3⟩ := ih _ _ h
    exact ⟨g', n', t', u', h1, by rw [List.getElem?_append_left (by omega)]; exact h2, h3⟩
  · have hi2 : i = vs.length := by
      have := (List.getElem?_eq_some_iff.mp h).1
      rw [List.length_append, List.length_singleton] at this
      omega
    subst hi2
    rw [List.getElem?_append_right (Nat.le_refl _), Nat.sub_self] at h
    refine ⟨g, v, t, u, (Option.some.inj h).symm, ?_, hm⟩
    rw [e, List.getElem?_append_right (Nat.le_refl _), Nat.sub_self]; rfl
theorem LogIn.mono {tl tl' : List (Addr × Obj)} (h : ∀ p ∈ tl, p ∈ tl') {vs : List Value} {ns : List Int} (x : LogIn tl vs ns) : LogIn tl' vs ns := by
  refine ⟨x.1, fun i v hv => ?_⟩
  obtain ⟨g, n, t, u, h1, h2, h3⟩ := x.2 i v hv
  exact ⟨g, n, t, u, h1, h2, h _ h3⟩
theorem off_cls {h₀ h : Heap} {L I : Addr} {o : Obj} {big : List (Addr × Obj)} (N : News h₀ L h big) (ho : o.cls = .type "range_iterator") (hI : (I, o) ∈ big) {p : Addr × Obj} (hp : p ∈ big) (hc : p.2.cls = .type "tuple") : p.1 ≠ I := by
  intro e
  have h1 := (N _ hI).1
  have h2 := (N _ hp).1
  rw [e] at h2
  have h3 : o = p.2 := Option.some.inj (h1.symm.trans h2)
  rw [h3, hc] at ho
  injection ho with e2
  exact absurd e2 (by decide)
theorem off_all {h₀ h : Heap} {L I : Addr} {o : Obj} {fixed tl : List (Addr × Obj)} (N : News h₀ L h (((I, o) :: fixed) ++ tl)) (ho : o.cls = .type "range_iterator") (hf : ∀ p ∈ fixed, p.1 ≠ I) (ht : ∀ p ∈ tl, p.2.cls = .type "tuple") : ∀ p ∈ fixed ++ tl, ∀ q ∈ [(I, o)], p.1 ≠ q.1 := by
  intro p hp q hq
  rw [List.mem_singleton.mp hq]
  rcases List.mem_append.mp hp with h1 | h1
  · exact hf p h1
  · exact off_cls N ho (.head _) (List.mem_append.mpr (.inr h1)) (ht p h1)
theorem sub_tl {l big tl : List (Addr × Obj)} (h1 : ∀ p ∈ l, p ∈ big) (h2 : ∀ p ∈ tl, p ∈ big) : ∀ p ∈ l ++ tl, p ∈ big := fun p hp => (List.mem_append.mp hp).elim (h1 p) (h2 p)
end Mine
end
section
open PySem PySem.W PyProof.Rows PySem.Builtin PySem.Builtin.Str
namespace Mine
theorem slice_clip {r : PySem.Str} {a : Nat} {b : Int} (h : (r.length : Int) ≤ b) : StrLaws.sliceText r (some (a : Int)) (some b) = StrLaws.sliceText r (some (a : Int)) (some (r.length : Int)) := by
  unfold StrLaws.sliceText
  have : strSliceIndices (some (a : Int)) (some b) 1 r.length = strSliceIndices (some (a : Int)) (some (r.length : Int)) 1 r.length := by
    have h1 : ¬ (b < 0) := by omega
    have h2 : ¬ ((r.length : Int) < 0) := by omega
    have h3 : min b (r.length : Int) = (r.length : Int) := by omega
    simp [strSliceIndices, h1, h2, h3]
  rw [this]
theorem slice_at {r : PySem.Str} {j n : Nat} (hj : j ≤ r.length) : (Txt.slice r (some (0 + (j : Int))) (some (0 + (j : Int) + (n : Int)))).cps.toList = (r.cps.toList.drop j).take n := by
  show (StrLaws.sliceText r (some (0 + (j : Int))) (some (0 + (j : Int) + (n : Int)))).cps.toList = _
  rw [Int.zero_add]
  have hl := str_len r
  by_cases h : j + n ≤ r.length
  · rw [show (j : Int) + (n : Int) = ((j + n : Nat) : Int) by omega, StrLaws.sliceText_nat r (by omega) h]
    simp
  · rw [slice_clip (by omega), StrLaws.sliceText_nat r hj (Nat.le_refl _)]
    show (r.cps.toList.drop j).take (r.length - j) = _
    rw [List.take_of_length_le (by rw [List.length_drop]; omega), List.take_of_length_le (by rw [List.length_drop]; omega)]
theorem slice_hit {r x : PySem.Str} {j : Nat} (hj : j ≤ r.length) (h : (Txt.slice r (some (0 + (j : Int))) (some (0 + (j : Int) + (x.length : Int))) == x) = true) : (r.cps.toList.drop j).take x.cps.toList.length = x.cps.toList := by
  have e := beq_iff_eq.mp h
  rw [str_len, ← slice_at hj, e]
theorem slice_miss {r x : PySem.Str} {j : Nat} (hj : j ≤ r.length) (h : (Txt.slice r (some (0 + (j : Int))) (some (0 + (j : Int) + (x.length : Int))) == x) = false) : ¬ (r.cps.toList.drop j).take x.cps.toList.length = x.cps.toList := by
  intro e
  rw [str_len, ← slice_at hj] at e
  have e2 : Txt.slice r (some (0 + (j : Int))) (some (0 + (j : Int) + (x.length : Int))) = x := by
    apply Str.ext'
    exact Array.toList_inj.mp e
  rw [e2] at h
  simp at h
end Mine
end
section
open PySem PySem.W PyProof.Rows
set_option pp.deepTerms false
set_option pp.maxSteps 20000
namespace Mine
local macro_rules | `(tactic| k_ownIn) => `(tactic| (first | ((with_reducible refine gen_toks ?_); intro tk9) | (k_unfold; (try dsimp only)) | (k_end; wrow_close) | walk1 | (dsimp only; walk1) | (leave1; walk_say "STEP leave1"; try dsimp only) | fail "no step"))
local macro_rules | `(tactic| k_room) => `(tactic| ((try simp only [depth_under_make, depth_under_kw, depth_in1, depth_deeper, depth_caller]); (try dsimp only [ktrTop]); omega))
local macro_rules | `(tactic| k_in) => `(tactic| exact Frag.In.keeps (by with_reducible assumption) (Fr.keep (by with_reducible assumption)))
local macro_rules | `(tactic| walk_at "newTuple cons ref cons") => `(tactic| (k_here; refine tup_gen ?_; intro t9; k_dflt (refine' kup_newTuple ?F ?N ?_ ?z; (case F => k_asm); (case N => k_asm); (case z => kmk_size)); intro D' h' F' N' l1; (try k_lt l1); (try k_sweep)))
local macro_rules | `(tactic| walk_at "newTuple cons str cons") => `(tactic| (k_here; (with_reducible show wpAny _ _ (newTuple (Value.str _ _ :: Value.str _ _ :: Value.str _ _ :: _)) _ _ _); k_dflt (refine' tup_seen ?F ?N ?_ ?z; (case F => k_asm); (case N => k_asm); (case z => kmk_size)); intro D' h' F' N' T9; (try k_sweep)))
local macro_rules | `(tactic| walk_at "compareOp In str ref") => `(tactic| (k_here; (with_reducible rename IsTup _ _ _ => T9); (refine' in_tuple_strs T9 ?k1 ?_); (case k1 => kde_strs); clear T9))
local macro_rules | `(tactic| walk_at "call builtin:isinstance") => `(tactic| (k_here; k_dflt (refine' isi_call ?k1 ?k2 ?k3 ?k4 ?_; (case k1 => k_in); (case k2 => k_types); (case k3 => k_is); (case k4 => intro e; cases e); k_whole)))
local macro_rules | `(tactic| walk_at "compareOp Eq ref str") => `(tactic| (k_here; k_dflt (refine cmp_ofEq ?_; refine SeqAt.RcAt.tuple_str _ _ (News.isTup (by k_asm) (by k_mem)) ?hu _ _ _ _ ?_; (case hu => k_units))))
local macro_rules | `(tactic| walk_at "subscriptTail Name Constant ref int") => `(tactic| (k_here; k_dflt (refine' item_tupleT ?T ?a ?b ?c ?d ?_; (case T => refine (News.isTup (by k_asm) (by k_mem))); (case a => decide); (case b => decide); (case c => exact rfl); (case d => exact rfl))))
local macro_rules | `(tactic| walk_at "compareOp NotIn str ref") => `(tactic| (k_here; k_dflt (refine' notin_tuple_strs (tupK (Frag.In.keeps ?X (Fr.keep ?F)) ?l) ?s ?_; (case X => k_asm); (case F => k_asm); (case l => k_is); (case s => kde_strs))))
theorem news_two {h₀ h : Heap} {L : Addr} {big : List (Addr × Obj)} {p q : Addr × Obj} (N : News h₀ L h big) (h1 : p ∈ big) (h2 : q ∈ big) : News h₀ L h (p :: q :: big) := fun x hx => by
  rcases List.mem_cons.mp hx with rfl | hx
  · exact N _ h1
  · rcases List.mem_cons.mp hx with rfl | hx
    · exact N _ h2
    · exact N _ hx
theorem kf5 : PySem.Challenge.rw_xm0957_01 = PySem.Challenge.rw_xm0957_01 ∧ hd.heap_1 = hd.heap_1 := by
  k_fill
  exact ⟨rfl, rfl⟩
theorem adv_fail {w : World} {p : Program} {loose : List Str} {mean : ExcName → Option Value} {mg mb : Str → Option Value} {ch N nv pl hs : Addr} {rest : Value} {at' : Int} {ta tr c : Tok} {r : Str}  {big : List (Addr × Obj)}
  (dp un : Nat) (gd : Option (List Code)) (cn : Str) (cs : Scope) (a : Addr) (ccd : Value) (cl : List (Str × Addr)) (outer : List Env) (A₀ : Around) (base h₀ : Heap) (L : Addr) (m : Str → Option Value) (s : Shared)
    (Q E : Value → Shared → Prop) (B : Below A₀ base outer h₀) (F : Fr h₀ L s.heap m) (X : (hd.heap_1 w.params).In h₀)
    (N0' : News h₀ L s.heap big) (h1 : (ch, tup #[.ref N, rest]) ∈ big) (h2 : (N, tup #[.str (Str.ofString "fail") c]) ∈ big) 
    (T : Top p loose mean mg mb h₀)
    (hk : cs.kind = .function) (hdp : dp < 900)
    (ret : ∀ h' tk', Fr h₀ L h' m → News h₀ L h' big → Q .none { s with heap := h', toks := tk' }) :
    wpAny (model PySem.Challenge.rw_xm0957_01.row.prog w) (ktrTop dp un gd cn cs L a ccd cl outer) (call (.ref 538) [.ref ch, .int at' ta, .ref nv, .str r tr, .ref pl, .ref hs]) Q E s := by
  have hrl : recursionLimit = 1000 := rfl
  have N1' := news_two N0' h1 h2
  clear N0' h1 h2
  refine wpAny_call ?_
  k_dflt (refine' code_def ?k1 ?k2 ?k3 ?k4 ?k5 ?kA ?kF ?kK ?k6 ?k7 ?k8 ?k9 ?kB ?_ ?c2 ?c3 ?c4 ?c5; (case kA => exact rfl); (case kF => exact rfl); (case kK => assumption); (case k1 => k_asm); (case k2 => k_asm); (case k3 => k_asm); (case k4 => k_asm); (case k5 => k_asm); (case k6 => k_is); (case k7 => k_is); (case k8 => k_room); (case k9 => exact BindsTo.of_eq rfl); (case c5 => decide); (case kB => exact locs rfl); (case c2 => exact rfl); (case c3 => exact rfl); (case c4 => exact rfl); k_whole; intro g' L' h' FG' F' N' B' X' T'; (try dsimp only); (try k_fold))
  w_strict (repeat' k_ownIn)
  rename News _ _ _ _ => N9
  exact ret _ _ (by k_asm) (kst_newsOf (l' := [] ++ big) N9 (sub_tl (by lcg_sub) (fun q hq => by repeat (first | exact hq | refine List.mem_cons_of_mem _ ?_))))
theorem adv_cat {w : World} {p : Program} {loose : List Str} {mean : ExcName → Option Value} {mg mb : Str → Option Value} {ch N nv pl hs : Addr} {rest : Value} {at' : Int} {ta tr c : Tok} {r : Str} {a' b' : Addr} {big : List (Addr × Obj)}
  (dp un : Nat) (gd : Option (List Code)) (cn : Str) (cs : Scope) (a : Addr) (ccd : Value) (cl : List (Str × Addr)) (outer : List Env) (A₀ : Around) (base h₀ : Heap) (L : Addr) (m : Str → Option Value) (s : Shared)
    (Q E : Value → Shared → Prop) (B : Below A₀ base outer h₀) (F : Fr h₀ L s.heap m) (X : (hd.heap_1 w.params).In h₀)
    (N0' : News h₀ L s.heap big) (h1 : (ch, tup #[.ref N, rest]) ∈ big) (h2 : (N, tup #[.str (Str.ofString "cat") c, .ref a', .ref b']) ∈ big) 
    (T : Top p loose mean mg mb h₀)
    (hk : cs.kind = .function) (hdp : dp < 900)
    (ret : ∀ (D1 D2 D3 : Addr) (t : Tok) h' tk', Fr h₀ L h' m → News h₀ L h' ((D1, tup #[.ref D2, .int at' t, .ref nv]) :: (D2, tup #[.ref a', .ref D3]) :: (D3, tup #[.ref b', rest]) :: big) → @LT.lt Nat _ N D3 → @LT.lt Nat _ D3 D2 → @LT.lt Nat _ D2 D1 → Q (.ref D1) { s with heap := h', toks := tk' }) :
    wpAny (model PySem.Challenge.rw_xm0957_01.row.prog w) (ktrTop dp un gd cn cs L a ccd cl outer) (call (.ref 538) [.ref ch, .int at' ta, .ref nv, .str r tr, .ref pl, .ref hs]) Q E s := by
  have hrl : recursionLimit = 1000 := rfl
  have N1' := news_two N0' h1 h2
  clear N0' h1 h2
  refine wpAny_call ?_
  k_dflt (refine' code_def ?k1 ?k2 ?k3 ?k4 ?k5 ?kA ?kF ?kK ?k6 ?k7 ?k8 ?k9 ?kB ?_ ?c2 ?c3 ?c4 ?c5; (case kA => exact rfl); (case kF => exact rfl); (case kK => assumption); (case k1 => k_asm); (case k2 => k_asm); (case k3 => k_asm); (case k4 => k_asm); (case k5 => k_asm); (case k6 => k_is); (case k7 => k_is); (case k8 => k_room); (case k9 => exact BindsTo.of_eq rfl); (case c5 => decide); (case kB => exact locs rfl); (case c2 => exact rfl); (case c3 => exact rfl); (case c4 => exact rfl); k_whole; intro g' L' h' FG' F' N' B' X' T'; (try dsimp only); (try k_fold))
  w_strict (repeat' k_ownIn)
  rename News _ _ _ _ => N9
  exact ret _ _ _ _ _ _ (by k_asm) (kst_newsOf (l' := [(_, tup #[.ref _, .int at' _, .ref nv]), (_, tup #[.ref a', .ref _]), (_, tup #[.ref b', rest])] ++ big) N9 (sub_tl (by lcg_sub) (fun q hq => by repeat (first | exact hq | refine List.mem_cons_of_mem _ ?_)))) (by omega) (by omega) (by omega)
theorem adv_hit {w : World} {p : Program} {loose : List Str} {mean : ExcName → Option Value} {mg mb : Str → Option Value} {ch N nv pl hs : Addr} {rest : Value} {at' : Int} {ta tr c : Tok} {r : Str} {x : Str} {t : Tok} {big : List (Addr × Obj)}
  (dp un : Nat) (gd : Option (List Code)) (cn : Str) (cs : Scope) (a : Addr) (ccd : Value) (cl : List (Str × Addr)) (outer : List Env) (A₀ : Around) (base h₀ : Heap) (L : Addr) (m : Str → Option Value) (s : Shared)
    (Q E : Value → Shared → Prop) (B : Below A₀ base outer h₀) (F : Fr h₀ L s.heap m) (X : (hd.heap_1 w.params).In h₀)
    (N0' : News h₀ L s.heap big) (h1 : (ch, tup #[.ref N, rest]) ∈ big) (h2 : (N, tup #[.str (Str.ofString "chars") c, .str x t]) ∈ big) (hx : x.length ≤ 4) (hr : r.length ≤ 8) (hp0 : 0 ≤ at') (hp1 : at' ≤ 8) (hsl : (Txt.slice r (some at') (some (at' + (x.length : Int))) == x) = true)
    (T : Top p loose mean mg mb h₀)
    (hk : cs.kind = .function) (hdp : dp < 900)
    (ret : ∀ (D1 : Addr) (t : Tok) h' tk', Fr h₀ L h' m → News h₀ L h' ((D1, tup #[rest, .int (at' + (x.length : Int)) t, .ref nv]) :: big) → @LT.lt Nat _ N D1 → Q (.ref D1) { s with heap := h', toks := tk' }) :
    wpAny (model PySem.Challenge.rw_xm0957_01.row.prog w) (ktrTop dp un gd cn cs L a ccd cl outer) (call (.ref 538) [.ref ch, .int at' ta, .ref nv, .str r tr, .ref pl, .ref hs]) Q E s := by
  have hrl : recursionLimit = 1000 := rfl
  have N1' := news_two N0' h1 h2
  clear N0' h1 h2
  refine wpAny_call ?_
  k_dflt (refine' code_def ?k1 ?k2 ?k3 ?k4 ?k5 ?kA ?kF ?kK ?k6 ?k7 ?k8 ?k9 ?kB ?_ ?c2 ?c3 ?c4 ?c5; (case kA => exact rfl); (case kF => exact rfl); (case kK => assumption); (case k1 => k_asm); (case k2 => k_asm); (case k3 => k_asm); (case k4 => k_asm); (case k5 => k_asm); (case k6 => k_is); (case k7 => k_is); (case k8 => k_room); (case k9 => exact BindsTo.of_eq rfl); (case c5 => decide); (case kB => exact locs rfl); (case c2 => exact rfl); (case c3 => exact rfl); (case c4 => exact rfl); k_whole; intro g' L' h' FG' F' N' B' X' T'; (try dsimp only); (try k_fold))
  w_strict (repeat' k_ownIn)
  rename News _ _ _ _ => N9
  exact ret _ _ _ _ (by k_asm) (kst_newsOf (l' := [(_, tup #[rest, .int (at' + (x.length : Int)) _, .ref nv])] ++ big) N9 (sub_tl (by lcg_sub) (fun q hq => by repeat (first | exact hq | refine List.mem_cons_of_mem _ ?_)))) (by omega)
theorem adv_miss {w : World} {p : Program} {loose : List Str} {mean : ExcName → Option Value} {mg mb : Str → Option Value} {ch N nv pl hs : Addr} {rest : Value} {at' : Int} {ta tr c : Tok} {r : Str} {x : Str} {t : Tok} {big : List (Addr × Obj)}
  (dp un : Nat) (gd : Option (List Code)) (cn : Str) (cs : Scope) (a : Addr) (ccd : Value) (cl : List (Str × Addr)) (outer : List Env) (A₀ : Around) (base h₀ : Heap) (L : Addr) (m : Str → Option Value) (s : Shared)
    (Q E : Value → Shared → Prop) (B : Below A₀ base outer h₀) (F : Fr h₀ L s.heap m) (X : (hd.heap_1 w.params).In h₀)
    (N0' : News h₀ L s.heap big) (h1 : (ch, tup #[.ref N, rest]) ∈ big) (h2 : (N, tup #[.str (Str.ofString "chars") c, .str x t]) ∈ big) (hx : x.length ≤ 4) (hr : r.length ≤ 8) (hp0 : 0 ≤ at') (hp1 : at' ≤ 8) (hsl : (Txt.slice r (some at') (some (at' + (x.length : Int))) == x) = false)
    (T : Top p loose mean mg mb h₀)
    (hk : cs.kind = .function) (hdp : dp < 900)
    (ret : ∀ h' tk', Fr h₀ L h' m → News h₀ L h' big → Q .none { s with heap := h', toks := tk' }) :
    wpAny (model PySem.Challenge.rw_xm0957_01.row.prog w) (ktrTop dp un gd cn cs L a ccd cl outer) (call (.ref 538) [.ref ch, .int at' ta, .ref nv, .str r tr, .ref pl, .ref hs]) Q E s := by
  have hrl : recursionLimit = 1000 := rfl
  have N1' := news_two N0' h1 h2
  clear N0' h1 h2
  refine wpAny_call ?_
  k_dflt (refine' code_def ?k1 ?k2 ?k3 ?k4 ?k5 ?kA ?kF ?kK ?k6 ?k7 ?k8 ?k9 ?kB ?_ ?c2 ?c3 ?c4 ?c5; (case kA => exact rfl); (case kF => exact rfl); (case kK => assumption); (case k1 => k_asm); (case k2 => k_asm); (case k3 => k_asm); (case k4 => k_asm); (case k5 => k_asm); (case k6 => k_is); (case k7 => k_is); (case k8 => k_room); (case k9 => exact BindsTo.of_eq rfl); (case c5 => decide); (case kB => exact locs rfl); (case c2 => exact rfl); (case c3 => exact rfl); (case c4 => exact rfl); k_whole; intro g' L' h' FG' F' N' B' X' T'; (try dsimp only); (try k_fold))
  w_strict (repeat' k_ownIn)
  rename News _ _ _ _ => N9
  exact ret _ _ (by k_asm) (kst_newsOf (l' := [] ++ big) N9 (sub_tl (by lcg_sub) (fun q hq => by repeat (first | exact hq | refine List.mem_cons_of_mem _ ?_))))
end Mine
end
section
open PySem PySem.W PyProof.Rows
set_option pp.deepTerms false
set_option pp.maxSteps 20000
namespace Mine
local macro_rules | `(tactic| k_ownIn) => `(tactic| (first | ((with_reducible refine gen_toks ?_); intro tk9) | (k_unfold; (try dsimp only)) | (k_end; wrow_close) | walk1 | (dsimp only; walk1) | (leave1; walk_say "STEP leave1"; try dsimp only) | fail "no step"))
local macro_rules | `(tactic| walk_at "setAttr ref int") => `(tactic| (k_here; refine set_gen ?_; intro t9; walk_at "setAttr ref"))
local macro_rules | `(tactic| walk_at "newTuple cons ref cons") => `(tactic| (k_here; refine tup_gen ?_; intro t9; k_dflt (refine' kup_newTuple ?F ?N ?_ ?z; (case F => k_asm); (case N => k_asm); (case z => kmk_size)); intro D' h' F' N' l1; (try k_lt l1); (try k_sweep)))
local macro_rules | `(tactic| walk_at "newTuple cons str cons") => `(tactic| (k_here; refine tup_genS ?_; intro u9 t9; k_dflt (refine' kup_newTuple ?F ?N ?_ ?z; (case F => k_asm); (case N => k_asm); (case z => kmk_size)); intro D' h' F' N' l1; (try k_lt l1); (try k_sweep)))
local macro_rules | `(tactic| walk_at "newTuple cons str cons") => `(tactic| (k_here; (with_reducible show wpAny _ _ (newTuple (Value.str _ _ :: Value.str _ _ :: Value.str _ _ :: _)) _ _ _); k_dflt (refine' tup_seen ?F ?N ?_ ?z; (case F => k_asm); (case N => k_asm); (case z => kmk_size)); intro D' h' F' N' T9; (try k_sweep)))
local macro_rules | `(tactic| walk_at "compareOp In str ref") => `(tactic| (k_here; (with_reducible rename IsTup _ _ _ => T9); (refine' in_tuple_strs T9 ?k1 ?_); (case k1 => kde_strs); clear T9))
local macro_rules | `(tactic| walk_at "exec For Name Call cons nil") => `(tactic| (k_here; (rename Fr _ _ _ _ => lF'); (with_unfolding_all refine' For_turns lF' ?_; k_whole)))
local macro_rules | `(tactic| walk_at "pyIter ref") => `(tactic| (k_here; (with_reducible show wpAny _ _ (pyIter (Value.ref _)) (fun it s₂ => TurnsAt _ _ _ _ _ _ _ _ _ it s₂) _ _); (with_reducible rename IsRange _ _ _ _ _ _ _ _ => hR9); refine Halt.mk ?_))
local macro_rules | `(tactic| k_in) => `(tactic| exact Frag.In.keeps (by with_reducible assumption) (Fr.keep (by with_reducible assumption)))
local macro_rules | `(tactic| walk_at "call builtin:isinstance") => `(tactic| (k_here; k_dflt (refine' isi_call ?k1 ?k2 ?k3 ?k4 ?_; (case k1 => k_in); (case k2 => k_types); (case k3 => k_is); (case k4 => intro e; cases e); k_whole)))
local macro_rules | `(tactic| walk_at "compareOp Eq ref str") => `(tactic| (k_here; k_dflt (refine cmp_ofEq ?_; refine SeqAt.RcAt.tuple_str _ _ (News.isTup (by k_asm) (by k_mem)) ?hu _ _ _ _ ?_; (case hu => k_units))))
local macro_rules | `(tactic| walk_at "subscriptTail Name Constant ref int") => `(tactic| (k_here; k_dflt (refine' item_tupleT ?T ?a ?b ?c ?d ?_; (case T => refine (News.isTup (by k_asm) (by k_mem))); (case a => decide); (case b => decide); (case c => exact rfl); (case d => exact rfl))))
local macro_rules | `(tactic| walk_at "compareOp NotIn str ref") => `(tactic| (k_here; k_dflt (refine' notin_tuple_strs (tupK (Frag.In.keeps ?X (Fr.keep ?F)) ?l) ?s ?_; (case X => k_asm); (case F => k_asm); (case l => k_is); (case s => kde_strs))))
local macro_rules | `(tactic| k_ne) => `(tactic| (refine neN ?_; (try dsimp only); first | (with_reducible assumption) | (with_reducible exact Ne.symm (by with_reducible assumption)) | omega))
def MatchJ (w : World) (prog : Program) (x r : Str) (m₀ : Str → Option Value) (hh V R G : Addr) (a1 a2 a3 a4 a5 a6 b1 b2 : Tok) (cst : List (Addr × Obj)) (i : Nat) (m : Str → Option Value) (news : List (Addr × Obj)) : Prop :=
  ∃ (st : Int) (b3 : Tok) (ov : Obj) (kvs : List (Str × Value)) (vs : List Value) (ns : List Int) (tl : List (Addr × Obj)) (gn : Nat), (∀ p ∈ tl, p.2.cls = .type "tuple") ∧ 0 ≤ st ∧ st ≤ 5 * (i : Int) ∧ ov.IsDictOf (strKind prog w) kvs ∧ kvs.length ≤ i ∧ LogIn tl vs ns ∧ ns = hitsOf x.cps.toList r.cps.toList i ∧ vs.length ≤ i ∧ OwnOff tl [hh, V, G] ∧
    news = (hh, hostDict w.params a1 a2 a3 a4 a5 a6 b1 b2 b3 V R G st) :: (V, ov) :: (G, listOf vs.toArray gn) :: (cst ++ tl) ∧ ∀ z, (["begin", "found"] : List Str).contains z = false → m z = m₀ z
local macro_rules | `(tactic| walk_at "call ref") => `(tactic| (k_here; (with_reducible show wpAny _ _ (call (Value.ref 538) _) _ _ _); refine Halt.mk ?_))
local macro_rules | `(tactic| walk_at "setItem ref str") => `(tactic| (k_here; (with_reducible show wpAny _ _ (setItem (Value.ref _) (Value.str _ _) (Value.int _ _)) _ _ _); refine Halt.mk ?_))
local macro_rules | `(tactic| walk_at "UnrEndW") => `(tactic| (goal_has Mine.MatchJ; refine Halt.mk ?_))
theorem kf4 : PySem.Challenge.rw_xm0957_01 = PySem.Challenge.rw_xm0957_01 ∧ hd.heap_1 = hd.heap_1 := by
  k_fill
  exact ⟨rfl, rfl⟩
theorem match_ok {w : World} {p : Program} {loose : List Str} {mean : ExcName → Option Value} {mg mb : Str → Option Value} {x r : Str} {t tr : Tok} (hx1 : 1 ≤ x.length) (hx4 : x.length ≤ 4) (hr : r.length ≤ 8)
  {hs hh V R G N0 N1 N2 N3 N4 nm nd fl : Addr} {ov ofl : Obj} {a1 a2 a3 a4 a5 a6 b1 b2 b3 c1 c2 c3 c4 c5 d1 d2 d3 d4 d5 : Tok} (hov : ov.IsDictOf (strKind PySem.Challenge.rw_xm0957_01.row.prog w) [])
  (o1 : @LT.lt Nat _ fl V) (o2 : @LT.lt Nat _ V R) (o3 : @LT.lt Nat _ R hh) (o4 : @LT.lt Nat _ hh hs) (o5 : @LT.lt Nat _ hs G) (o6 : @LT.lt Nat _ G N1) (o7 : @LT.lt Nat _ N1 nd) (o8 : @LT.lt Nat _ nd nm) (o9 : @LT.lt Nat _ nm N3) (oa : @LT.lt Nat _ N3 N4) (ob : @LT.lt Nat _ N4 N2) (oc : @LT.lt Nat _ N2 N0)
  (cn : Str) (cs : Scope) (a : Addr) (ccd : Value) (cl : List (Str × Addr)) (base h₀ : Heap) (L : Addr) (m : Str → Option Value) (s : Shared)
    (Q E : Value → Shared → Prop) (B : Below callerA base [] h₀) (F : Fr h₀ L s.heap m) (X : (hd.heap_1 w.params).In h₀)
    (N : News h₀ L s.heap [(hh, hostDict w.params a1 a2 a3 a4 a5 a6 b1 b2 b3 V R G 0), (V, ov), (G, listOf #[] 0), (hs, instObj 356 hh), (R, listOf #[] 0), (N0, tup #[.str (Str.ofString "cat") c1, .ref N1, .ref N2]), (N1, tup #[.str (Str.ofString "chars") c2, .str x t]), (N2, tup #[.str (Str.ofString "cat") c3, .ref N3, .ref N4]), (N3, tup #[.str (Str.ofString "cursor") c4, .ref nm]), (N4, tup #[.str (Str.ofString "fail") c5]), (nm, instObj 131 nd), (nd, varDict w.params d1 d2 d3 d4 d5), (fl, ofl)])
    (T : Top p loose mean mg mb h₀)
    (hk : cs.kind = .function)
    (ret : ∀ (st : Int) (b3 : Tok) (vs : List Value) (ns : List Int) (tl : List (Addr × Obj)) (gn : Nat) h' tk', LogIn tl vs ns → ns = endsOf x.cps.toList r.cps.toList r.cps.toList.length → vs.length ≤ 9 → (∀ p ∈ tl, p.2.cls = .type "tuple") → Fr h₀ L h' m →
      News h₀ L h' ([(hh, hostDict w.params a1 a2 a3 a4 a5 a6 b1 b2 b3 V R G st), (G, listOf vs.toArray gn), (hs, instObj 356 hh), (fl, ofl)] ++ tl) → Q .none { s with heap := h', toks := tk' }) :
    wpAny (model PySem.Challenge.rw_xm0957_01.row.prog w) (callerA.deeper (envX cn cs L a ccd cl)) (call (.ref 517) [.ref N0, .str r tr, .bool false, .ref hs]) Q E s := by
  have e1 : @Ne Nat fl hh := by omega
  have e2 : @Ne Nat V hh := by omega
  have e3 : @Ne Nat R hh := by omega
  have e4 : @Ne Nat hs hh := by omega
  have e5 : @Ne Nat G hh := by omega
  have e6 : @Ne Nat N1 hh := by omega
  have e7 : @Ne Nat nd hh := by omega
  have e8 : @Ne Nat nm hh := by omega
  have e9 : @Ne Nat N3 hh := by omega
  have e10 : @Ne Nat N4 hh := by omega
  have e11 : @Ne Nat N2 hh := by omega
  have e12 : @Ne Nat N0 hh := by omega
  have e13 : @Ne Nat fl V := by omega
  have e14 : @Ne Nat R V := by omega
  have e15 : @Ne Nat hs V := by omega
  have e16 : @Ne Nat G V := by omega
  have e17 : @Ne Nat N1 V := by omega
  have e18 : @Ne Nat nd V := by omega
  have e19 : @Ne Nat nm V := by omega
  have e20 : @Ne Nat N3 V := by omega
  have e21 : @Ne Nat N4 V := by omega
  have e22 : @Ne Nat N2 V := by omega
  have e23 : @Ne Nat N0 V := by omega
  have e24 : @Ne Nat fl G := by omega
  have e25 : @Ne Nat R G := by omega
  have e26 : @Ne Nat hs G := by omega
  have e27 : @Ne Nat N1 G := by omega
  have e28 : @Ne Nat nd G := by omega
  have e29 : @Ne Nat nm G := by omega
  have e30 : @Ne Nat N3 G := by omega
  have e31 : @Ne Nat N4 G := by omega
  have e32 : @Ne Nat N2 G := by omega
  have e33 : @Ne Nat N0 G := by omega
  have khhN0 : @LT.lt Nat _ hh N0 := by omega
  have khhN1 : @LT.lt Nat _ hh N1 := by omega
  have khhN2 : @LT.lt Nat _ hh N2 := by omega
  have khhN3 : @LT.lt Nat _ hh N3 := by omega
  have khhN4 : @LT.lt Nat _ hh N4 := by omega
  have kVN0 : @LT.lt Nat _ V N0 := by omega
  have kVN1 : @LT.lt Nat _ V N1 := by omega
  have kVN2 : @LT.lt Nat _ V N2 := by omega
  have kVN3 : @LT.lt Nat _ V N3 := by omega
  have kVN4 : @LT.lt Nat _ V N4 := by omega
  have kGN0 : @LT.lt Nat _ G N0 := by omega
  have kGN1 : @LT.lt Nat _ G N1 := by omega
  have kGN2 : @LT.lt Nat _ G N2 := by omega
  have kGN3 : @LT.lt Nat _ G N3 := by omega
  have kGN4 : @LT.lt Nat _ G N4 := by omega
  refine wpAny_call ?_
  k_dflt ktr_enter
  w_strict (repeat' k_ownIn)
  refine Halt.out ?_
  have hrl := str_len r
  have hxl := str_len x
  rename News _ _ _ _ => N0'
  with_unfolding_all refine for_range (n := r.length + 1) rfl (by assumption) (small_one (by omega) (by omega) (by omega) (by omega)) (by rw [rangeSize_nat]; omega) (by k_asm) N0' ?_
  intro I hI
  have hlt9 := allLt_of hI
  simp only [AllLt, and_true] at hlt9
  have eI1 : @Ne Nat I hh := by omega
  have eI2 : @Ne Nat I V := by omega
  have eI3 : @Ne Nat I G := by omega
  with_unfolding_all refine' items_loop (MatchJ w PySem.Challenge.rw_xm0957_01.row.prog x r _ hh V R G a1 a2 a3 a4 a5 a6 b1 b2 [(hs, instObj 356 hh), (R, listOf #[] 0), (N0, tup #[.str (Str.ofString "cat") c1, .ref N1, .ref N2]), (N1, tup #[.str (Str.ofString "chars") c2, .str x t]), (N2, tup #[.str (Str.ofString "cat") c3, .ref N3, .ref N4]), (N3, tup #[.str (Str.ofString "cursor") c4, .ref nm]), (N4, tup #[.str (Str.ofString "fail") c5]), (nm, instObj 131 nd), (nd, varDict w.params d1 d2 d3 d4 d5), (fl, ofl)]) _ 0 _ _ ?turn ?done ⟨0, b3, ov, [], [], [], [], 0, (fun _ hp => nomatch hp), by omega, by omega, hov, Nat.le_refl _, .nil, rfl, Nat.le_refl _, (fun _ hp => nomatch hp), rfl, fun _ _ => rfl⟩
  case done =>
    rintro m1 news1 h1 tk1 ⟨st, b3, ov, kvs, vs, ns, tl, gn, htu, hs0, hs1, hd1, hd2, hlog, hns, hvl, hoff, rfl, hm⟩ F1 N1'
    replace F1 := fr_norm (["begin", "found"] : List Str) hm F1
    have hns' : ns = endsOf x.cps.toList r.cps.toList r.cps.toList.length := by
      rw [hns, List.length_map, List.length_range, Nat.zero_add, ← hrl]
      exact hits_all (by omega)
    have hvl' : vs.length ≤ 9 := by
      rw [List.length_map, List.length_range] at hvl
      omega
    w_strict (repeat' k_ownIn)
    rename News _ _ _ _ => N9
    exact ret _ _ vs ns tl gn _ _ hlog hns' hvl' htu (by k_asm) (kst_newsOf N9 (sub_tl (by lcg_sub) (fun p hp => by repeat (first | exact hp | refine List.mem_cons_of_mem _ ?_))))
  case turn =>
    rintro j a1' m1 news1 v1 h1 tk1 hxs ⟨st, b3, ov, kvs, vs, ns, tl, gn, htu, hs0, hs1, hd1, hd2, hlog, hns, hvl, hoff, rfl, hm⟩ hv F1
    replace F1 := fr_norm (["begin", "found"] : List Str) hm F1
    obtain ⟨hj, rfl⟩ := range_get hxs
    obtain ⟨t9, rfl⟩ := hv
    refine AllObj.cons (fun o9 ho9 => ?_)
    refine AllObj.nil (fun N1' => ?_)
    simp only [List.cons_append, List.nil_append] at N1'
    dsimp only
    have HX : ∃ fx : List (Addr × Obj), fx = (V, ov) :: (G, listOf vs.toArray gn) :: (R, listOf #[] 0) :: (N0, tup #[.str (Str.ofString "cat") c1, .ref N1, .ref N2]) :: (N1, tup #[.str (Str.ofString "chars") c2, .str x t]) :: (N2, tup #[.str (Str.ofString "cat") c3, .ref N3, .ref N4]) :: (N3, tup #[.str (Str.ofString "cursor") c4, .ref nm]) :: (N4, tup #[.str (Str.ofString "fail") c5]) :: (nm, instObj 131 nd) :: (nd, varDict w.params d1 d2 d3 d4 d5) :: (fl, ofl) :: tl ∧ (N0, tup #[.str (Str.ofString "cat") c1, .ref N1, .ref N2]) ∈ fx ∧ (N1, tup #[.str (Str.ofString "chars") c2, .str x t]) ∈ fx ∧ (N2, tup #[.str (Str.ofString "cat") c3, .ref N3, .ref N4]) ∈ fx ∧ OwnOff fx [hh] := by
      refine ⟨_, rfl, by k_mem, by k_mem, by k_mem, fun p hp b hb => ?_⟩
      rw [List.mem_singleton.mp hb]
      simp only [List.mem_cons] at hp
      rcases hp with rfl | rfl | rfl | rfl | rfl | rfl | rfl | rfl | rfl | rfl | rfl | hp
      all_goals (first | (dsimp only; with_reducible assumption) | exact hoff p hp hh (.head _))
    have N2' : ∀ fx : List (Addr × Obj), fx = (V, ov) :: (G, listOf vs.toArray gn) :: (R, listOf #[] 0) :: (N0, tup #[.str (Str.ofString "cat") c1, .ref N1, .ref N2]) :: (N1, tup #[.str (Str.ofString "chars") c2, .str x t]) :: (N2, tup #[.str (Str.ofString "cat") c3, .ref N3, .ref N4]) :: (N3, tup #[.str (Str.ofString "cursor") c4, .ref nm]) :: (N4, tup #[.str (Str.ofString "fail") c5]) :: (nm, instObj 131 nd) :: (nd, varDict w.params d1 d2 d3 d4 d5) :: (fl, ofl) :: tl → News _ _ _ ((I, o9) :: (hh, hostDict w.params a1 a2 a3 a4 a5 a6 b1 b2 b3 V R G st) :: (hs, instObj 356 hh) :: fx) := fun fx e => by
      subst e
      exact kst_newsOf (l' := [(I, o9), (hh, hostDict w.params a1 a2 a3 a4 a5 a6 b1 b2 b3 V R G st), (hs, instObj 356 hh), (V, ov), (G, listOf vs.toArray gn), (R, listOf #[] 0), (N0, tup #[.str (Str.ofString "cat") c1, .ref N1, .ref N2]), (N1, tup #[.str (Str.ofString "chars") c2, .str x t]), (N2, tup #[.str (Str.ofString "cat") c3, .ref N3, .ref N4]), (N3, tup #[.str (Str.ofString "cursor") c4, .ref nm]), (N4, tup #[.str (Str.ofString "fail") c5]), (nm, instObj 131 nd), (nd, varDict w.params d1 d2 d3 d4 d5), (fl, ofl)] ++ tl) N1' (sub_tl (by lcg_sub) (fun p hp => by repeat (first | exact hp | refine List.mem_cons_of_mem _ ?_)))
    obtain ⟨fx, hfx, m0, m1, m2, hox⟩ := HX
    replace N2' := N2' fx hfx
    clear N1'
    w_strict (repeat' k_ownIn)
    refine Halt.out ?_
    rename News _ _ _ _ => N5
    with_unfolding_all refine' adv_cat  _ _ _ _ _ _ _ _ _ _ _ _ _ _ _ _ _ ?B ?F ?X N5 ?h1 ?h2 ?T ?hk ?hdp ?ret
    case B => k_asm
    case F => k_asm
    case X => k_asm
    case h1 => k_mem
    case h2 => (repeat (first | exact m0 | exact m1 | exact m2 | refine List.mem_cons_of_mem _ ?_))
    case T => k_asm
    case hk => rfl
    case hdp => (simp only [depth_deeper, depth_caller]; decide)
    case ret =>
      clear N5
      intro D1 D2 D3 u1 h2 tk2 F2 N2 q1 q2 q3
      have ghhD3 : @Ne Nat D3 hh := Nat.ne_of_gt (Nat.lt_trans khhN0 q1)
      have ghhD2 : @Ne Nat D2 hh := Nat.ne_of_gt (Nat.lt_trans (Nat.lt_trans khhN0 q1) q2)
      have ghhD1 : @Ne Nat D1 hh := Nat.ne_of_gt (Nat.lt_trans (Nat.lt_trans (Nat.lt_trans khhN0 q1) q2) q3)
      have gVD3 : @Ne Nat D3 V := Nat.ne_of_gt (Nat.lt_trans kVN0 q1)
      have gVD2 : @Ne Nat D2 V := Nat.ne_of_gt (Nat.lt_trans (Nat.lt_trans kVN0 q1) q2)
      have gVD1 : @Ne Nat D1 V := Nat.ne_of_gt (Nat.lt_trans (Nat.lt_trans (Nat.lt_trans kVN0 q1) q2) q3)
      have gGD3 : @Ne Nat D3 G := Nat.ne_of_gt (Nat.lt_trans kGN0 q1)
      have gGD2 : @Ne Nat D2 G := Nat.ne_of_gt (Nat.lt_trans (Nat.lt_trans kGN0 q1) q2)
      have gGD1 : @Ne Nat D1 G := Nat.ne_of_gt (Nat.lt_trans (Nat.lt_trans (Nat.lt_trans kGN0 q1) q2) q3)
      w_strict (repeat' k_ownIn)
      cases hsl : (Txt.slice r (some (0 + (j : Int))) (some (0 + (j : Int) + (x.length : Int))) == x)
      case true =>
        refine Halt.out ?_
        rename News _ _ _ _ => N5
        with_unfolding_all refine' adv_hit  _ _ _ _ _ _ _ _ _ _ _ _ _ _ _ _ _ ?B ?F ?X N5 ?h1 ?h2 hx4 hr ?hp0 ?hp1 hsl ?T ?hk ?hdp ?ret
        case B => k_asm
        case F => k_asm
        case X => k_asm
        case h1 => k_mem
        case h2 => (repeat (first | exact m0 | exact m1 | exact m2 | refine List.mem_cons_of_mem _ ?_))
        case T => k_asm
        case hk => rfl
        case hdp => (simp only [depth_deeper, depth_caller]; decide)
        case hp0 => omega
        case hp1 => omega
        case ret =>
          clear N5
          intro D4 u2 h3 tk3 F3 N3 q4
          have ghhD4 : @Ne Nat D4 hh := Nat.ne_of_gt (Nat.lt_trans khhN1 q4)
          have gVD4 : @Ne Nat D4 V := Nat.ne_of_gt (Nat.lt_trans kVN1 q4)
          have gGD4 : @Ne Nat D4 G := Nat.ne_of_gt (Nat.lt_trans kGN1 q4)
          w_strict (repeat' k_ownIn)
          refine Halt.out ?_
          rename News _ _ _ _ => N5
          with_unfolding_all refine' adv_cat  _ _ _ _ _ _ _ _ _ _ _ _ _ _ _ _ _ ?B ?F ?X N5 ?h1 ?h2 ?T ?hk ?hdp ?ret
          case B => k_asm
          case F => k_asm
          case X => k_asm
          case h1 => k_mem
          case h2 => (repeat (first | exact m0 | exact m1 | exact m2 | refine List.mem_cons_of_mem _ ?_))
          case T => k_asm
          case hk => rfl
          case hdp => (simp only [depth_deeper, depth_caller]; decide)
          case ret =>
            clear N5
            intro D5 D6 D7 u3 h4 tk4 F4 N4 q5 q6 q7
            have ghhD7 : @Ne Nat D7 hh := Nat.ne_of_gt (Nat.lt_trans khhN2 q5)
            have ghhD6 : @Ne Nat D6 hh := Nat.ne_of_gt (Nat.lt_trans (Nat.lt_trans khhN2 q5) q6)
            have ghhD5 : @Ne Nat D5 hh := Nat.ne_of_gt (Nat.lt_trans (Nat.lt_trans (Nat.lt_trans khhN2 q5) q6) q7)
            have gVD7 : @Ne Nat D7 V := Nat.ne_of_gt (Nat.lt_trans kVN2 q5)
            have gVD6 : @Ne Nat D6 V := Nat.ne_of_gt (Nat.lt_trans (Nat.lt_trans kVN2 q5) q6)
            have gVD5 : @Ne Nat D5 V := Nat.ne_of_gt (Nat.lt_trans (Nat.lt_trans (Nat.lt_trans kVN2 q5) q6) q7)
            have gGD7 : @Ne Nat D7 G := Nat.ne_of_gt (Nat.lt_trans kGN2 q5)
            have gGD6 : @Ne Nat D6 G := Nat.ne_of_gt (Nat.lt_trans (Nat.lt_trans kGN2 q5) q6)
            have gGD5 : @Ne Nat D5 G := Nat.ne_of_gt (Nat.lt_trans (Nat.lt_trans (Nat.lt_trans kGN2 q5) q6) q7)
            w_strict (repeat' k_ownIn)
            refine Halt.out ?_
            subst hfx
            simp only [AllLt, and_true] at *
            refine wpAny_call ?_
            k_dflt k_enter
            w_strict (repeat' k_ownIn)
            refine Halt.out ?_
            rename News _ _ _ _ => N5
            refine kda_set (knd := PySem.strKind _ _) (by k_asm) N5 (by k_updF) hd1 (strKind_is _ _ _ _) (by rw [PySem.sizeLine_eq]; omega) (fun h7 ov7 F7 N7 hd7 => ?_)
            try dsimp only at N7
            w_strict (repeat' k_ownIn)
            refine Halt.out ?_
            rename News _ _ _ _ => N5
            with_unfolding_all refine' adv_fail  _ _ _ _ _ _ _ _ _ _ _ _ _ _ _ _ _ ?B ?F ?X N5 ?h1 ?h2 ?T ?hk ?hdp ?ret
            case B => k_asm
            case F => k_asm
            case X => k_asm
            case h1 => k_mem
            case h2 => k_mem
            case T => k_asm
            case hk => rfl
            case hdp => (simp only [depth_deeper, depth_caller]; decide)
            case ret =>
              clear N5
              intro h8 tk8 F8 N8
              w_strict (repeat' k_ownIn)
              refine Halt.out ?_
              rename News _ _ _ _ => N6
              have N8 := kst_newsOf (l' := ((I, o9) :: (hh, hostDict w.params a1 a2 a3 a4 a5 a6 b1 b2 _ V R G _) :: (V, ov7) :: (G, _) :: (hs, instObj 356 hh) :: (R, listOf #[] 0) :: (N0, tup #[.str (Str.ofString "cat") c1, .ref N1, .ref N2]) :: (N1, tup #[.str (Str.ofString "chars") c2, .str x t]) :: (N2, tup #[.str (Str.ofString "cat") c3, .ref N3, .ref N4]) :: (N3, tup #[.str (Str.ofString "cursor") c4, .ref nm]) :: (N4, tup #[.str (Str.ofString "fail") c5]) :: (nm, instObj 131 nd) :: (nd, varDict w.params d1 d2 d3 d4 d5) :: (fl, ofl) :: (_, tup #[.str (Str.ofString "J") _, .int (0 + (j : Int) + (x.length : Int)) _]) :: []) ++ tl) N6 (sub_tl (by lcg_sub) (fun p hp => by repeat (first | exact hp | refine List.mem_cons_of_mem _ ?_)))
              simp only [List.push_toArray] at N8
              refine ⟨_, _, _, _, rfl, by k_asm, N8, ?_, ⟨_, _, ov7, _, vs ++ [Value.ref _], ns ++ [0 + (j : Int) + (x.length : Int)], (_, tup #[.str (Str.ofString "J") _, .int (0 + (j : Int) + (x.length : Int)) _]) :: tl, _, ?_, ?_, ?_, hd7, ?_, .snoc (hlog.mono fun p hp => .tail _ hp) (.head _), ?_, ?_, ?_, rfl, ?_⟩⟩
              · refine off_all N8 ho9 (fun p hp => ?_) htu
                simp only [List.mem_cons, List.mem_nil_iff, or_false] at hp
                rcases hp with rfl | rfl | rfl | rfl | rfl | rfl | rfl | rfl | rfl | rfl | rfl | rfl | rfl | rfl <;> (refine neN ?_; dsimp only; omega)
              · intro p hp
                rcases List.mem_cons.mp hp with rfl | hp
                · rfl
                · exact htu p hp
              · omega
              · omega
              · exact Nat.le_trans (stored_length_le _ _ _) (by omega)
              · rw [hns, hitsOf_succ, if_pos (by rw [Nat.zero_add]; exact slice_hit (by omega) hsl), hxl]
                congr 2
              · rw [List.length_append, List.length_singleton]; omega
              · intro p hp b hb
                rcases List.mem_cons.mp hp with rfl | hp
                · simp only [List.mem_cons, List.mem_nil_iff, or_false] at hb
                  rcases hb with rfl | rfl | rfl <;> (refine neN ?_; dsimp only; omega)
                · exact hoff p hp b hb
              · intro z hz
                have z1 : z ≠ Str.ofString "found" := by rintro rfl; revert hz; decide
                have z2 : z ≠ Str.ofString "begin" := by rintro rfl; revert hz; decide
                simp only [if_neg z1, if_neg z2, hz, Bool.false_eq_true, if_false]
      case false =>
        refine Halt.out ?_
        rename News _ _ _ _ => N5
        with_unfolding_all refine' adv_miss  _ _ _ _ _ _ _ _ _ _ _ _ _ _ _ _ _ ?B ?F ?X N5 ?h1 ?h2 hx4 hr ?hp0 ?hp1 hsl ?T ?hk ?hdp ?ret
        case B => k_asm
        case F => k_asm
        case X => k_asm
        case h1 => k_mem
        case h2 => (repeat (first | exact m0 | exact m1 | exact m2 | refine List.mem_cons_of_mem _ ?_))
        case T => k_asm
        case hk => rfl
        case hdp => (simp only [depth_deeper, depth_caller]; decide)
        case hp0 => omega
        case hp1 => omega
        case ret =>
          clear N5
          intro h3 tk3 F3 N3
          w_strict (repeat' k_ownIn)
          refine Halt.out ?_
          subst hfx
          rename News _ _ _ _ => N6
          have N8 := kst_newsOf (l' := ((I, o9) :: (hh, hostDict w.params a1 a2 a3 a4 a5 a6 b1 b2 _ V R G _) :: (V, ov) :: (G, listOf vs.toArray gn) :: (hs, instObj 356 hh) :: (R, listOf #[] 0) :: (N0, tup #[.str (Str.ofString "cat") c1, .ref N1, .ref N2]) :: (N1, tup #[.str (Str.ofString "chars") c2, .str x t]) :: (N2, tup #[.str (Str.ofString "cat") c3, .ref N3, .ref N4]) :: (N3, tup #[.str (Str.ofString "cursor") c4, .ref nm]) :: (N4, tup #[.str (Str.ofString "fail") c5]) :: (nm, instObj 131 nd) :: (nd, varDict w.params d1 d2 d3 d4 d5) :: (fl, ofl) :: []) ++ tl) N6 (sub_tl (by lcg_sub) (fun p hp => by repeat (first | exact hp | refine List.mem_cons_of_mem _ ?_)))
          refine ⟨_, _, _, _, rfl, by k_asm, N8, ?_, ⟨_, _, ov, kvs, vs, ns, tl, gn, htu, ?_, ?_, hd1, ?_, hlog, ?_, ?_, hoff, rfl, ?_⟩⟩
          · refine off_all N8 ho9 (fun p hp => ?_) htu
            simp only [List.mem_cons, List.mem_nil_iff, or_false] at hp
            rcases hp with rfl | rfl | rfl | rfl | rfl | rfl | rfl | rfl | rfl | rfl | rfl | rfl | rfl <;> (refine neN ?_; dsimp only; omega)
          · omega
          · omega
          · omega
          · rw [hns, hitsOf_succ, if_neg (by rw [Nat.zero_add]; exact slice_miss (by omega) hsl), List.append_nil]
          · omega
          · intro z hz
            have z1 : z ≠ Str.ofString "found" := by rintro rfl; revert hz; decide
            have z2 : z ≠ Str.ofString "begin" := by rintro rfl; revert hz; decide
            simp only [if_neg z1, if_neg z2, hz, Bool.false_eq_true, if_false]
end Mine
end
section
open PySem PySem.W PyProof.Rows
namespace Mine
def WhPost2 (h₀ : Heap) (L : Addr) (s : Shared) (led : List (Addr × Obj)) (y y2 : Str) (m₀ : Str → Option Value) (P : Nat → Nat → Prop) (Q : Flow → Shared → Prop) (k : Nat) (f : Flow) (s₂ : Shared) : Prop :=
  match f with
  | .ret v => Q (.ret v) s₂
  | .brk => Q .next s₂
  | _ => ∃ (k' n' : Nat) (t' u' : Tok) (h' : Heap) (tk : Nat) (m' : Str → Option Value) (news' : List (Addr × Obj)), s₂ = { s with heap := h', toks := tk } ∧ Fr h₀ L h' m' ∧ News h₀ L h' news' ∧ (∀ p ∈ led, p ∈ news') ∧ m' y = some (.int (k' : Int) t') ∧ m' y2 = some (.int (n' : Int) u') ∧ (∀ z, z ≠ y → z ≠ y2 → m' z = m₀ z) ∧ P k' n' ∧ k' < k
section
variable {prog : Program} {w : World} {A : Around} {E : Value → Shared → Prop} {Q : Flow → Shared → Prop} {s : Shared} {env : Env} {h₀ : Heap} {L : Addr}
theorem while_two {test : Expr} {body : List Stmt} {pos : Pos} {m₀ : Str → Option Value} {led : List (Addr × Obj)} (y y2 : Str) (hyy : y2 ≠ y) (P : Nat → Nat → Prop) {b n : Nat} {t0 u0 : Tok} (F : Fr h₀ L s.heap m₀) (N : News h₀ L s.heap led) (hy : m₀ y = some (.int (b : Int) t0)) (hy2 : m₀ y2 = some (.int (n : Int) u0)) (hp : P b n)
    (turn : ∀ (k n : Nat) (t u1 : Tok) (u : Str → Option Value) h tk, P k n → Fr h₀ L h (fun z => if z = y then some (.int (k : Int) t) else if z = y2 then some (.int (n : Int) u1) else if ([y, y2] : List Str).contains z then u z else m₀ z) → News h₀ L h led →
      wpAny (model prog w) A (isTrue test env (eval test env)) (fun b s₂ => if b = true then wpAny (model prog w) A (execs body env) (WhPost2 h₀ L s led y y2 m₀ P Q k) E s₂ else Q .next s₂) E { s with heap := h, toks := tk })
    (hE : PassesOwn (model prog w) A env E := by passes_own) :
    wpAny (model prog w) A (exec (.While test body [] pos) env) Q E s := by
  refine ksw_while (σ := (Nat × Tok) × (Nat × Tok)) (fun _ => led) (fun c => [(y, .int (c.1.1 : Int) c.1.2), (y2, .int (c.2.1 : Int) c.2.2)]) (fun _ => True) [y, y2] (fun c => P c.1.1 c.2.1) (fun c => c.1.1) ((b, t0), (n, u0)) F N trivial ?_ hp ?_ hE
  · intro p hp
    rcases List.mem_cons.mp hp with rfl | hp
    · exact hy
    · rw [List.mem_singleton.mp hp]
      exact hy2
  · rintro ⟨⟨k, t⟩, ⟨n, u1⟩⟩ u h tk _ hk F1 N1
    refine wpAny_mono (turn k n t u1 u h tk hk F1 N1) (fun b s₂ x => ?_) fun _ _ e => e
    cases b with
    | false => exact x
    | true =>
      refine wpAny_mono x (fun f s₃ z => ?_) fun _ _ e => e
      have fin : (∃ (k' n' : Nat) (t' u' : Tok) (h' : Heap) (tk : Nat) (m' : Str → Option Value) (news' : List (Addr × Obj)), s₃ = { s with heap := h', toks := tk } ∧ Fr h₀ L h' m' ∧ News h₀ L h' news' ∧ (∀ p ∈ led, p ∈ news') ∧ m' y = some (.int (k' : Int) t') ∧ m' y2 = some (.int (n' : Int) u') ∧ (∀ z, z ≠ y → z ≠ y2 → m' z = m₀ z) ∧ P k' n' ∧ k' < k) →
          KswEnd h₀ L s (fun _ => led) (fun c : (Nat × Tok) × (Nat × Tok) => [(y, .int (c.1.1 : Int) c.1.2), (y2, .int (c.2.1 : Int) c.2.2)]) (fun _ => True) [y, y2] m₀ (fun c => P c.1.1 c.2.1) (fun c => c.1.1) ((k, t), (n, u1)) s₃ := by
        rintro ⟨k', n', t', u', h', tk', m', news', rfl, F', N', hn, hy', hy2', hr, hp', hlt⟩
        refine ksw_end ((k', t'), (n', u')) F' N' hn trivial (fun p hp => ?_) (fun z hz _ => hr z (hz _ (.head _)) (hz _ (.tail _ (.head _)))) hp' hlt
        rcases List.mem_cons.mp hp with rfl | hp
        · exact hy'
        · rw [List.mem_singleton.mp hp]
          exact hy2'
      cases f with
      | ret v => exact z
      | brk => exact z
      | next => exact fin z
      | cont => exact fin z
end
theorem fr_norm2 {h₀ h : Heap} {L : Addr} {m m₀ : Str → Option Value} {y y2 : Str} {v v2 : Value} (st : List Str) (e1 : m y = some v) (e2 : m y2 = some v2) (e : ∀ z, st.contains z = false → m z = m₀ z) (F : Fr h₀ L h m) : Fr h₀ L h (fun z => if z = y then some v else if z = y2 then some v2 else if st.contains z then m z else m₀ z) := by
  have : (fun z => if z = y then some v else if z = y2 then some v2 else if st.contains z then m z else m₀ z) = m := by
    funext z
    by_cases h1 : z = y
    · rw [if_pos h1, h1, e1]
    · rw [if_neg h1]
      by_cases h2 : z = y2
      · rw [if_pos h2, h2, e2]
      · rw [if_neg h2]
        cases hy : st.contains z with
        | true => simp
        | false => simp [e z hy]
  rw [this]; exact F
theorem off_two {m₀ u : Str → Option Value} {v v2 w w2 : Option Value} {y y2 : Str} : ∀ z, z ≠ y → z ≠ y2 → (fun z => if z = y then v else if z = y2 then v2 else if z = y then w else if z = y2 then w2 else if ([y, y2] : List Str).contains z then u z else m₀ z) z = m₀ z := by
  intro z h1 h2
  have : ([y, y2] : List Str).contains z = false := by simp [h1, h2]
  simp [h1, h2]
theorem reord {h₀ h : Heap} {L : Addr} {e0 e1 e2 e3 e4 e5 e6 e7 e8 e9 e10 : Addr × Obj} (N : News h₀ L h [e0, e1, e2, e3, e4, e5, e6, e7, e8, e9, e10]) : News h₀ L h (e9 :: e1 :: [e2, e3, e4, e5, e6, e7, e8]) :=
  kst_newsOf N (by intro p hp; simp only [List.mem_cons, List.mem_nil_iff, or_false] at hp ⊢; rcases hp with h | h | h | h | h | h | h | h | h <;> simp [h])
theorem perm_item {h₀ h : Heap} {L : Addr} {k ie ii at' fl x d l D1 D c4 c3 : Addr × Obj} (N : News h₀ L h [k, ie, ii, at', fl, x, d, l, D1, D, c4, c3]) : News h₀ L h [x, d, l, D1, D, k, ie, ii, at', fl, c4, c3, c3, c3] :=
  kst_newsOf N (by intro p hp; simp only [List.mem_cons, List.mem_nil_iff, or_false] at hp ⊢; rcases hp with h | h | h | h | h | h | h | h | h | h | h | h | h | h <;> simp [h])
abbrev slist {s : Str} {n : Nat} (_ : 1 ≤ s.length ∧ s.length ≤ n) : List Nat := s.cps.toList
def RowJ (wl rl : List Nat) (m₀ : Str → Option Value) (cAt fl : Addr) (cst : List (Addr × Obj)) (i : Nat) (m : Str → Option Value) (news : List (Addr × Obj)) : Prop :=
  ∃ (k many : Nat) (t1 t2 : Tok) (oc : Obj) (old : Option Value) (fs : List Value) (gn : Nat), Best wl (rl.take i) k ∧ k + many ≤ i ∧ IntsAre fs (endsOf wl rl i) ∧ fs.length ≤ i ∧ oc.data = Data.cell old ∧
    news = (cAt, oc) :: (fl, listOf fs.toArray gn) :: cst ∧ m (Str.ofString "have") = some (.int (k : Int) t1) ∧ m (Str.ofString "many") = some (.int (many : Int) t2) ∧ ∀ z, (["sign", "ends", "have", "many"] : List Str).contains z = false → m z = m₀ z
section
variable {prog : Program} {w : World} {A : Around} {E : Value → Shared → Prop} {Q : Flow → Shared → Prop} {s : Shared} {env : Env} {h₀ : Heap} {L : Addr}
/-- the same, its end told once -/
theorem while_once {test : Expr} {body : List Stmt} {pos : Pos} {m₀ : Str → Option Value} {led : List (Addr × Obj)} (y y2 : Str) (hyy : y2 ≠ y) (P X : Nat → Nat → Prop) {b n : Nat} {t0 u0 : Tok} (F : Fr h₀ L s.heap m₀) (N : News h₀ L s.heap led) (hy : m₀ y = some (.int (b : Int) t0)) (hy2 : m₀ y2 = some (.int (n : Int) u0)) (hp : P b n)
    (turn : ∀ (k n : Nat) (t u1 : Tok) (u : Str → Option Value) h tk, P k n → Fr h₀ L h (fun z => if z = y then some (.int (k : Int) t) else if z = y2 then some (.int (n : Int) u1) else if ([y, y2] : List Str).contains z then u z else m₀ z) → News h₀ L h led →
      wpAny (model prog w) A (isTrue test env (eval test env)) (fun b s₂ => if b = true then wpAny (model prog w) A (execs body env) (WhPost2 h₀ L s led y y2 m₀ P Q k) E s₂ else ∃ h' tk', s₂ = { s with heap := h', toks := tk' } ∧ Fr h₀ L h' (fun z => if z = y then some (.int (k : Int) t) else if z = y2 then some (.int (n : Int) u1) else if ([y, y2] : List Str).contains z then u z else m₀ z) ∧ News h₀ L h' led ∧ X k n) E { s with heap := h, toks := tk })
    (done : ∀ (k n : Nat) (t u1 : Tok) (u : Str → Option Value) h tk, P k n → X k n → Fr h₀ L h (fun z => if z = y then some (.int (k : Int) t) else if z = y2 then some (.int (n : Int) u1) else if ([y, y2] : List Str).contains z then u z else m₀ z) → News h₀ L h led → Q .next { s with heap := h, toks := tk })
    (hE : PassesOwn (model prog w) A env E := by passes_own) :
    wpAny (model prog w) A (exec (.While test body [] pos) env) Q E s := by
  refine while_two y y2 hyy P F N hy hy2 hp (fun k n t u1 u h tk hk F1 N1 => wpAny_mono (turn k n t u1 u h tk hk F1 N1) (fun b s₂ x => ?_) fun _ _ e => e) hE
  cases b with
  | true => exact x
  | false =>
    obtain ⟨h', tk', rfl, F2, N2, hx⟩ := x
    exact done k n t u1 u h' tk' hk hx F2 N2
end
theorem getD_of {R : Str} {j ch : Nat} (h : R.cps.toList[j]? = some ch) : R.cps.getD j 0 = ch := by
  have h1 : R.cps[j]? = some ch := by simpa using h
  rw [Array.getD_eq_getD_getElem?, h1]; rfl
section
variable {M : Model} {A : Around} {E : Value → Shared → Prop} {s : Shared} {h₀ : Heap} {L a : Addr} {m : Str → Option Value} {cn : Str} {cs : Scope} {ccd : Value} {cl : List (Str × Addr)}
  {x : Str} {Q : Unit → Shared → Prop} {news : List (Addr × Obj)} {g : Obj → List (Addr × Obj)} {c : Addr} {o : Obj} {v₀ : Option Value} {tx : Str} {tt : Tok}
/-- a text stored in a cell: what follows knows its length alone -/
theorem store_text (n : Nat) (hP : 1 ≤ tx.length ∧ tx.length ≤ n) (F : Fr h₀ L s.heap m) (N : News h₀ L s.heap news) (hc : cl.lookup x = some c) (U : UpdF c o news g) (hd : o.data = .cell v₀)
    (h : ∀ tx' : Str, (1 ≤ tx'.length ∧ tx'.length ≤ n) → ∀ h' o', Fr h₀ L h' m → News h₀ L h' (g o') → o'.data = .cell (some (.str tx' tt)) → Q () { s with heap := h' })
    (hk : cs.kind = .function := by rfl) (hx : (envX cn cs L a ccd cl).kindOf x = some .cell := by rfl) : wpAny M A (storeName (envX cn cs L a ccd cl) x (.str tx tt)) Q E s :=
  storeX_C F N hc U hd (h tx hP) hk hx
end
theorem str_len_of {s : Str} {n : Nat} (h : 1 ≤ s.length ∧ s.length ≤ n) : (slist h).length = s.length := str_len s
end Mine
end
section
open PySem PySem.W PyProof.Rows PySem.Builtin PySem.Builtin.Str
namespace Mine
theorem slice_to_at {r : PySem.Str} {n : Nat} {i : Int} (e : i = (n : Int)) (h : n ≤ r.length) : (Txt.slice r none (some i)).cps.toList = r.cps.toList.take n := by
  subst e
  have hl := str_len r
  show (StrLaws.sliceText r none (some (n : Int))).cps.toList = _
  rw [StrLaws.sliceText_to ⟨by omega, by omega⟩]
  show ((r.cps.toList.drop 0).take ((n : Int) - 0).toNat) = _
  rw [List.drop_zero, Int.sub_zero, Int.toNat_natCast]
theorem ends_iff {x y : PySem.Str} : Txt.endswith x y = true ↔ y.cps.toList <:+ x.cps.toList := by
  have hx := str_len x
  have hy := str_len y
  unfold Txt.endswith
  rw [StrLaws.subAt_eq]
  simp only [Bool.and_eq_true, decide_eq_true_eq, beq_iff_eq]
  constructor
  · rintro ⟨h1, h2⟩
    rw [← h2, List.take_of_length_le (by rw [List.length_drop]; omega)]
    exact List.drop_suffix _ _
  · rintro ⟨p, hp⟩
    have hlen := congrArg List.length hp
    rw [List.length_append] at hlen
    refine ⟨by omega, ?_⟩
    have e : x.length - y.length = p.length := by omega
    rw [e, ← hp, List.drop_left, ← hy, List.take_length]
theorem take_next {l : List Nat} {j c : Nat} (h : l[j]? = some c) : l.take (j + 1) = l.take j ++ [c] := by
  rw [List.take_add_one, h]; rfl
theorem sgn_ne {x : PySem.Str} {k c : Nat} (h : (Txt.item x (k : Int) != ⟨#[c]⟩) = true) : x.cps.toList[k]? ≠ some c := by
  intro hc
  rw [item_at hc] at h
  simp at h
theorem sgn_eq {x : PySem.Str} {k c : Nat} (hk : k < x.cps.toList.length) (h : (Txt.item x (k : Int) == ⟨#[c]⟩) = true) : x.cps.toList[k]? = some c := by
  obtain ⟨d, hd⟩ := get_some hk
  rw [item_at hd, one_beq] at h
  rw [hd, beq_iff_eq.mp h]
theorem sgn_eq' {x : PySem.Str} {k c : Nat} (hk : k < x.cps.toList.length) (h : (Txt.item x (k : Int) != ⟨#[c]⟩) = false) : x.cps.toList[k]? = some c := sgn_eq hk (by simpa [bne] using h)
theorem sgn_ne' {x : PySem.Str} {k c : Nat} (h : (Txt.item x (k : Int) == ⟨#[c]⟩) = false) : x.cps.toList[k]? ≠ some c := sgn_ne (by simpa [bne] using h)
theorem next_hit {w r : List Nat} {j ch k : Nat} (hP : Cand w (r.take j) ch k) (hr : r[j]? = some ch) (hc : w[k]? = some ch) : Best w (r.take (j + 1)) (k + 1) := by
  rw [take_next hr]; exact cand_hit hP hc
theorem next_miss {w r : List Nat} {j ch k : Nat} (hP : Cand w (r.take j) ch k) (hr : r[j]? = some ch) (hX : k = 0 ∨ (k < w.length ∧ w[k]? = some ch)) (hc : w[k]? ≠ some ch) : Best w (r.take (j + 1)) 0 := by
  rcases hX with rfl | h
  · rw [take_next hr]; exact cand_miss hP hc
  · exact absurd h.2 hc
theorem suf_of {x y : PySem.Str} {n i : Nat} {a b : Int} (e1 : a = (n : Int)) (h1 : n ≤ x.length) (e2 : b = (i : Int)) (h2 : i ≤ y.length) : Txt.endswith (Txt.slice x none (some a)) (Txt.slice y none (some b)) = true ↔ y.cps.toList.take i <:+ x.cps.toList.take n := by
  rw [ends_iff, slice_to_at e1 h1, slice_to_at e2 h2]
theorem suf_yes {x y : PySem.Str} {n i : Nat} {a b : Int} (h : Txt.endswith (Txt.slice x none (some a)) (Txt.slice y none (some b)) = true) (e1 : a = (n : Int)) (h1 : n ≤ x.length) (e2 : b = (i : Int)) (h2 : i ≤ y.length) : y.cps.toList.take i <:+ x.cps.toList.take n := (suf_of e1 h1 e2 h2).mp h
theorem suf_no {x y : PySem.Str} {n i : Nat} {a b : Int} (h : Txt.endswith (Txt.slice x none (some a)) (Txt.slice y none (some b)) = false) (e1 : a = (n : Int)) (h1 : n ≤ x.length) (e2 : b = (i : Int)) (h2 : i ≤ y.length) : ¬ y.cps.toList.take i <:+ x.cps.toList.take n := by
  rw [← suf_of e1 h1 e2 h2, h]; exact Bool.false_ne_true
theorem row_hit {w r : List Nat} {fs : List Value} {j k n : Nat} {v : Int} {t : Tok} (h : IntsAre fs (endsOf w r (0 + j))) (B : Best w (r.take (j + 1)) k) (hw : w.length = n) (e : (k : Int) = (n : Int)) (hv : v = (j : Int) + 1) : IntsAre (fs ++ [.int v t]) (endsOf w r (0 + j + 1)) := by
  have hk : k = w.length := by omega
  have hs := (best_full B).mp hk
  subst hv
  rw [Nat.zero_add] at h ⊢
  rw [endsOf_succ, if_pos hs]
  exact h.append (.cons _ _ .nil)
theorem row_miss {w r : List Nat} {fs : List Value} {j k n : Nat} (h : IntsAre fs (endsOf w r (0 + j))) (B : Best w (r.take (j + 1)) k) (hw : w.length = n) (e : ¬ (k : Int) = (n : Int)) : IntsAre fs (endsOf w r (0 + j + 1)) := by
  have hk : ¬ k = w.length := by omega
  rw [Nat.zero_add] at h ⊢
  rw [endsOf_succ, if_neg (fun q => hk ((best_full B).mpr q)), List.append_nil]
  exact h
theorem ints_snoc {ys : List Value} {ns : List Int} {i : Nat} {n v : Int} {u : Tok} (h : IntsAre ys (ns.take i)) (e : ns[i]? = some n) (hv : v = n) : IntsAre (ys ++ [.int v u]) (ns.take (i + 1)) := by
  subst hv
  rw [List.take_add_one, e]
  exact h.append (.cons _ _ .nil)
theorem LogIn.len {tl : List (Addr × Obj)} {vs : List Value} {ns : List Int} (x : LogIn tl vs ns) : vs.length = ns.length := x.1
theorem LogIn.get {tl : List (Addr × Obj)} {vs : List Value} {ns : List Int} (x : LogIn tl vs ns) {i : Nat} {v : Value} (h : vs[i]? = some v) : ∃ (g : Addr) (n : Int) (t u : Tok), v = .ref g ∧ ns[i]? = some n ∧ (g, tup #[.str (Str.ofString "J") t, .int n u]) ∈ tl := x.2 i v h
theorem log_has {wl rl : List Nat} {fs : List Value} {n : Nat} (h : IntsAre fs (endsOf wl rl (0 + n))) (e : n = rl.length) : IntsAre fs (endsOf wl rl rl.length) := by
  rw [Nat.zero_add] at h; exact e ▸ h
def EndsJ (w t : List Nat) (i : Nat) (ys : List Value) : Prop := ∃ ns, IntsAre ys ns ∧ (∀ a ∈ ns, ∃ q : Nat, a = (q : Int) ∧ q ≤ w.length ∧ w.take q <:+ t) ∧ ∀ q : Nat, q < i → w.take q <:+ t → (q : Int) ∈ ns
theorem ends_start (w t : List Nat) : EndsJ w t 0 [] := ⟨[], .nil, (fun _ h => nomatch h), fun _ h => by omega⟩
theorem ends_yes {w t : List Nat} {i : Nat} {ys : List Value} {a : Int} {u : Tok} (H : EndsJ w t i ys) (ha : a = (i : Int)) (hi : i ≤ w.length) (hs : w.take i <:+ t) : EndsJ w t (i + 1) (ys ++ [.int a u]) := by
  subst ha
  obtain ⟨ns, h1, h2, h3⟩ := H
  refine ⟨ns ++ [(i : Int)], h1.append (.cons _ _ .nil), fun a ha => ?_, fun q hq hs' => ?_⟩
  · rcases List.mem_append.mp ha with h | h
    · exact h2 a h
    · exact ⟨i, List.mem_singleton.mp h, hi, hs⟩
  · by_cases e : q = i
    · subst e; exact List.mem_append_right _ (List.mem_singleton.mpr rfl)
    · exact List.mem_append_left _ (h3 q (by omega) hs')
theorem ends_no {w t : List Nat} {i : Nat} {ys : List Value} (H : EndsJ w t i ys) (hs : ¬ w.take i <:+ t) : EndsJ w t (i + 1) ys := by
  obtain ⟨ns, h1, h2, h3⟩ := H
  refine ⟨ns, h1, h2, fun q hq hs' => ?_⟩
  by_cases e : q = i
  · subst e; exact absurd hs' hs
  · exact h3 q (by omega) hs'
theorem ends_max {w t : List Nat} {ns : List Int} {k : Nat} {M : Int} (B : Best w t k) (h2 : ∀ a ∈ ns, ∃ q : Nat, a = (q : Int) ∧ q ≤ w.length ∧ w.take q <:+ t) (h3 : ∀ q : Nat, q < w.length + 1 → w.take q <:+ t → (q : Int) ∈ ns)
    (hM : M ∈ ns) (hle : ∀ a, a ∈ ns → a ≤ M) : M = (k : Int) := by
  obtain ⟨q, rfl, hq, hs⟩ := h2 M hM
  have h4 := hle _ (h3 k (by have := B.1; omega) B.2.1)
  have h5 := B.2.2 q hq hs
  omega
theorem ends_ne {w t : List Nat} {ns : List Int} (h3 : ∀ q : Nat, q < w.length + 1 → w.take q <:+ t → (q : Int) ∈ ns) : 0 < ns.length := by
  have := h3 0 (by omega) List.nil_suffix
  exact List.length_pos_of_mem this
section
variable {prog : Program} {w : World} {A : Around} {E : Value → Shared → Prop} {s : Shared} {env : Env} {h₀ : Heap} {L : Addr} {m : Str → Option Value}
def MeetB (h₀ : Heap) (L : Addr) (m : Str → Option Value) (led : List (Addr × Obj)) (T X : Prop) (s : Shared) (b : Bool) (s' : Shared) : Prop := ∃ h' tk', s' = { s with heap := h', toks := tk' } ∧ Fr h₀ L h' m ∧ News h₀ L h' led ∧ if b = true then T else X
theorem meet_bool {c : Sem Bool} {Q : Bool → Shared → Prop} {led : List (Addr × Obj)} (T X : Prop) (_ : Fr h₀ L s.heap m) (_ : News h₀ L s.heap led)
    (ev : wpAny (model prog w) A c (MeetB h₀ L m led T X s) E s)
    (yes : ∀ h' tk', T → Fr h₀ L h' m → News h₀ L h' led → Q true { s with heap := h', toks := tk' })
    (no : ∀ h' tk', X → Fr h₀ L h' m → News h₀ L h' led → Q false { s with heap := h', toks := tk' }) : wpAny (model prog w) A c Q E s :=
  wpAny_mono ev (fun b s' ⟨h', tk', e1, F, N, x⟩ => by
    subst e1
    cases b with
    | true => exact yes h' tk' x F N
    | false => exact no h' tk' x F N) fun _ _ e => e
theorem rest_T {ct elt : Expr} {x : Str} {scope : Scope} {cl : List (Str × Addr)} {S : List (Addr × Obj) → Prop} {P : Nat → Value → Prop} {Fin : List Value → List (Addr × Obj) → Prop} {news : List (Addr × Obj)} (J : Nat → List Value → Prop) (n : Nat)
    (turn : ∀ i ys v I oI C oC D m₂ h tk (E' : Value → Shared → Prop), i < n → J i ys → P i v → LCg.NsObj oC m₂ → m₂ x = some v → Fr h₀ L h m → News h₀ L h ((I, oI) :: (C, oC) :: (D, LCg.lst ys) :: news) → LCg.Off3 I C D news → ((@Ne Nat I C) ∧ (@Ne Nat I D) ∧ (@Ne Nat C D)) →
      wpAny (model prog w) A (isTrue ct (compEnvC scope cl C env) (eval ct (compEnvC scope cl C env))) (fun ok s' => if ok = true then
        wpAny (model prog w) A (eval elt (compEnvC scope cl C env)) (LCg.CompEnd h₀ L m { s with heap := h, toks := tk } I oI C oC D (LCg.lst ys) S (fun y news' => news' = news ∧ J (i + 1) (ys ++ [y]))) E' s'
        else LCg.CompEnd h₀ L m { s with heap := h, toks := tk } I oI C oC D (LCg.lst ys) S (fun _ news' => news' = news ∧ J (i + 1) ys) Value.none s') E' { s with heap := h, toks := tk })
    (done : ∀ ys, J n ys → Fin ys news) : ∀ k i ys, i + k = n → J i ys → LCt.CompRestT prog w A h₀ L m env ct elt x scope cl s S P Fin k i ys news
  | 0, i, ys, e, hj => LCt.CompRestT.zero (done ys (by rw [Nat.add_zero] at e; exact e ▸ hj))
  | k + 1, i, ys, e, hj => by
    refine LCt.CompRestT.succ (fun v I oI C oC D m₂ h tk E' hp hC hx F N off ne => ?_)
    refine wpAny_mono (turn i ys v I oI C oC D m₂ h tk E' (by omega) hj hp hC hx F N off ne) (fun ok s' xx => ?_) fun _ _ e => e
    have up : ∀ {zs : Value → List Value} {y : Value} {s'' : Shared}, LCg.CompEnd h₀ L m { s with heap := h, toks := tk } I oI C oC D (LCg.lst ys) S (fun y news' => news' = news ∧ J (i + 1) (zs y)) y s'' →
        LCg.CompEnd h₀ L m { s with heap := h, toks := tk } I oI C oC D (LCg.lst ys) S (fun y news' => LCt.CompRestT prog w A h₀ L m env ct elt x scope cl s S P Fin k (i + 1) (zs y) news') y s'' := by
      rintro zs y s'' ⟨h', tk', news', e1, F', N', o', hS, e2, hJ⟩
      subst e2
      exact ⟨h', tk', news', e1, F', N', o', hS, rest_T J n turn done k (i + 1) _ (by omega) hJ⟩
    cases ok with
    | true =>
      simp only [if_true] at xx ⊢
      exact wpAny_mono xx (fun y s'' z => up z) fun _ _ e => e
    | false =>
      simp only [Bool.false_eq_true, if_false] at xx ⊢
      exact up (zs := fun _ => ys) xx
theorem rest_P {elt : Expr} {x x₂ : Str} {scope : Scope} {cl : List (Str × Addr)} {S : List (Addr × Obj) → Prop} {P : Nat → Value → Prop} {Fin : List Value → List (Addr × Obj) → Prop} {news : List (Addr × Obj)} (J : Nat → List Value → Prop) (n : Nat)
    (turn : ∀ i ys v, i < n → J i ys → P i v → ∃ (t : Addr) (ot : Obj) (v₁ v₂ : Value) (nt : Nat), v = .ref t ∧ (t, ot) ∈ news ∧ ot.cls = .type "tuple" ∧ ot.data = .seq #[v₁, v₂] nt ∧
      ∀ I oI C oC D m₂ h tk (E' : Value → Shared → Prop), LCg.NsObj oC m₂ → m₂ x = some v₁ → m₂ x₂ = some v₂ → Fr h₀ L h m → News h₀ L h ((I, oI) :: (C, oC) :: (D, LCg.lst ys) :: news) → LCg.Off3 I C D news → ((@Ne Nat I C) ∧ (@Ne Nat I D) ∧ (@Ne Nat C D)) →
      wpAny (model prog w) A (eval elt (compEnvC scope cl C env)) (LCg.CompEnd h₀ L m { s with heap := h, toks := tk } I oI C oC D (LCg.lst ys) S (fun y news' => news' = news ∧ J (i + 1) (ys ++ [y]))) E' { s with heap := h, toks := tk })
    (done : ∀ ys, J n ys → Fin ys news) : ∀ k i ys, i + k = n → J i ys → LCp.CompRestP prog w A h₀ L m env elt x x₂ scope cl s S P Fin k i ys news
  | 0, i, ys, e, hj => LCp.CompRestP.zero (done ys (by rw [Nat.add_zero] at e; exact e ▸ hj))
  | k + 1, i, ys, e, hj => by
    refine LCp.CompRestP.succ (fun v hp => ?_)
    obtain ⟨t, ot, v₁, v₂, nt, e1, hm, hc, hd, H⟩ := turn i ys v (by omega) hj hp
    refine ⟨t, ot, v₁, v₂, nt, e1, hm, hc, hd, fun I oI C oC D m₂ h tk E' hC hx hx2 F N off ne => ?_⟩
    refine wpAny_mono (H I oI C oC D m₂ h tk E' hC hx hx2 F N off ne) (fun y s'' z => ?_) fun _ _ e => e
    obtain ⟨h', tk', news', e1, F', N', o', hS, e2, hJ⟩ := z
    subst e2
    exact ⟨h', tk', news', e1, F', N', o', hS, rest_P J n turn done k (i + 1) _ (by omega) hJ⟩
end
end Mine
end
section
open PySem PySem.W PyProof.Rows
set_option pp.deepTerms false
set_option pp.maxSteps 20000
namespace Mine
local macro_rules | `(tactic| k_ownIn) => `(tactic| (first | ((with_reducible refine gen_toks ?_); intro tk9) | (k_unfold; (try dsimp only)) | (k_end; wrow_close) | walk1 | (dsimp only; walk1) | (leave1; walk_say "STEP leave1"; try dsimp only) | fail "no step"))
theorem pw_hi4 {k X : Int} (h : k < 0 + ((1 + X.fmod 4 - 0).toNat : Int)) : k ≤ 1000000 := by
  have := Int.fmod_lt_of_pos X (show (0 : Int) < 4 by decide)
  omega
theorem pw_hi8 {k X : Int} (h : k < 0 + ((1 + X.fmod 8 - 0).toNat : Int)) : k ≤ 1000000 := by
  have := Int.fmod_lt_of_pos X (show (0 : Int) < 8 by decide)
  omega
theorem pw_lo4 {k X : Int} (h : k < 0 + ((1 + X.fmod 4 - 0).toNat : Int)) : k < 9000 := by
  have := Int.fmod_lt_of_pos X (show (0 : Int) < 4 by decide)
  omega
theorem pw_lo8 {k X : Int} (h : k < 0 + ((1 + X.fmod 8 - 0).toNat : Int)) : k < 9000 := by
  have := Int.fmod_lt_of_pos X (show (0 : Int) < 8 by decide)
  omega
local macro_rules | `(tactic| walk_at "binaryOp Pow int int") => `(tactic| (k_here; (with_reducible refine pow_int_small ?kb1 ?kb2 (by decide) ?_); (case kb1 => assumption); (case kb2 => first | exact pw_hi4 (by assumption) | exact pw_hi8 (by assumption))))
local macro_rules | `(tactic| walk_at "binaryOp FloorDiv int int") => `(tactic| (k_here; (with_reducible refine floordiv_int (Int.ne_of_gt (kbt_pos _)) ?_ (Or.inl (PyProof.noPylong_of_log2 (kbt_py ?kb1)))); (case kb1 => first | exact pw_lo4 (by assumption) | exact pw_lo8 (by assumption))))
local macro_rules | `(tactic| walk_at "CompSrc") => `(tactic| (k_here; goal_has PySem.Const.str; k_dflt (
  (refine LCg.CompSrc.range (by rfl) (by k_asm) (by k_asm) (by assumption) (by first | decide | exact small_one (by l_bnd) (by l_bnd) (by l_bnd) (by l_bnd)) (by first | exact rangeSize_nat _ _ | rfl) (by first | exact Nat.le_of_ble_eq_true rfl | (rw [PySem.sizeLine_eq]; first | omega | ((have hb9 := len_ints_list (by lay_of)); omega)) | size_fits) ?_; intro g'; (refine' kct_range _ (fun k' t' I' oI' C' oC' D' m' ys' h' tk' E' hlo' hhi' hC' hx' F' N' off' ne' => ?_) ?_); (all_goals (try ((show KPfMark → _); intro hMark'))); kcf_last))))
local macro_rules | `(tactic| walk_at "CompEnd") => `(tactic| (k_here; goal_has PySem.W.KCtEl; refine LCg.CompEnd.intro (by k_asm) (by k_asm) _ (fun _ hp => hp) (by assumption) (by lcg_src) ?_))
local macro_rules | `(tactic| walk_at "subscriptTail Name Slice ref ref") => `(tactic| (k_here; (with_reducible show wpAny _ _ (subscriptTail _ (PySem.Expr.Slice (some _) none none _) (Value.ref _) (Value.ref _)) _ _ _); k_dflt (refine' kmk_slice_ints (ns := [2, 5, 2, 10]) ?F ?N ?l ?p ?q ?i (kmk_from ?i2 ?j) rfl ?_ ?s ?t ?z; (case F => k_asm); (case N => k_asm); (case l => kmk_list); (case p => kmk_part); (case q => kmk_part); (case i => exact .cons _ _ (.cons _ _ (.cons _ _ (.cons _ _ .nil)))); (case i2 => exact .cons _ _ (.cons _ _ (.cons _ _ (.cons _ _ .nil)))); (case j => exact Int.natCast_nonneg _); (case s => with_unfolding_all rfl); (case t => kmk_pure); (case z => exact Nat.le_of_ble_eq_true rfl)); intro D' ws' h' F' N' l1 hI' hC' hL'; (try k_lt l1); (try k_sweep)))
local macro_rules | `(tactic| walk_at "call ref") => `(tactic| (k_here; (with_reducible show wpAny _ _ (call (Value.ref 573) _) _ _ _); refine Halt.mk ?_))
local macro_rules | `(tactic| walk_at "exec For Tuple Call cons nil") => `(tactic| (k_here; (rename Fr _ _ _ _ => lF'); (with_unfolding_all refine' For_turns lF' ?_; k_whole)))
local macro_rules | `(tactic| walk_at "call type:enumerate") => `(tactic| (k_here; (with_reducible show wpAny _ _ (call (Value.type _) [Value.str _ _]) (fun xv s₁ => wpAny _ _ (pyIter xv) (fun it s₂ => TurnsAt _ _ _ _ _ _ _ _ _ it s₂) _ s₁) _ _); refine Halt.mk ?_))
local macro_rules | `(tactic| walk_at "exec While") => `(tactic| (k_here; refine Halt.mk ?_))
local macro_rules | `(tactic| walk_at "exec While BoolOp cons nil") => `(tactic| (k_here; refine Halt.mk ?_))
local macro_rules | `(tactic| walk_at "eval Name") => `(tactic| (k_here; k_dflt (refine' nameX_C ?kN ?kc ?km ?kd ?_ ?kA ?kB; (case kB => rfl); (case kA => rfl); (case kN => k_asm); (case kc => rfl); (case km => k_mem); (case kd => k_asm); k_whole)))
local macro_rules | `(tactic| k_in) => `(tactic| exact Frag.In.keeps (by with_reducible assumption) (Fr.keep (by with_reducible assumption)))
local macro_rules | `(tactic| walk_at "call ref") => `(tactic| (k_here; (with_reducible show wpAny _ _ (call (Value.ref 304) _) _ _ _); refine Halt.mk ?_))
local macro_rules | `(tactic| walk_at "call builtin:isinstance") => `(tactic| (k_here; k_dflt (refine' isi_call ?k1 ?k2 ?k3 ?k4 ?_; (case k1 => k_in); (case k2 => k_types); (case k3 => k_is); (case k4 => intro e; cases e); k_whole)))
local macro_rules | `(tactic| walk_at "subscriptTail") => `(tactic| (k_here; (with_reducible show wpAny _ _ (subscriptTail _ _ (Value.ref _) (Value.int _ _)) _ _ _); refine Halt.mk ?_))
local macro_rules | `(tactic| walk_at "UnrEndW") => `(tactic| (goal_has Mine.RowJ; refine Halt.mk ?_))
local macro_rules | `(tactic| walk_at "exec Assign cons ListComp") => `(tactic| (k_here; lct_look; k_dflt (refine LCt.Assign_ListComp_T (F₀ := by k_asm) (by rfl) (by with_unfolding_all rfl) (by with_unfolding_all rfl) (by decide) (by rfl) (by decide) (by rfl) (by rfl) (by rfl) ?_)))
local macro_rules | `(tactic| walk_at "CompSrcT") => `(tactic| (k_here; refine Halt.mk ?_))
local macro_rules | `(tactic| walk_at "CompEnd") => `(tactic| (k_here; goal_has Mine.EndsJ; refine Halt.mk ?_))
local macro_rules | `(tactic| walk_at "UnrPostW cons ret") => `(tactic| (exfalso; omega))
local macro_rules | `(tactic| walk_at "eval IfExp") => `(tactic| (k_here; refine Halt.mk ?_))
local macro_rules | `(tactic| walk_at "call builtin:max") => `(tactic| (k_here; refine Halt.mk ?_))
local macro_rules | `(tactic| walk_at "call ref") => `(tactic| (k_here; (with_reducible show wpAny _ _ (call (Value.ref 517) _) _ _ _); refine Halt.mk ?_))
local macro_rules | `(tactic| walk_at "newTuple cons int cons") => `(tactic| (k_here; k_dflt (refine' kup_newTuple ?F ?N ?_ ?z; (case F => k_asm); (case N => k_asm); (case z => kmk_size)); intro D' h' F' N' l1; (try k_lt l1); (try k_sweep)))
local macro_rules | `(tactic| walk_at "newTuple cons str") => `(tactic| (k_here; k_dflt (refine' kup_newTuple ?F ?N ?_ ?z; (case F => k_asm); (case N => k_asm); (case z => kmk_size)); intro D' h' F' N' l1; (try k_lt l1); (try k_sweep)))
local macro_rules | `(tactic| walk_at "eval ListComp Name") => `(tactic| (k_here; lcp_look; k_dflt (refine LCp.ListComp_P (F₀ := by k_asm) (by with_unfolding_all rfl) (by decide) (by rfl) (by decide) (by rfl) (by rfl) (by decide) ?_)))
local macro_rules | `(tactic| walk_at "SrcLP") => `(tactic| (k_here; refine Halt.mk ?_))
local macro_rules | `(tactic| walk_at "compareOp Eq ref ref") => `(tactic| (k_here; refine Halt.mk ?_))
local macro_rules | `(tactic| k_ne) => `(tactic| (refine neN ?_; (try dsimp only); (first | (with_reducible show @Ne Nat _ (_ + 1)) | (with_reducible show @Ne Nat (_ + 1) _)); first | ((with_reducible rename (@Ne Nat _ _ ∧ _) => hq9); first | (with_reducible (first | exact hq9.1 | exact Ne.symm hq9.1 | exact hq9.2.1 | exact Ne.symm hq9.2.1 | exact hq9.2.2.1 | exact Ne.symm hq9.2.2.1 | exact hq9.2.2.2.1 | exact Ne.symm hq9.2.2.2.1 | exact hq9.2.2.2.2.1 | exact Ne.symm hq9.2.2.2.2.1 | exact hq9.2.2.2.2.2.1 | exact Ne.symm hq9.2.2.2.2.2.1 | exact hq9.2.2.2.2.2.2.1 | exact Ne.symm hq9.2.2.2.2.2.2.1 | exact hq9.2.2.2.2.2.2.2.1 | exact Ne.symm hq9.2.2.2.2.2.2.2.1 | exact hq9.2.2.2.2.2.2.2.2 | exact Ne.symm hq9.2.2.2.2.2.2.2.2 | exact hq9.2 | exact hq9.2.2 | exact hq9.2.2.2 | exact hq9.2.2.2.2 | exact hq9.2.2.2.2.2 | exact hq9.2.2.2.2.2.2 | exact hq9.2.2.2.2.2.2.2 | exact hq9.2.2.2.2.2.2.2.2 | exact Ne.symm hq9.2 | exact Ne.symm hq9.2.2 | exact Ne.symm hq9.2.2.2 | exact Ne.symm hq9.2.2.2.2 | exact Ne.symm hq9.2.2.2.2.2 | exact Ne.symm hq9.2.2.2.2.2.2 | exact Ne.symm hq9.2.2.2.2.2.2.2 | exact Ne.symm hq9.2.2.2.2.2.2.2.2)) | (clear hq9; ((with_reducible rename (@Ne Nat _ _ ∧ _) => hq9); first | (with_reducible (first | exact hq9.1 | exact Ne.symm hq9.1 | exact hq9.2.1 | exact Ne.symm hq9.2.1 | exact hq9.2.2.1 | exact Ne.symm hq9.2.2.1 | exact hq9.2.2.2.1 | exact Ne.symm hq9.2.2.2.1 | exact hq9.2.2.2.2.1 | exact Ne.symm hq9.2.2.2.2.1 | exact hq9.2.2.2.2.2.1 | exact Ne.symm hq9.2.2.2.2.2.1 | exact hq9.2.2.2.2.2.2.1 | exact Ne.symm hq9.2.2.2.2.2.2.1 | exact hq9.2.2.2.2.2.2.2.1 | exact Ne.symm hq9.2.2.2.2.2.2.2.1 | exact hq9.2.2.2.2.2.2.2.2 | exact Ne.symm hq9.2.2.2.2.2.2.2.2 | exact hq9.2 | exact hq9.2.2 | exact hq9.2.2.2 | exact hq9.2.2.2.2 | exact hq9.2.2.2.2.2 | exact hq9.2.2.2.2.2.2 | exact hq9.2.2.2.2.2.2.2 | exact hq9.2.2.2.2.2.2.2.2 | exact Ne.symm hq9.2 | exact Ne.symm hq9.2.2 | exact Ne.symm hq9.2.2.2 | exact Ne.symm hq9.2.2.2.2 | exact Ne.symm hq9.2.2.2.2.2 | exact Ne.symm hq9.2.2.2.2.2.2 | exact Ne.symm hq9.2.2.2.2.2.2.2 | exact Ne.symm hq9.2.2.2.2.2.2.2.2)) | (clear hq9; ((with_reducible rename (@Ne Nat _ _ ∧ _) => hq9); first | (with_reducible (first | exact hq9.1 | exact Ne.symm hq9.1 | exact hq9.2.1 | exact Ne.symm hq9.2.1 | exact hq9.2.2.1 | exact Ne.symm hq9.2.2.1 | exact hq9.2.2.2.1 | exact Ne.symm hq9.2.2.2.1 | exact hq9.2.2.2.2.1 | exact Ne.symm hq9.2.2.2.2.1 | exact hq9.2.2.2.2.2.1 | exact Ne.symm hq9.2.2.2.2.2.1 | exact hq9.2.2.2.2.2.2.1 | exact Ne.symm hq9.2.2.2.2.2.2.1 | exact hq9.2.2.2.2.2.2.2.1 | exact Ne.symm hq9.2.2.2.2.2.2.2.1 | exact hq9.2.2.2.2.2.2.2.2 | exact Ne.symm hq9.2.2.2.2.2.2.2.2 | exact hq9.2 | exact hq9.2.2 | exact hq9.2.2.2 | exact hq9.2.2.2.2 | exact hq9.2.2.2.2.2 | exact hq9.2.2.2.2.2.2 | exact hq9.2.2.2.2.2.2.2 | exact hq9.2.2.2.2.2.2.2.2 | exact Ne.symm hq9.2 | exact Ne.symm hq9.2.2 | exact Ne.symm hq9.2.2.2 | exact Ne.symm hq9.2.2.2.2 | exact Ne.symm hq9.2.2.2.2.2 | exact Ne.symm hq9.2.2.2.2.2.2 | exact Ne.symm hq9.2.2.2.2.2.2.2 | exact Ne.symm hq9.2.2.2.2.2.2.2.2)) | (clear hq9; omega)))))) | omega))
theorem wd_len4 {X : Int} {s : PySem.Str} (h : s.length = (rangeKs 0 (1 + X.fmod 4 - 0).toNat).length) : 1 ≤ s.length ∧ s.length ≤ 4 := by
  rw [rangeKs_length] at h
  have h1 := Int.fmod_lt_of_pos X (show (0 : Int) < 4 by decide)
  have h2 := Int.fmod_nonneg_of_pos X (show (0 : Int) < 4 by decide)
  omega
theorem wd_len8 {X : Int} {s : PySem.Str} (h : s.length = (rangeKs 0 (1 + X.fmod 8 - 0).toNat).length) : 1 ≤ s.length ∧ s.length ≤ 8 := by
  rw [rangeKs_length] at h
  have h1 := Int.fmod_lt_of_pos X (show (0 : Int) < 8 by decide)
  have h2 := Int.fmod_nonneg_of_pos X (show (0 : Int) < 8 by decide)
  omega
local macro_rules | `(tactic| walk_at "storeName str") => `(tactic| (k_here; k_dflt ((first | ((with_reducible show wpAny _ _ (storeName _ (PySem.Str.ofString "word") _) _ _ _); refine' store_text 4 (wd_len4 ?kP) ?kF ?kN ?kc ?kU ?kd ?_ ?kA ?kB; (case kP => with_reducible assumption)) | ((with_reducible show wpAny _ _ (storeName _ (PySem.Str.ofString "row") _) _ _ _); refine' store_text 8 (wd_len8 ?kP) ?kF ?kN ?kc ?kU ?kd ?_ ?kA ?kB; (case kP => with_reducible assumption))); (case kA => rfl); (case kB => rfl); (case kF => k_asm); (case kN => k_asm); (case kc => rfl); (case kU => k_updF); (case kd => k_asm)); intro w' hw' h' o' F' N' d'; (try dsimp only at N'); (try k_sweep)))
local macro_rules | `(tactic| k_qdec) => `(tactic| first | exact top_imps | exact top_names)
theorem t0 : PySem.Challenge.rw_xm0957_01.Holds := hd (by
  (k_go0; (all_goals try k_fold)); w_strict (repeat' k_ownIn)
  refine Halt.out ?_
  rename _ ∧ _ ≤ 4 => hw
  rename _ ∧ _ ≤ 8 => hrw
  rename News _ _ _ _ => N2
  have N4 := kst_newsOf N2 (l' := List.drop 8 _) (fun p hp => List.mem_of_mem_drop hp)
  simp only [List.drop] at N4
  with_unfolding_all refine' links_ok hw.1 hw.2 _ _ _ _ _ _ _ _ _ _ _ _ _ _ _ _ _ _ _ _ ?B ?F ?X ?N ?T ?hk ?ret
  case B => k_asm
  case F => k_asm
  case X => k_asm
  case N => exact N4
  case T => k_asm
  case hk => rfl
  case ret =>
    clear N2 N4
    repeat ((with_reducible rename (@LT.lt Nat _ _ _ ∧ _) => hq9); clear hq9)
    repeat ((with_reducible rename (@Ne Nat _ _ ∧ _) => hq9); clear hq9)
    intro x1 d1 l1 D1 D2 t1 t2 t3 t4 t5 t6 t7 t8 t9 ta u1 u2 vs ns h3 tk3 hia hli F3 N3 hord
    simp only [AllLt, and_true] at hord
    w_strict (repeat' k_ownIn)
    refine Halt.out ?_
    rename News _ _ _ _ => N5
    have N6 := reord N5
    clear N5
    with_unfolding_all refine enum_str rfl (by k_asm) N6 ?_
    intro I ty hI
    have hlt9 := allLt_of hI
    simp only [AllLt, and_true] at hlt9
    with_unfolding_all refine' items_loop (RowJ (slist hw) (slist hrw) _ _ _ _) _ 0 _ _ ?turn ?done ⟨0, 0, _, _, _, _, [], _, best_nil _, Nat.le_refl _, .nil, Nat.le_refl _, ?hoc, rfl, rfl, rfl, fun _ _ => rfl⟩
    case hoc => assumption
    case done =>
      rintro m9 news9 h9 tk9 ⟨k, many, tk1, tk2, oc, old, fs, gn, hB, hkm, hfs, hfl, hoc, rfl, hk1, hk2, hm⟩ F9 N9
      rename PySem.Str => w'
      have hrl := str_len_of hrw
      have hwl := str_len_of hw
      replace F9 := fr_norm2 (["sign", "ends", "have", "many"] : List Str) hk1 hk2 hm F9
      simp only [List.length_map, List.length_range] at hfs hfl hB hkm
      w_strict (repeat' k_ownIn)
      refine Halt.out ?_
      rename News _ _ _ _ => N8
      with_unfolding_all refine' match_ok (ofl := listOf fs.toArray gn) hw.1 hw.2 hrw.2 ?hov ?o1 ?o2 ?o3 ?o4 ?o5 ?o6 ?o7 ?o8 ?o9 ?oa ?ob ?oc _ _ _ _ _ _ _ _ _ _ _ _ ?B ?F ?X ?N ?T ?hk ?ret
      case B => k_asm
      case F => k_asm
      case X => k_asm
      case N => exact kst_newsOf N8 (by lcg_sub)
      case T => k_asm
      case hk => rfl
      case hov => assumption
      case ret =>
        clear N8 N9
        intro st9 b9 vs9 ns9 tl9 gn9 h9' tk9' hlog hns hvl htu F8 N8
        simp only [List.cons_append, List.nil_append] at N8
        w_strict (repeat' k_ownIn)
        refine Halt.out ?_
        refine LCp.SrcLP.ledger (its := vs9.toArray) (by rfl) (by k_asm) N8 (by k_mem) (by rw [PySem.sizeLine_eq]; simp only [List.size_toArray]; omega) (fun g' => ?_)
        refine rest_P (fun i ys => IntsAre ys (ns9.take i)) vs9.length ?ct ?cd _ 0 [] (by simp) .nil
        case ct =>
          rintro i ys v hi hJ hv
          obtain ⟨g, n, t, u, hg1, hg2, hg3⟩ := hlog.get (i := i) (v := v) (by simpa using hv)
          refine ⟨g, _, _, _, _, hg1, List.mem_cons_of_mem _ (List.mem_cons_of_mem _ (List.mem_cons_of_mem _ (List.mem_cons_of_mem _ hg3))), rfl, rfl, ?_⟩
          intro I2 oI2 C2 oC2 D2 m2 h2 tk2 E2 hC hx hx2 F2 N2 off ne
          w_strict (repeat' k_ownIn)
          exact LCg.CompEnd.intro (by k_asm) (by k_asm) _ (fun _ hp => hp) off (.inr ⟨_, by k_mem, rfl, _, rfl⟩) ⟨rfl, ints_snoc hJ hg2 rfl⟩
        case cd =>
          intro ys hJ D h tk F3 N3 o1
          have hJ9 : IntsAre ys ns9 := by
            have := hJ
            rw [hlog.len, List.take_length] at this
            exact this
          have hfs9 := log_has hfs (show w'.cps.size = (slist hrw).length by simp)
          w_strict (repeat' k_ownIn)
          refine Halt.out ?_
          rename News _ _ _ _ => N4
          refine ke_eq_ints (by first | exact ⟨_, (N4 (_, _) (by k_mem)).1, rfl, _, rfl⟩ | is_list) (by first | exact ⟨_, (N4 (_, _) (by k_mem)).1, rfl, _, rfl⟩ | is_list) hJ9 hfs9 (by ke_room) ?_
          rw [decide_eq_true hns]
          show GoodW _ _ _ _ _ (.ok (.ret (.bool _))) _
          refine goodW_bool (by k_asm) (by assumption) (raisesW_false ?gn) ?gp
          case gn => wrow_none_raised
          case gp => first | exact rfl | wrow_post
      all_goals omega
    case turn =>
      rintro j a9 m9 news9 v9 h9 tk9 hxs ⟨k, many, tk1, tk2, oc, old, fs, gn, hB, hkm, hfs, hfl, hoc, rfl, hk1, hk2, hm⟩ hv F9
      replace F9 := fr_norm2 (["sign", "ends", "have", "many"] : List Str) hk1 hk2 hm F9
      obtain ⟨hj, rfl⟩ := range_get hxs
      obtain ⟨T9, t9, x9, rfl, hx9, hT9⟩ := hv
      obtain ⟨tf, rfl⟩ := PyProof.V.Flat.str_inv hx9
      have hrl := str_len_of hrw
      have hwl := str_len_of hw
      have hj9 : j < (slist hrw).length := by simpa using hj
      obtain ⟨ch, hch⟩ := get_some (l := slist hrw) (k := j) (by omega)
      rw [getD_of hch] at hT9
      refine AllObj.cons (fun oe hoe => ?_)
      refine AllObj.cons (fun oi hoi => ?_)
      refine AllObj.nil (fun N1 => ?_)
      simp only [List.cons_append, List.nil_append] at N1
      dsimp only
      w_strict (repeat' k_ownIn)
      refine Halt.out ?_
      rename News _ _ _ _ => N2
      with_unfolding_all refine' while_once (Str.ofString "have") (Str.ofString "many") (by decide) (fun k n => Cand (slist hw) ((slist hrw).take j) ch k ∧ k + n ≤ j) (fun k n => k = 0 ∨ (k < (slist hw).length ∧ (slist hw)[k]? = some ch)) ?F N2 ?hy ?hy2 ?hp ?turn ?done
      case F => k_asm
      case hy => rfl
      case hy2 => rfl
      case hp => exact ⟨cand_start (by simpa using hB), by omega⟩
      case turn =>
        clear N2
        rintro k n tk8 tn8 u8 h8 tk9 ⟨hP, hkn⟩ F8 N8
        have hkw := Nat.le_trans hP.1 (Nat.le_of_eq hwl)
        refine meet_bool (0 < k ∧ (k = (slist hw).length ∨ (slist hw)[k]? ≠ some ch)) (k = 0 ∨ (k < (slist hw).length ∧ (slist hw)[k]? = some ch)) F8 N8 ?ev ?yes ?no
        case ev =>
          w_strict (repeat' k_ownIn)
          · exact ⟨_, _, rfl, by k_asm, by k_asm, ⟨by omega, Or.inl (by omega)⟩⟩
          · exact ⟨_, _, rfl, by k_asm, by k_asm, ⟨by omega, Or.inr (sgn_ne (by assumption))⟩⟩
          · have hlt : k < (slist hw).length := by omega
            exact ⟨_, _, rfl, by k_asm, by k_asm, Or.inr ⟨hlt, sgn_eq' hlt (by assumption)⟩⟩
          · exact ⟨_, _, rfl, by k_asm, by k_asm, Or.inl (by omega)⟩
        case no =>
          intro h9 tk9 hX9 F9 N9
          exact ⟨_, _, rfl, F9, N9, hX9⟩
        case yes =>
          intro h9 tk9 hT F9 N9
          have hk0 := hT.1
          rw [if_pos rfl]
          w_strict (repeat' k_ownIn)
          refine Halt.out ?_
          rename News _ _ _ _ => N3
          with_unfolding_all refine' item_ok ?h1 ?h2 ?h3 _ _ _ _ _ _ _ _ _ _ _ _ _ _ _ _ _ ?B ?F ?X (perm_item N3) ?T ?hk ?hdp ?ret
          case B => k_asm
          case F => k_asm
          case X => k_asm
          case T => k_asm
          case hk => rfl
          case hdp => (simp only [depth_deeper, depth_caller]; decide)
          case h1 => omega
          case h2 => omega
          case h3 => omega
          case ret =>
            clear N3
            intro z1 dz1 q1 q2 q3 q4 q5 h2 tk2 F2 N2 hl2 hz2
            simp only [AllLt, and_true] at hl2; replace hz2 := ltN hz2
            w_strict (repeat' k_ownIn)
            refine Halt.out ?_
            obtain ⟨b', hb1', hb2'⟩ := hli.2 k (by omega) (by omega)
            refine item_ints (by k_asm) (by k_mem) hia (by omega) (by omega) (by rw [show ((k : Int) - 1).toNat = k - 1 by omega]; exact hb1') (fun t6 => ?_)
            w_strict (repeat' k_ownIn)
            obtain ⟨hc', hlt'⟩ := cand_next hP hT.1 hT.2 hb2'
            refine' ⟨b', n + 1, _, _, _, _, _, _, rfl, ?wF, ?wN, ?wS, ?wy, ?wz, ?wo, ⟨hc', by omega⟩, hlt'⟩
            case wF => k_asm
            case wN => k_asm
            case wS => lcg_sub
            case wy => rfl
            case wz => rfl
            case wo => exact off_two
      case done =>
        clear N2
        rintro k n tk8 tn8 u8 h8 tk9 ⟨hP, hkn⟩ hX F8 N8
        have hkl : k < (slist hw).length := by
          rcases hX with h | h
          · omega
          · exact h.1
        have hkw := Nat.lt_of_lt_of_eq hkl hwl
        w_strict (repeat' k_ownIn)
        refine Halt.out ?_
        rename News _ _ _ _ => N3
        refine meet_int (fun i => ∃ k' : Nat, i = (k' : Int) ∧ k' ≤ k + 1 ∧ Best (slist hw) ((slist hrw).take (j + 1)) k') (by k_asm) N3 ?ev ?go
        case ev =>
          refine IfExp_ ?_
          w_strict (repeat' k_ownIn)
          · exact ⟨_, _, _, _, rfl, rfl, by k_asm, by k_asm, k + 1, by omega, Nat.le_refl _, next_hit hP hch (sgn_eq hkl (by assumption))⟩
          · exact ⟨_, _, _, _, rfl, rfl, by k_asm, by k_asm, 0, by omega, Nat.zero_le _, next_miss hP hch hX (sgn_ne' (by assumption))⟩
        case go =>
          clear N3
          rintro h2 tk2 k2 t2 ⟨k', rfl, hk9, hB'⟩ F2 N2
          w_strict (repeat' k_ownIn)
          refine Halt.out ?_
          rename News _ _ _ _ => N3
          refine LCt.CompSrcT.range (n := (slist hw).length + 1) (by rfl) (by k_asm) N3 (by assumption) (small_one (by omega) (by omega) (by omega) (by omega)) (by rw [rangeSize_nat]; omega) (by rw [PySem.sizeLine_eq]; omega) (fun g' => ?_)
          refine rest_T (EndsJ (slist hw) ((slist hrw).take (j + 1))) ((slist hw).length + 1) ?ct ?cd _ 0 [] (by omega) (ends_start _ _)
          case ct =>
            clear N3
            rintro i ys v I2 oI2 C2 oC2 D2 m2 h2 tk2 E2 hi hJ ⟨t2, rfl⟩ hC hx F2 N2 off ne
            w_strict (repeat' k_ownIn)
            · exact Halt.out (LCg.CompEnd.intro (by k_asm) (by k_asm) _ (fun _ hp => hp) off trivial ⟨rfl, ends_yes hJ (by omega) (by omega) (suf_yes (by assumption) (by omega) (by omega) (by omega) (by omega))⟩)
            · exact Halt.out (LCg.CompEnd.intro (by k_asm) (by k_asm) _ (fun _ hp => hp) off trivial ⟨rfl, ends_no hJ (suf_no (by assumption) (by omega) (by omega) (by omega) (by omega))⟩)
          case cd =>
            clear N3
            rintro ys ⟨ns, hi1, hi2, hi3⟩
            intro D h tk F3 N3 o1
            w_strict (repeat' k_ownIn)
            refine Halt.out ?_
            rename News _ _ _ _ => N4
            refine kso_max (by k_asm) N4 ((by first | exact ⟨_, (N4 _ (by k_mem)).1, rfl, _, rfl⟩ | kso_list)) hi1 (ends_ne hi3) rfl (fun h' M t tk F5 N5 hM hle => ?_)
            obtain rfl := ends_max hB' hi2 hi3 hM hle
            clear N4
            simp only [LCg.Off1, and_true] at o1
            w_strict (repeat' k_ownIn)
            · refine Halt.out ?_
              rename News _ _ _ _ => N6
              have N7 := kst_newsOf N6 (l' := List.drop 1 _) (fun p hp => List.mem_of_mem_drop hp)
              simp only [List.drop, List.push_toArray] at N7
              refine ⟨_, _, _, _, rfl, by k_asm, N7, ?_, ⟨k', n, _, _, _, _, _, _, by rw [Nat.zero_add]; exact hB', by omega, row_hit hfs hB' hwl (by assumption) rfl, ?_, by assumption, rfl, rfl, rfl, ?_⟩⟩
              · intro p hp q hq
                simp only [List.mem_cons, List.mem_nil_iff, or_false] at hp hq
                rcases hq with rfl | rfl <;> rcases hp with rfl | rfl | rfl | rfl | rfl | rfl | rfl | rfl | rfl <;> (refine neN ?_; dsimp only; omega)
              · rw [List.length_append, List.length_singleton]; omega
              · intro z hz
                have z1 : z ≠ Str.ofString "sign" := by rintro rfl; revert hz; decide
                have z2 : z ≠ Str.ofString "ends" := by rintro rfl; revert hz; decide
                have z3 : z ≠ Str.ofString "have" := by rintro rfl; revert hz; decide
                have z4 : z ≠ Str.ofString "many" := by rintro rfl; revert hz; decide
                have z5 : ([Str.ofString "have", Str.ofString "many"] : List Str).contains z = false := by simp [z3, z4]
                simp only [if_neg z1, if_neg z2, if_neg z3, if_neg z4, z5, hz, Bool.false_eq_true, if_false]
            · refine Halt.out ?_
              rename News _ _ _ _ => N6
              have N7 := kst_newsOf N6 (l' := List.drop 1 _) (fun p hp => List.mem_of_mem_drop hp)
              simp only [List.drop] at N7
              refine ⟨_, _, _, _, rfl, by k_asm, N7, ?_, ⟨k', n, _, _, _, _, _, _, by rw [Nat.zero_add]; exact hB', by omega, row_miss hfs hB' hwl (by assumption), ?_, by assumption, rfl, rfl, rfl, ?_⟩⟩
              · intro p hp q hq
                simp only [List.mem_cons, List.mem_nil_iff, or_false] at hp hq
                rcases hq with rfl | rfl <;> rcases hp with rfl | rfl | rfl | rfl | rfl | rfl | rfl | rfl | rfl <;> (refine neN ?_; dsimp only; omega)
              · omega
              · intro z hz
                have z1 : z ≠ Str.ofString "sign" := by rintro rfl; revert hz; decide
                have z2 : z ≠ Str.ofString "ends" := by rintro rfl; revert hz; decide
                have z3 : z ≠ Str.ofString "have" := by rintro rfl; revert hz; decide
                have z4 : z ≠ Str.ofString "many" := by rintro rfl; revert hz; decide
                have z5 : ([Str.ofString "have", Str.ofString "many"] : List Str).contains z = false := by simp [z3, z4]
                simp only [if_neg z1, if_neg z2, if_neg z3, if_neg z4, z5, hz, Bool.false_eq_true, if_false]
  )
end Mine
end
theorem PySem.Challenge.cw_xm0957_01_holds : PySem.Challenge.rw_xm0957_01.Holds := by
  exact Mine.t0
