import PyProof.Rows.All
import Wide.All
import OpenK.AllK
import Wide.FinOn
import Lean
import PySem.Challenge.RW_xm0580_01
open PySem PySem.W PyProof.Rows
set_option Elab.async false
set_option linter.all false
set_option rowWalk.seconds 0
namespace Mine
-- Hd
def view : Program := { Challenge.rw_xm0580_01.row.toRowW.prog with main := { Challenge.rw_xm0580_01.row.toRowW.prog.main with body := (Challenge.rw_xm0580_01.row.toRowW.prog.main.body.eraseIdx 13).eraseIdx 3 } }
theorem left_boot {p q : Program} {loose : List Str} {Xt : Shared → Bool} {α : Type} {Yf : Shared → α} {Ya : World → α} {N : Nat} {g0 : Bool} (e : opening p = plainProg p.main.scope.names) (hN : Nat.ble 600 N = true) (f : ∀ s, fenceModules? p s = some s)
    (h : ∀ (w : World) (os : OsState), (topFrom treeTable p w N ⟨boot_heap w.params, Array.mk [], boot_drawn, boot_toks, os⟩).map (fun s => (openSeen q loose (importedModules p.main.body) Xt g0 s, Yf s)) = some (openGood q loose, Ya w)) : LeftO p q loose Xt Yf Ya N g0 := fun w => by
  obtain ⟨s₀, a, b⟩ := Option.map_eq_some_iff.mp (boot_open e hN f w)
  unfold openEnds
  rw [a]
  obtain ⟨hp, g, d, k, os⟩ := s₀
  simp only [Prod.mk.injEq] at b
  obtain ⟨rfl, rfl, rfl, rfl⟩ := b
  exact h w os
section
local macro_rules | `(tactic| o_head $H) => `(tactic| (refine holds_open (q := view) (loose := []) (Xt := fun s => xlAt view [] s && recOk (RowW.records Challenge.rw_xm0580_01.row.toRowW) s) (XP := XL view []) (Yf := Hook.obs $H) (Ya := Hook.val $H) (YP := Hook.says $H) (N := 1292) ?hl (Hook.of $H) (Hook.keeps $H) (fun s e => xl_of s (Bool.and_eq_true_iff.mp e).1) XL.keeps (by rfl) (by rfl) (by rfl) (fun s e => recFacts_of (Bool.and_eq_true_iff.mp e).2) (by rfl) (by first | assumption | decide +kernel) (by decide +kernel) ⟨rfl, rfl, rfl, rfl, rfl, by first | k_qdec | decide +kernel⟩ ?hw ?hc; (case hl => exact left_boot (by kernel_rfl) (by kernel_rfl) (fun _ => by kernel_rfl) fun w os => by kernel_rfl)))
set_option maxRecDepth 100000 in
set_option maxHeartbeats 8000000 in
open_top hd for PySem.Challenge.rw_xm0580_01
end
theorem top_off : True := by
  w_top off
  trivial
open PySem.Calls PySem.Spec
local macro_rules | `(tactic| k_all) => `(tactic| k_extra "all")
local macro_rules | `(tactic| k_mem) => `(tactic| k_extra "mem0")
local macro_rules | `(tactic| kqd_in) => `(tactic| k_extra "kin")
local macro_rules | `(tactic| kqd_all) => `(tactic| k_extra "kall")
local macro_rules | `(tactic| walk_at "setItem ref int") => `(tactic| k_extra "setItem ref int")
local macro_rules | `(tactic| walk_at "subscriptTail Name Constant ref int") => `(tactic| k_extra "subscriptTail Name Constant ref int")
local macro_rules | `(tactic| walk_at "binaryOp Mult int int") => `(tactic| k_extra "binaryOp Mult int int")
local macro_rules | `(tactic| walk_at "call ref") => `(tactic| k_extra "call ref")
local macro_rules | `(tactic| walk_at "call builtin:len") => `(tactic| k_extra "call builtin:len")
local macro_rules | `(tactic| walk_at "subscriptTail Name Call ref int") => `(tactic| k_extra "subscriptTail Name Call ref int")
local macro_rules | `(tactic| walk_at "binaryOp Add ref ref") => `(tactic| k_extra "binaryOp Add ref ref")
local macro_rules | `(tactic| walk_at "TbPost") => `(tactic| k_extra "TbPost")
local macro_rules | `(tactic| walk_at "exec For Name Call cons nil") => `(tactic| k_extra "exec For Name Call cons nil")
local macro_rules | `(tactic| walk_at "pyIter ref") => `(tactic| k_extra "pyIter ref")
local macro_rules | `(tactic| walk_at "subscriptTail Call Name cons nil Constant ref int") => `(tactic| k_extra "subscriptTail Call Name cons nil Constant ref int")
local macro_rules | `(tactic| walk_at "exec Assign cons ListComp") => `(tactic| k_extra "exec Assign cons ListComp")
local macro_rules | `(tactic| walk_at "eval ListComp") => `(tactic| k_extra "eval ListComp")
local macro_rules | `(tactic| walk_at "DSrc") => `(tactic| k_extra "DSrc")
local macro_rules | `(tactic| walk_at "call type:tuple") => `(tactic| k_extra "call type:tuple")
local macro_rules | `(tactic| walk_at "SrcLP") => `(tactic| k_extra "SrcLP")
local macro_rules | `(tactic| walk_at "CompEnd") => `(tactic| k_extra "CompEnd")
local macro_rules | `(tactic| walk_at "CompSrc") => `(tactic| k_extra "CompSrc")
local macro_rules | `(tactic| walk_at "exec For Name Name cons nil") => `(tactic| k_extra "exec For Name Name cons nil")
local macro_rules | `(tactic| walk_at "call builtin:list.extend") => `(tactic| k_extra "call builtin:list.extend")
local macro_rules | `(tactic| walk_at "TupSrc") => `(tactic| k_extra "TupSrc")
local macro_rules | `(tactic| walk_at "compareOp NotEq ref ref") => `(tactic| k_extra "compareOp NotEq ref ref")
local macro_rules | `(tactic| walk_at "LpEnd") => `(tactic| k_extra "LpEnd")
local macro_rules | `(tactic| walk_at "exec For Tuple Name cons nil") => `(tactic| k_extra "exec For Tuple Name cons nil")
local macro_rules | `(tactic| walk_at "CompSrcT") => `(tactic| k_extra "CompSrcT")
local macro_rules | `(tactic| walk_at "exec For Tuple Call cons nil") => `(tactic| k_extra "exec For Tuple Call cons nil")
-- Pre
def Held (P : Prop) : Prop := P
theorem Held.mk {P : Prop} (h : Held P) : P := h
theorem Held.out {P : Prop} (h : P) : Held P := h
section
variable {prog : Program} {w : World} {A : Around} {E : Value → Shared → Prop} {s : Shared} {h₀ : Heap} {L D : Addr} {m : Str → Option Value} {news news' : List (Addr × Obj)}

theorem set_two {vs ws : List Value} {n : Nat} {k : Int} {t : Tok} {v : Value} {Q : Unit → Shared → Prop} (F : Fr h₀ L s.heap m) (N : News h₀ L s.heap news)
    (U : Upd D (listOf vs.toArray n) (listOf ws.toArray n) news news') (h0 : 0 ≤ k) (h1 : k < vs.length) (hfit : k < 2 ^ 63) (hw : vs.set k.toNat v = ws)
    (h : ∀ h', Fr h₀ L h' m → News h₀ L h' news' → Q () { s with heap := h' }) :
    wpAny (model prog w) A (setItem (.ref D) (.int k t) v) Q E s := by
  obtain ⟨pre, post, rfl, rfl, a, b⟩ := U.split
  have z := N (D, listOf vs.toArray n) (List.mem_append.mpr (.inr (.head _)))
  have hs : vs.toArray.size = vs.length := by simp
  refine ki_setAt z.1 h0 hfit (by omega) (h _ (F.change (Heap.SameBut.update ..) z.2.1 z.2.2) (ki_turn _ N a b ?_ ?_))
  · subst hw
    show vs.toArray.setIfInBounds k.toNat v = (vs.set k.toNat v).toArray
    apply Array.toList_inj.mp
    simp
  · subst hw
    simp
theorem sub_list {value slice : PySem.Expr} {vs : List Value} {n : Nat} {k : Int} {u : Tok} {v : Value} {Q : Value → Shared → Prop} (N : News h₀ L s.heap news) (hm : (D, listOf vs.toArray n) ∈ news) (h0 : 0 ≤ k) (hfit : k < 2 ^ 63) (hx : vs[k.toNat]? = some v) (h : Q v s)
    (hs : subscripted slice false (.ref D) (.int k u) = operate [.ref D, .int k u] (getItem (.ref D) (.int k u)) := by with_unfolding_all rfl) :
    wpAny (model prog w) A (subscriptTail value slice (.ref D) (.int k u)) Q E s := by
  have hl : s.heap.IsList D vs.toArray := ⟨_, (N _ hm).1, rfl, n, rfl⟩
  exact tail_any hl.typeIs slot_list_getitem.lookup (wpAny_getItem_list hl h0 hfit (by simpa using hx) h) hs
theorem mul_fm (a b : Int) : IntMulOk (a.fmod 2147483647) b := by
  have h1 := Int.fmod_nonneg_of_pos a (b := 2147483647) (by decide)
  have h2 := Int.fmod_lt_of_pos a (b := 2147483647) (by decide)
  exact IntMulOk.of_left (intBits_le_64 (by omega) (by omega))
theorem mul_st {a b : Int} (h : 0 ≤ a ∧ a < 2147483647) : IntMulOk a b := IntMulOk.of_left (intBits_le_64 (by omega) (by omega))
theorem fm_lo {a b : Int} (h : 0 < b) : 0 ≤ a.fmod b := Int.fmod_nonneg_of_pos a h
theorem fm_hi {a b : Int} (h : 0 < b) : a.fmod b < b := Int.fmod_lt_of_pos a h
theorem fd_lo {a b : Int} (h : 0 ≤ a) (hb : 0 < b) : 0 ≤ a.fdiv b := by
  rw [Int.fdiv_eq_ediv_of_nonneg _ (Int.le_of_lt hb)]; exact Int.ediv_nonneg h (Int.le_of_lt hb)
theorem fm_31 (a : Int) : 0 ≤ a.fmod 2147483647 ∧ a.fmod 2147483647 < 2147483647 := ⟨fm_lo (by decide), fm_hi (by decide)⟩
inductive Pick (a : Addr × Obj) : List (Addr × Obj) → List (Addr × Obj) → Prop
  | here {r} : Pick a r (a :: r)
  | skip {e r l} : Pick a r l → Pick a (e :: r) (e :: l)
theorem Pick.sub {a : Addr × Obj} {r l : List (Addr × Obj)} (P : Pick a r l) : ∀ p ∈ a :: r, p ∈ l := by
  induction P with
  | here => exact fun _ h => h
  | skip _ ih =>
    intro p hp
    rcases List.mem_cons.mp hp with rfl | hp
    · exact .tail _ (ih _ (.head _))
    · rcases List.mem_cons.mp hp with rfl | hp
      · exact .head _
      · exact .tail _ (ih _ (.tail _ hp))
theorem news_pick {h : Heap} {a : Addr × Obj} {r l : List (Addr × Obj)} (N : News h₀ L h l) (P : Pick a r l) : News h₀ L h (a :: r) := fun p hp => N p (P.sub p hp)
theorem len_any {vs : List Value} {n : Nat} {Q : Value → Shared → Prop} (N : News h₀ L s.heap news) (hm : (D, listOf vs.toArray n) ∈ news) (hfit : vs.length ≤ 256)
    (h : Q (.int (vs.length : Int) (s.toks + 1)) { s with toks := s.toks + 1 + 1 }) : wpAny (model prog w) A (call (.builtin "len") [.ref D]) Q E s := by
  have hl : s.heap.IsList D vs.toArray := ⟨_, (N _ hm).1, rfl, n, rfl⟩
  have e : vs.toArray.size = vs.length := by simp
  exact len_list hl (by rw [e]; omega) (by rw [e]; exact h)
abbrev tupOf (its : Array Value) (n : Nat) : Obj := { cls := .type "tuple", data := .seq its n }
theorem allLt_app {d : Addr} : ∀ {a b : List (Addr × Obj)}, AllLt d (a ++ b) ↔ AllLt d a ∧ AllLt d b
  | [], b => by simp [AllLt]
  | p :: a, b => by
    have e := allLt_app (d := d) (a := a) (b := b)
    simp only [List.cons_append, AllLt, e, and_assoc]
theorem allLt_mem {d : Addr} {l : List (Addr × Obj)} (h : AllLt d l) : ∀ p ∈ l, p.1 < d := tb_ltOf h
def Abv (S : Addr) (imm tl : List (Addr × Obj)) : Prop := ∀ q ∈ tl, q.1 ≠ S ∧ ∀ r ∈ imm, q.1 ≠ r.1
theorem Abv.nil {S : Addr} {imm : List (Addr × Obj)} : Abv S imm [] := fun _ h => nomatch h
theorem Abv.app {S : Addr} {imm a b : List (Addr × Obj)} (h : Abv S imm a) (k : Abv S imm b) : Abv S imm (a ++ b) := by
  intro q hq
  rcases List.mem_append.mp hq with hq | hq
  · exact h q hq
  · exact k q hq
theorem Abv.mono {S : Addr} {imm im' a : List (Addr × Obj)} (h : Abv S imm a) (k : ∀ p ∈ im', p ∈ imm) : Abv S im' a := fun q hq => ⟨(h q hq).1, fun r hr => (h q hq).2 r (k r hr)⟩
theorem Abv.ne {S : Addr} {imm tl : List (Addr × Obj)} (h : Abv S imm tl) : ∀ p ∈ tl, p.1 ≠ S := fun p hp => (h p hp).1
theorem ne_app {S : Addr} {a b : List (Addr × Obj)} (h : ∀ p ∈ a, p.1 ≠ S) (k : ∀ p ∈ b, p.1 ≠ S) : ∀ p ∈ a ++ b, p.1 ≠ S := fun p hp => (List.mem_append.mp hp).elim (h p) (k p)
theorem add_dl {a b : Addr} {va vb : List Value} {na nb : Nat} {Q : Value → Shared → Prop} (F : Fr h₀ L s.heap m) (N : News h₀ L s.heap news) (ha : (a, (listOf va.toArray na : Obj)) ∈ news) (hb : (b, (listOf vb.toArray nb : Obj)) ∈ news)
    (hz : va.length + vb.length ≤ 10000)
    (h : ∀ D h', Fr h₀ L h' m → News h₀ L h' ((D, listOf (va ++ vb).toArray 0) :: news) → (∀ p ∈ news, p.1 < D) → Q (.ref D) { s with heap := h' }) :
    wpAny (model prog w) A (binaryOp .Add (.ref a) (.ref b)) Q E s :=
  add_lists F N (News.isList N ha) (News.isList N hb) (fun h' F' N' => h _ h' F' N' fun p hp => Heap.lt_size (N p hp).1) (by rw [sizeLine_eq]; omega)
theorem add_dt {a b : Addr} {va vb : List Value} {na nb : Nat} {Q : Value → Shared → Prop} (F : Fr h₀ L s.heap m) (N : News h₀ L s.heap news) (ha : (a, tupOf va.toArray na) ∈ news) (hb : (b, tupOf vb.toArray nb) ∈ news)
    (hz : va.length + vb.length ≤ 10000) (hv : vb ≠ [])
    (h0 : va = [] → Q (.ref b) s)
    (h : va ≠ [] → ∀ D h', Fr h₀ L h' m → News h₀ L h' ((D, tupOf (va ++ vb).toArray 0) :: news) → (∀ p ∈ news, p.1 < D) → Q (.ref D) { s with heap := h' }) :
    wpAny (model prog w) A (binaryOp .Add (.ref a) (.ref b)) Q E s :=
  add_tuples F N (News.isTup N ha) (News.isTup N hb) h0 (fun _ e => absurd e hv) (fun h1 _ h' F' N' => h h1 _ h' F' N' fun p hp => Heap.lt_size (N p hp).1) (by rw [sizeLine_eq]; omega)
theorem sub_tup {value slice : PySem.Expr} {vs : List Value} {n : Nat} {k : Int} {u : Tok} {v : Value} {Q : Value → Shared → Prop} (N : News h₀ L s.heap news) (hm : (D, tupOf vs.toArray n) ∈ news) (h0 : 0 ≤ k) (h1 : k < vs.length) (hfit : k < 2 ^ 63) (hx : vs[k.toNat]? = some v) (h : Q v s)
    (hs : subscripted slice false (.ref D) (.int k u) = operate [.ref D, .int k u] (getItem (.ref D) (.int k u)) := by with_unfolding_all rfl) :
    wpAny (model prog w) A (subscriptTail value slice (.ref D) (.int k u)) Q E s :=
  item_tupleT (News.isTup N hm) (by omega) hfit (by
    have e : (if k < 0 then k + (vs.length : Int) else k) = k := if_neg (by omega)
    unfold seqIndex?
    simp only [e]
    rw [if_pos (by simp only [Bool.and_eq_true, decide_eq_true_eq]; exact ⟨h0, h1⟩)]) hx h hs
def Abv1 (S : Addr) (imm : List (Addr × Obj)) (d : Addr) : Prop := d ≠ S ∧ ∀ r ∈ imm, d ≠ r.1
theorem Abv1.of {S d : Addr} {o : Obj} {imm na : List (Addr × Obj)} (raw : ∀ p ∈ na, p.1 < d) (h1 : (S, o) ∈ na) (h2 : ∀ p ∈ imm, p ∈ na) : Abv1 S imm d := ⟨Nat.ne_of_gt (raw _ h1), fun r hr => Nat.ne_of_gt (raw r (h2 r hr))⟩
theorem Abv1.ofNe {S d : Addr} {o : Obj} {imm na : List (Addr × Obj)} (raw : ∀ p ∈ na, p.1 ≠ d) (h1 : (S, o) ∈ na) (h2 : ∀ p ∈ imm, p ∈ na) : Abv1 S imm d := ⟨fun e => raw _ h1 e.symm, fun r hr e => raw r (h2 r hr) e.symm⟩
theorem off1_mem {D : Addr} : ∀ {l : List (Addr × Obj)}, LCg.Off1 D l → ∀ p ∈ l, p.1 ≠ D
  | [], _, _, h => nomatch h
  | _ :: _, x, p, h => by
    rcases List.mem_cons.mp h with rfl | h
    · exact x.1
    · exact off1_mem x.2 p h
theorem Abv.cons1 {S d : Addr} {o : Obj} {imm tl : List (Addr × Obj)} (h1 : Abv1 S imm d) (h : Abv S imm tl) : Abv S imm ((d, o) :: tl) := by
  intro q hq
  rcases List.mem_cons.mp hq with rfl | hq
  · exact h1
  · exact h q hq
theorem memL {α : Type} {a : α} {as bs : List α} (h : List.Mem a as) : List.Mem a (as ++ bs) := List.mem_append_left _ h
theorem memR {α : Type} {a : α} {as bs : List α} (h : List.Mem a bs) : List.Mem a (as ++ bs) := List.mem_append_right _ h
theorem four {i : Nat} (h : i < 4) : i = 0 ∨ i = 1 ∨ i = 2 ∨ i = 3 := by omega
theorem three {i : Nat} (h : i < 3) : i = 0 ∨ i = 1 ∨ i = 2 := by omega
theorem two {i : Nat} (h : i < 2) : i = 0 ∨ i = 1 := by omega
theorem take_snoc1 {α : Type} {l : List α} {i : Nat} {o : α} (h : l[i]? = some o) : l.take (i + 1) = l.take i ++ [o] := by
  rw [List.take_add_one, h]; rfl
inductive Cut (imm : List (Addr × Obj)) : List (Addr × Obj) → List (Addr × Obj) → Prop
  | here : Cut imm [] imm
  | cons {e t r} : Cut imm t r → Cut imm (e :: t) (e :: r)
  | app {t r u} : Cut imm t r → Cut imm (t ++ u) (r ++ u)
theorem Cut.app0 {imm u : List (Addr × Obj)} : Cut imm u (imm ++ u) := by
  have := Cut.app (u := u) (Cut.here (imm := imm))
  rw [List.nil_append] at this
  exact this
theorem Cut.sub {imm t r : List (Addr × Obj)} (C : Cut imm t r) : ∀ p ∈ imm ++ t, p ∈ r := by
  induction C with
  | here => intro p hp; simpa using hp
  | cons _ ih =>
    intro p hp
    rcases List.mem_append.mp hp with hp | hp
    · exact .tail _ (ih p (List.mem_append_left _ hp))
    · rcases List.mem_cons.mp hp with rfl | hp
      · exact .head _
      · exact .tail _ (ih p (List.mem_append_right _ hp))
  | app _ ih =>
    intro p hp
    rcases List.mem_append.mp hp with hp | hp
    · exact List.mem_append_left _ (ih p (List.mem_append_left _ hp))
    · rcases List.mem_append.mp hp with hp | hp
      · exact List.mem_append_left _ (ih p (List.mem_append_right _ hp))
      · exact List.mem_append_right _ hp
theorem fin_cut {h : Heap} {a : Addr × Obj} {imm t r : List (Addr × Obj)} (N : News h₀ L h (a :: r)) (C : Cut imm t r) : News h₀ L h (a :: (imm ++ t)) := by
  intro p hp
  rcases List.mem_cons.mp hp with rfl | hp
  · exact N _ (.head _)
  · exact N _ (.tail _ (C.sub p hp))
theorem fin_cut0 {h : Heap} {imm t r : List (Addr × Obj)} (N : News h₀ L h r) (C : Cut imm t r) : News h₀ L h (imm ++ t) := fun p hp => N _ (C.sub p hp)
theorem tup_of {vs : List Value} {n : Nat} {Q : Value → Shared → Prop} (F : Fr h₀ L s.heap m) (N : News h₀ L s.heap news) (hm : (D, (listOf vs.toArray n : Obj)) ∈ news) (hz : vs.length ≤ 10000)
    (h : ∀ T h', Fr h₀ L h' m → News h₀ L h' ((T, tupOf vs.toArray 0) :: news) → (∀ p ∈ news, p.1 < T) → Q (.ref T) { s with heap := h' }) : wpAny (model prog w) A (call (.type "tuple") [.ref D]) Q E s :=
  kde_tupleOf F N (News.isList N hm) (by rw [List.size_toArray]; omega) (by simp) h
def Abw (news tl : List (Addr × Obj)) : Prop := ∀ q ∈ tl, ∀ p ∈ news, q.1 ≠ p.1
theorem Abw.nil {na : List (Addr × Obj)} : Abw na [] := fun _ h => nomatch h
theorem Abw.app {na a b : List (Addr × Obj)} (h : Abw na a) (k : Abw na b) : Abw na (a ++ b) := fun q hq => (List.mem_append.mp hq).elim (h q) (k q)
theorem Abw.mono {na na' a : List (Addr × Obj)} (h : Abw na a) (k : ∀ p ∈ na', p ∈ na) : Abw na' a := fun q hq p hp => h q hq p (k p hp)
theorem Abw.cons {na na' tl : List (Addr × Obj)} {d : Addr} {o : Obj} (raw : ∀ p ∈ na', p.1 < d) (k : ∀ p ∈ na, p ∈ na') (h : Abw na tl) : Abw na ((d, o) :: tl) := by
  intro q hq p hp
  rcases List.mem_cons.mp hq with rfl | hq
  · exact Nat.ne_of_gt (raw p (k p hp))
  · exact h q hq p hp
theorem Abw.consNe {na na' tl : List (Addr × Obj)} {d : Addr} {o : Obj} (raw : ∀ p ∈ na', p.1 ≠ d) (k : ∀ p ∈ na, p ∈ na') (h : Abw na tl) : Abw na ((d, o) :: tl) := by
  intro q hq p hp
  rcases List.mem_cons.mp hq with rfl | hq
  · exact fun e => raw p (k p hp) e.symm
  · exact h q hq p hp
theorem Abw.ne {na tl : List (Addr × Obj)} {S : Addr} {o : Obj} (h : Abw na tl) (hm : (S, o) ∈ na) : ∀ p ∈ tl, p.1 ≠ S := fun p hp => h p hp _ hm
theorem Abv.ofW {na imm tl : List (Addr × Obj)} {S : Addr} {o : Obj} (h : Abw na tl) (hm : (S, o) ∈ na) (k : ∀ p ∈ imm, p ∈ na) : Abv S imm tl := fun q hq => ⟨h q hq _ hm, fun r hr => h q hq r (k r hr)⟩
theorem ext_dl {b : Addr} {va vb : List Value} {n nb : Nat} {r : List (Addr × Obj)} {Q : Value → Shared → Prop} (F : Fr h₀ L s.heap m) (N : News h₀ L s.heap ((D, listOf va.toArray n) :: r)) (hr : ∀ p ∈ r, p.1 ≠ D)
    (hb : (b, (listOf vb.toArray nb : Obj)) ∈ (D, (listOf va.toArray n : Obj)) :: r) (hz : va.length + vb.length ≤ 10000)
    (h : ∀ n' h', Fr h₀ L h' m → News h₀ L h' ((D, listOf (va ++ vb).toArray n') :: r) → Q .none { s with heap := h' }) : wpAny (model prog w) A (call (.builtin "list.extend") [.ref D, .ref b]) Q E s := by
  have hd : ¬(!va.toArray.isEmpty && Builtin.List.listTooLong (va.toArray.size + vb.toArray.size)) = true := by
    have : Builtin.List.listTooLong (va.toArray.size + vb.toArray.size) = false := by
      simp only [List.size_toArray, Builtin.List.listTooLong, sizeLine_eq]
      simp
      omega
    rw [this]; simp
  by_cases hv : vb = []
  · subst hv
    refine kxn_extend F N hb rfl (Upd.head hr) hd (by rw [sizeLine_eq]; simp only [List.length_nil] at hz; simp; omega) (by rw [sizeLine_eq]; simp only [List.length_nil] at hz; simp; omega) fun h' F' N' => h n h' F' (by rw [List.append_nil]; exact N')
  · refine kl_extend F N hb (by simp) (by simpa using hv) (Upd.head hr) hd (by rw [sizeLine_eq]; simp; omega) (by rw [sizeLine_eq]; simp; omega) fun h' F' N' => h (n + 1) h' F' N'
theorem room_le {X c dp a b : Nat} (h : dp + b < c) (e : X = dp + a) (k : Nat.ble a b = true) : X < c := by
  subst e
  exact Nat.lt_of_le_of_lt (Nat.add_le_add_left (Nat.le_of_ble_eq_true k) dp) h
def NesI (S d : Addr) (o : Obj) (r : List (Addr × Obj)) : Prop := S < d ∧ ∀ p ∈ (d, o) :: r, p.1 ≠ S
theorem nes_base {d S : Addr} {o o' : Obj} {im : List (Addr × Obj)} (raw : ∀ p ∈ (S, o') :: im, p.1 < d) (h : ∀ p ∈ im, p.1 ≠ S) : NesI S d o im := by
  have l : S < d := raw _ (.head _)
  refine ⟨l, fun p hp => ?_⟩
  rcases List.mem_cons.mp hp with rfl | hp
  · exact Nat.ne_of_gt l
  · exact h p hp
theorem nes_step {d d' S : Addr} {o o' : Obj} {na r : List (Addr × Obj)} (raw : ∀ p ∈ (d', o') :: na, p.1 < d) (k : NesI S d' o' r) : NesI S d o ((d', o') :: r) := by
  have l : S < d := Nat.lt_trans k.1 (raw (d', o') (.head _))
  refine ⟨l, fun p hp => ?_⟩
  rcases List.mem_cons.mp hp with rfl | hp
  · exact Nat.ne_of_gt l
  · exact k.2 p hp
theorem nes_end {d S : Addr} {o : Obj} {r : List (Addr × Obj)} (k : NesI S d o r) : ∀ p ∈ (d, o) :: r, p.1 ≠ S := k.2
theorem mem_up {α : Type} {a b : List α} {x : α} (h : ∀ p ∈ a, p ∈ b) (k : x ∈ a) : x ∈ b := h x k
theorem sub_refl {α : Type} {a : List α} : ∀ p ∈ a, p ∈ a := fun _ h => h
theorem sub_nil {α : Type} {c : List α} : ∀ p ∈ ([] : List α), p ∈ c := fun _ h => nomatch h
theorem sub_cons {α : Type} {a r : List α} {e : α} (h : ∀ p ∈ a, p ∈ r) : ∀ p ∈ a, p ∈ e :: r := fun p hp => .tail _ (h p hp)
theorem sub_appL {α : Type} {a r u : List α} (h : ∀ p ∈ a, p ∈ r) : ∀ p ∈ a, p ∈ r ++ u := fun p hp => List.mem_append_left _ (h p hp)
theorem sub_appR {α : Type} {a r u : List α} (h : ∀ p ∈ a, p ∈ u) : ∀ p ∈ a, p ∈ r ++ u := fun p hp => List.mem_append_right _ (h p hp)
theorem sub_app {α : Type} {a b c : List α} (h : ∀ p ∈ a, p ∈ c) (k : ∀ p ∈ b, p ∈ c) : ∀ p ∈ a ++ b, p ∈ c := fun p hp => (List.mem_append.mp hp).elim (h p) (k p)
theorem sub_consS {α : Type} {a c : List α} {e : α} (h : e ∈ c) (k : ∀ p ∈ a, p ∈ c) : ∀ p ∈ e :: a, p ∈ c := fun p hp => (List.mem_cons.mp hp).elim (fun q => q ▸ h) (k p)
theorem sub_trans {α : Type} {a b c : List α} (h : ∀ p ∈ a, p ∈ b) (k : ∀ p ∈ b, p ∈ c) : ∀ p ∈ a, p ∈ c := fun p hp => k p (h p hp)
end
example : Challenge.rw_xm0580_01 = Challenge.rw_xm0580_01 ∧ hd.heap_39 = hd.heap_39 := by
  k_fill
  exact ⟨rfl, rfl⟩
-- Tk
theorem fill0 : Challenge.rw_xm0580_01 = Challenge.rw_xm0580_01 ∧ hd.heap_39 = hd.heap_39 := by
  k_fill
  exact ⟨rfl, rfl⟩

theorem w1 : True := by
  k_with_none
  k_with "all" => (assumption)
  k_with "setItem ref int" => ((k_here; k_dflt (refine' set_two (vs := [_, _]) (ws := [_, _]) ?k1 ?k2 ?k3 ?k4 ?k5 ?k6 ?k7 ?_; (case k1 => k_asm); (case k2 => k_asm); (case k7 => exact rfl); (case k3 => k_upd); (case k4 => decide); (case k5 => decide); (case k6 => decide); k_whole); intro h' F' N'; (try k_sweep)))
  k_with "subscriptTail Name Constant ref int" => ((k_here; k_dflt (refine' sub_list (vs := [_, _]) ?k1 ?k2 ?k3 ?k4 ?k5 ?_ ?k6; (case k1 => k_asm); (case k2 => k_mem); (case k3 => decide); (case k4 => decide); (case k5 => exact rfl); (case k6 => with_unfolding_all rfl); k_whole)))
  k_with "binaryOp Mult int int" => (((with_reducible refine mul_int ?_ ?hm); rotate_left; (first | exact mul_fm _ _ | exact mul_st (by assumption))))
  trivial
set_option maxRecDepth 100000 in
set_option maxHeartbeats 4000000 in
theorem take_ok {prog : Program} {w : World} {mean : ExcName → Option Value} {mg mb : Str → Option Value} {dp un : Nat} {gd : Option (List Code)} {cn : Str} {cs : Scope} {a : Addr} {ccd : Value} {cl : List (Str × Addr)} {outer : List Env} {A₀ : Around} {base h₀ : Heap} {L S : Addr} {m : Str → Option Value} {imm : List (Addr × Obj)} {s : Shared}
   {x y : Int} {tx ty n : Nat} {top : Int} {tt : Nat} {Q E : Value → Shared → Prop}
   (B : Below A₀ base outer h₀) (F : Fr h₀ L s.heap m) (X : (hd.heap_39 w.params).In h₀) (N : News h₀ L s.heap ((S, listOf #[.int x tx, .int y ty] n) :: imm)) (hS : ∀ p ∈ imm, p.1 ≠ S) (T : Top view (looseW view []) mean mg mb h₀) (hk : cs.kind = .function)
   (hd : dp + 10 < recursionLimit) (hu : un + 100 < cLine) (hx : 0 ≤ x) (hy : 0 ≤ y ∧ y < 2147483647) (ht : 0 < top ∧ top ≤ 256)
   (ret : ∀ r tr x' y' tx' ty' n' h' tk', Fr h₀ L h' m → News h₀ L h' ((S, listOf #[.int x' tx', .int y' ty'] n') :: imm) → 0 ≤ r → r < top → 0 ≤ x' → (0 ≤ y' ∧ y' < 2147483647) → Q (.int r tr) { s with heap := h', toks := tk' }) :
   wpAny (model prog w) (ktrTop dp un gd cn cs L a ccd cl outer) (call (.ref 73) [.ref S, .int top tt]) Q E s := by
  refine wpAny_call ?_
  k_dflt ktr_enter
  k_steps
  · exact ret _ _ _ _ _ _ _ _ _ (by k_asm) (by k_asm) (fm_lo ht.1) (fm_hi ht.1) (fd_lo hx ht.1) hy
  · exact ret _ _ _ _ _ _ _ _ _ (by k_asm) (by k_asm) (fm_lo ht.1) (fm_hi ht.1) hx (fm_31 _)
-- Poo
theorem w2 : True := by
  k_with_none
  k_with "all" => (assumption)
  k_with "mem0" => (assumption)
  k_with "mem" => (first | with_reducible exact List.mem_cons_self | ((with_reducible refine List.mem_cons_of_mem _ ?_); k_extra "mem") | with_reducible assumption | ((with_reducible refine List.mem_append_left _ ?_); k_extra "mem") | ((with_reducible refine List.mem_append_right _ ?_); k_extra "mem") | fail "no member")
  k_with "sub0" => (first | with_reducible exact sub_refl | with_reducible exact sub_nil | ((with_reducible refine sub_app ?_ ?_); (k_extra "sub0"); (k_extra "sub0")) | ((with_reducible refine sub_consS ?_ ?_); (k_extra "mem"); (k_extra "sub0")) | ((with_reducible refine sub_cons ?_); (k_extra "sub0")) | ((with_reducible refine sub_appR ?_); with_reducible exact sub_refl) | ((with_reducible refine sub_appL ?_); (k_extra "sub0")) | ((with_reducible refine sub_appR ?_); (k_extra "sub0")) | fail "no subset")
  k_with "datin" => (first | with_reducible exact DatIn.none | with_reducible exact DatIn.int _ _ | with_reducible exact DatIn.bool _ | with_reducible exact DatIn.str _ _ | ((with_reducible refine' DatIn.mono ?s9 ?d9); (case d9 => with_reducible assumption); (case s9 => k_extra "the subset")) | (refine' DatIn.tuple ?m9 ?r9; (case m9 => k_extra "mem"); (case r9 => k_extra "datall")) | (refine' DatIn.list ?m9 ?r9; (case m9 => k_extra "mem"); (case r9 => k_extra "datall")) | exact DatIn.int _ _ | exact DatIn.str _ _ | fail "no datum")
  k_with "datall" => (first | with_reducible exact DatAll.nil | ((with_reducible refine' DatAll.mono ?s9 ?d9); (case d9 => with_reducible assumption); (case s9 => k_extra "the subset")) | ((with_reducible refine DatAll.append ?_ ?_); (k_extra "datall"); (k_extra "datall")) | (refine' DatAll.cons ?_ ?_; (k_extra "datin"); (k_extra "datall")) | exact DatAll.nil | fail "no data")
  trivial
theorem pool_x (c : Int) (p : Prop) [Decidable p] : 0 ≤ (if -1 - c > c then -1 - c else c) * (if p then (1 : Int) else 0) := Int.mul_nonneg (by split <;> omega) (by split <;> decide)
section
set_option maxRecDepth 100000 in
set_option maxHeartbeats 2000000 in
theorem pool_ok {prog : Program} {w : World} {mean : ExcName → Option Value} {mg mb : Str → Option Value} {dp un : Nat} {gd : Option (List Code)} {cn : Str} {cs : Scope} {a : Addr} {ccd : Value} {cl : List (Str × Addr)} {outer : List Env} {A₀ : Around} {base h₀ : Heap} {L l : Addr} {m : Str → Option Value} {news : List (Addr × Obj)} {s : Shared} {vs : List Value} {ns : List Int}
   {Q E : Value → Shared → Prop}
   (B : Below A₀ base outer h₀) (F : Fr h₀ L s.heap m) (X : (hd.heap_39 w.params).In h₀) (N : News h₀ L s.heap news) (T : Top view (looseW view []) mean mg mb h₀) (hk : cs.kind = .function)
   (hd : dp + 20 < recursionLimit) (hu : un + 200 < cLine) (hl : base.IsList l vs.toArray) (hi : IntsAre vs ns) (hlen : ns.length ≤ 63)
   (ret : ∀ S x y tx ty n h' tk', Fr h₀ L h' m → News h₀ L h' ((S, listOf #[.int x tx, .int y ty] n) :: news) → (∀ p ∈ news, p.1 < S) → 0 ≤ x → (0 ≤ y ∧ y < 2147483647) → Q (.ref S) { s with heap := h', toks := tk' }) :
   wpAny (model prog w) (ktrTop dp un gd cn cs L a ccd cl outer) (call (.ref 66) [.ref l]) Q E s := by
  refine wpAny_call ?_
  k_dflt ktr_enter
  (rename Below _ _ _ _ => B1)
  have hl2 := stays_list B1.stays hl
  k_steps
  all_goals (
    (rename Fr _ _ _ _ => F3)
    (rename News _ _ _ _ => N3)
    exact ret _ _ _ _ _ _ _ _ F3 N3 (by assumption) (pool_x _ _) (fm_31 _))
end
-- One
section
theorem w3 : True := by
  k_with "the pick" => (first | exact Pick.here | ((with_reducible refine' Pick.skip ?p8); (case p8 => k_extra "the pick")) | fail "no pick")
  k_with "the news" => (first | k_asm | (refine' news_pick ?n9 ?p9; (case n9 => k_asm); (case p9 => k_extra "the pick")) | fail "no news")
  k_with "call ref" => ((k_here; (with_reducible show wpAny _ _ (call (Value.ref 73) _) _ _ _); k_dflt (refine' take_ok ?kB ?kF ?kX ?kN ?kS ?kT ?kk ?kd ?ku ?kx ?ky ?kt ?_; (case kB => k_asm); (case kF => k_asm); (case kX => k_asm); (case kN => k_extra "the news"); (case kS => k_all); (case kT => k_asm); (case kk => first | exact rfl | assumption); (case kd => ktr_room); (case ku => ktr_units); (case kx => first | assumption | omega); (case ky => assumption); (case kt => first | assumption | decide | omega)); intro r9 tr9 x9 y9 tx9 ty9 n9 h9 tk9 F9 N9 rlo9 rhi9 hx9 hy9; (try k_sweep)))
  k_with "call builtin:len" => ((k_here; (with_reducible show wpAny _ _ (call (Value.builtin "len") [Value.ref _]) _ _ _); k_dflt (refine' len_any ?k1 ?k2 ?k4 ?_; (case k1 => k_asm); (case k2 => k_mem); (case k4 => omega); k_whole)))
  k_with "subscriptTail Name Call ref int" => ((k_here; k_dflt (refine' sub_list ?k1 ?k2 ?k3 ?k4 ?k5 ?_ ?k6; (case k1 => k_asm); (case k2 => k_mem); (case k3 => assumption); (case k4 => omega); (case k5 => exact List.getElem?_eq_getElem (by omega)); (case k6 => with_unfolding_all rfl); k_whole)))
  trivial
set_option maxRecDepth 100000 in
set_option maxHeartbeats 4000000 in
theorem one_ok {prog : Program} {w : World} {mean : ExcName → Option Value} {mg mb : Str → Option Value} {dp un : Nat} {gd : Option (List Code)} {cn : Str} {cs : Scope} {a : Addr} {ccd : Value} {cl : List (Str × Addr)} {outer : List Env} {A₀ : Around} {base h₀ : Heap} {L S t : Addr} {m : Str → Option Value} {imm : List (Addr × Obj)} {s : Shared}
   {x y : Int} {tx ty n k : Nat} {vs : List Value} {Q E : Value → Shared → Prop}
   (B : Below A₀ base outer h₀) (F : Fr h₀ L s.heap m) (X : (hd.heap_39 w.params).In h₀) (N : News h₀ L s.heap ((S, listOf #[.int x tx, .int y ty] n) :: imm)) (hS : ∀ p ∈ imm, p.1 ≠ S) (T : Top view (looseW view []) mean mg mb h₀) (hk : cs.kind = .function)
   (hd : dp + 20 < recursionLimit) (hu : un + 200 < cLine) (hx : 0 ≤ x) (hy : 0 ≤ y ∧ y < 2147483647) (ht : (t, listOf vs.toArray k) ∈ imm) (hl : 0 < vs.length ∧ vs.length ≤ 256)
   (ret : ∀ i (hi : i < vs.length) x' y' tx' ty' n' h' tk', Fr h₀ L h' m → News h₀ L h' ((S, listOf #[.int x' tx', .int y' ty'] n') :: imm) → 0 ≤ x' → (0 ≤ y' ∧ y' < 2147483647) → Q vs[i] { s with heap := h', toks := tk' }) :
   wpAny (model prog w) (ktrTop dp un gd cn cs L a ccd cl outer) (call (.ref 80) [.ref S, .ref t]) Q E s := by
  refine wpAny_call ?_
  k_dflt ktr_enter
  k_steps
  exact ret _ _ _ _ _ _ _ _ _ (by k_asm) (by k_asm) (by assumption) (by assumption)
end
-- Dt
inductive Stp where
  | field (n : Int)
  | deref
  | index (l : Int)
  | down
def Stp.dat : Stp → Dat
  | .field n => .tuple [.str (Str.ofString "field"), .int n]
  | .deref => .tuple [.str (Str.ofString "deref")]
  | .index l => .tuple [.str (Str.ofString "index"), .int l]
  | .down => .tuple [.str (Str.ofString "downcast"), .int 1]
def Stp.loc : Stp → List Int
  | .index l => [l]
  | _ => []
structure Plc where
  loc : Int
  steps : List Stp
def Plc.dat (p : Plc) : Dat := .tuple [.int p.loc, .tuple (p.steps.map Stp.dat)]
def locs (l : List Stp) : List Int := l.flatMap Stp.loc
def Plc.locals (p : Plc) : List Int := locs p.steps
def row (p : Dat) (a b c : Str) : Dat := .tuple [p, .str a, .str b, .str c]
inductive Opd where
  | copy (p : Plc)
  | move (p : Plc)
  | const (n : Int)
def Opd.dat : Opd → Dat
  | .copy p => .tuple [.str (Str.ofString "copy"), p.dat]
  | .move p => .tuple [.str (Str.ofString "move"), p.dat]
  | .const n => .tuple [.str (Str.ofString "const"), .tuple [.str (Str.ofString "int"), .str (Str.ofString "u8")], .int n]
def Opd.rows : Opd → List Dat
  | .copy p => [row p.dat (Str.ofString "deep") (Str.ofString "read") (Str.ofString "copy")]
  | .move p => [row p.dat (Str.ofString "deep") (Str.ofString "write") (Str.ofString "move")]
  | .const _ => []
theorem inv_tup {n : List (Addr × Obj)} {v : Value} {ds : List Dat} (D : DatIn n v (.tuple ds)) : ∃ (b : Addr) (vs : List Value) (k : Nat), v = .ref b ∧ (b, tupOf vs.toArray k) ∈ n ∧ DatAll n vs ds := by
  cases D with | tuple hm r => exact ⟨_, _, _, rfl, hm, r⟩
theorem inv_tref {n : List (Addr × Obj)} {v : Value} {ds : List Dat} (D : DatIn n v (.tuple ds)) : ∃ (b : Addr), v = .ref b ∧ DatIn n (.ref b) (.tuple ds) := by
  cases D with | tuple hm r => exact ⟨_, rfl, .tuple hm r⟩
theorem inv_cons {n : List (Addr × Obj)} {vs : List Value} {d : Dat} {ds : List Dat} (D : DatAll n vs (d :: ds)) : ∃ (v : Value) (ws : List Value), vs = v :: ws ∧ DatIn n v d ∧ DatAll n ws ds := by
  cases D with | cons h r => exact ⟨_, _, rfl, h, r⟩
theorem inv_nil {n : List (Addr × Obj)} {vs : List Value} (D : DatAll n vs []) : vs = [] := by
  cases D; rfl
theorem inv_str {n : List (Addr × Obj)} {v : Value} {x : Str} (D : DatIn n v (.str x)) : ∃ t, v = .str x t := by
  cases D; exact ⟨_, rfl⟩
theorem inv_int {n : List (Addr × Obj)} {v : Value} {x : Int} (D : DatIn n v (.int x)) : ∃ t, v = .int x t := by
  cases D; exact ⟨_, rfl⟩
theorem inv_none {n : List (Addr × Obj)} {v : Value} (D : DatIn n v .none) : v = .none := by
  cases D; rfl
theorem inv_bool {n : List (Addr × Obj)} {v : Value} {x : Bool} (D : DatIn n v (.bool x)) : v = .bool x := by
  cases D; rfl
theorem inv_list {n : List (Addr × Obj)} {v : Value} {ds : List Dat} (D : DatIn n v (.list ds)) : ∃ (b : Addr) (vs : List Value) (k : Nat), v = .ref b ∧ (b, (listOf vs.toArray k : Obj)) ∈ n ∧ DatAll n vs ds := by
  cases D with | list hm r => exact ⟨_, _, _, rfl, hm, r⟩
theorem dat_at {n : List (Addr × Obj)} {ds : List Dat} : ∀ {vs : List Value}, DatAll n vs ds → ∀ {i : Nat} {v : Value}, vs[i]? = some v → ∃ d, ds[i]? = some d ∧ DatIn n v d := by
  induction ds with
  | nil =>
    intro vs D i v h
    obtain rfl := inv_nil D
    cases h
  | cons d ds ih =>
    intro vs D i v h
    obtain ⟨v0, ws, rfl, h1, h2⟩ := inv_cons D
    cases i with
    | zero =>
      cases h
      exact ⟨d, rfl, h1⟩
    | succ i => exact ih h2 h
theorem pair_open {n : List (Addr × Obj)} {v : Value} {a : Dat} {bs : List Dat} (D : DatIn n v (.tuple [a, .list bs])) : ∃ t vr w ws kt kw, v = Value.ref t ∧ (t, tupOf [vr, Value.ref w].toArray kt) ∈ n ∧ DatIn n vr a ∧ (w, (listOf ws.toArray kw : Obj)) ∈ n ∧ DatAll n ws bs := by
  obtain ⟨t, vs, k, rfl, hm, r⟩ := inv_tup D
  obtain ⟨v1, w1, rfl, d1, r1⟩ := inv_cons r
  obtain ⟨v2, w2, rfl, d2, r2⟩ := inv_cons r1
  obtain rfl := inv_nil r2
  obtain ⟨w, ws, kw, rfl, hm2, r3⟩ := inv_list d2
  exact ⟨t, v1, w, ws, k, kw, rfl, hm, d1, hm2, r3⟩
theorem map_at {α : Type} {f : α → Dat} {n : List (Addr × Obj)} {xs : List α} {vs : List Value} (D : DatAll n vs (xs.map f)) {i : Nat} {v : Value} (h : vs[i]? = some v) : ∃ x, xs[i]? = some x ∧ DatIn n v (f x) := by
  obtain ⟨d, hd, Dd⟩ := dat_at D h
  rw [List.getElem?_map] at hd
  obtain ⟨x, hx, rfl⟩ := Option.map_eq_some_iff.mp hd
  exact ⟨x, hx, Dd⟩
-- Plc
section
local macro_rules | `(tactic| k_lt $h:ident) => `(tactic| ((have raw9 := $h); clear $h))
theorem w4 : True := by
  k_with_none
  k_with "all" => (assumption)
  k_with "mem0" => (assumption)
  k_with "mem" => (first | with_reducible exact List.mem_cons_self | ((with_reducible refine List.mem_cons_of_mem _ ?_); k_extra "mem") | with_reducible assumption | ((with_reducible refine List.mem_append_left _ ?_); k_extra "mem") | ((with_reducible refine List.mem_append_right _ ?_); k_extra "mem") | fail "no member")
  k_with "sub0" => (first | with_reducible exact sub_refl | with_reducible exact sub_nil | ((with_reducible refine sub_app ?_ ?_); (k_extra "sub0"); (k_extra "sub0")) | ((with_reducible refine sub_consS ?_ ?_); (k_extra "mem"); (k_extra "sub0")) | ((with_reducible refine sub_cons ?_); (k_extra "sub0")) | ((with_reducible refine sub_appR ?_); with_reducible exact sub_refl) | ((with_reducible refine sub_appL ?_); (k_extra "sub0")) | ((with_reducible refine sub_appR ?_); (k_extra "sub0")) | fail "no subset")
  k_with "datin" => (first | with_reducible exact DatIn.none | with_reducible exact DatIn.int _ _ | with_reducible exact DatIn.bool _ | with_reducible exact DatIn.str _ _ | ((with_reducible refine' DatIn.mono ?s9 ?d9); (case d9 => with_reducible assumption); (case s9 => k_extra "the subset")) | (refine' DatIn.tuple ?m9 ?r9; (case m9 => k_extra "mem"); (case r9 => k_extra "datall")) | (refine' DatIn.list ?m9 ?r9; (case m9 => k_extra "mem"); (case r9 => k_extra "datall")) | exact DatIn.int _ _ | exact DatIn.str _ _ | fail "no datum")
  k_with "datall" => (first | with_reducible exact DatAll.nil | ((with_reducible refine' DatAll.mono ?s9 ?d9); (case d9 => with_reducible assumption); (case s9 => k_extra "the subset")) | ((with_reducible refine DatAll.append ?_ ?_); (k_extra "datall"); (k_extra "datall")) | (refine' DatAll.cons ?_ ?_; (k_extra "datin"); (k_extra "datall")) | exact DatAll.nil | fail "no data")
  k_with "the pick" => (first | exact Pick.here | ((with_reducible refine' Pick.skip ?p8); (case p8 => k_extra "the pick")) | fail "no pick")
  k_with "the news" => (first | k_asm | (refine' news_pick ?n9 ?p9; (case n9 => k_asm); (case p9 => k_extra "the pick")) | fail "no news")
  k_with "call ref" => ((k_here; (with_reducible show wpAny _ _ (call (Value.ref 73) _) _ _ _); k_dflt (refine' take_ok ?kB ?kF ?kX ?kN ?kS ?kT ?kk ?kd ?ku ?kx ?ky ?kt ?_; (case kB => k_asm); (case kF => k_asm); (case kX => k_asm); (case kN => k_extra "the news"); (case kS => k_all); (case kT => k_asm); (case kk => first | exact rfl | assumption); (case kd => ktr_room); (case ku => ktr_units); (case kx => first | assumption | omega); (case ky => assumption); (case kt => first | assumption | decide | omega)); intro r9 tr9 x9 y9 tx9 ty9 n9 h9 tk9 F9 N9 rlo9 rhi9 hx9 hy9; (try k_sweep)))
  k_with "call ref" => ((k_here; (with_reducible show wpAny _ _ (call (Value.ref 80) _) _ _ _); k_dflt (refine' one_ok ?kB ?kF ?kX ?kN ?kS ?kT ?kk ?kd ?ku ?kx ?ky ?kt ?kl ?_; (case kB => k_asm); (case kF => k_asm); (case kX => k_asm); (case kN => k_extra "the news"); (case kS => k_all); (case kT => k_asm); (case kk => first | exact rfl | assumption); (case kd => first | exact room_le (a := 21) (by with_reducible assumption) rfl rfl | ktr_room); (case ku => first | exact room_le (a := 203) (by with_reducible assumption) rfl rfl | ktr_units); (case kx => first | assumption | omega); (case ky => assumption); (case kt => k_extra "mem"); (case kl => first | assumption | exact ⟨by decide, by decide⟩ | exact ⟨Nat.lt_of_sub_eq_succ rfl, Nat.le_of_ble_eq_true rfl⟩)); intro i9 hi9 x9 y9 tx9 ty9 n9 h9 tk9 F9 N9 hx9 hy9; (try k_sweep); (first | (rcases four hi9 with e9 | e9 | e9 | e9 <;> (subst e9; (try dsimp only [List.getElem_cons_zero, List.getElem_cons_succ]))) | (rcases three hi9 with e9 | e9 | e9 <;> (subst e9; (try dsimp only [List.getElem_cons_zero, List.getElem_cons_succ]))) | (rcases two hi9 with e9 | e9 <;> (subst e9; (try dsimp only [List.getElem_cons_zero, List.getElem_cons_succ]))))))
  k_with "the subset" => (first | (k_extra "sub0") | ((refine sub_trans (by with_reducible assumption) ?_); (k_extra "sub0")) | fail "no subset")
  k_with "binaryOp Add ref ref" => ((k_here; (with_reducible show wpAny _ _ (binaryOp _ (Value.ref _) (Value.ref _)) _ _ _); k_dflt (refine' add_dl ?k1 ?k2 ?k3 ?k4 ?k5 ?_; (case k1 => k_asm); (case k2 => k_asm); (case k3 => k_extra "mem"); (case k4 => k_extra "mem"); (case k5 => k_extra "the sizes"); k_whole); intro D' h' F' N' l1; (try k_lt l1); (try k_sweep)))
  k_with "binaryOp Add ref ref" => ((k_here; (with_reducible show wpAny _ _ (binaryOp _ (Value.ref _) (Value.ref _)) _ _ _); k_dflt (refine' add_dt ?k1 ?k2 ?k3 ?k4 ?k5 ?k6 ?_ ?_; (case k1 => k_asm); (case k2 => k_asm); (case k3 => k_extra "mem"); (case k4 => k_extra "mem"); (case k5 => k_extra "the sizes"); (case k6 => exact List.cons_ne_nil _ _)); (all_goals k_whole); (iterate 1 (intro nl9)); rotate_left; (intro nl9 D' h' F' N' l1; (try k_lt l1); (try k_sweep))))
  k_with "the sizes" => (((try simp only [List.length_cons, List.length_nil]); first | omega | (simp only [List.length_append, List.length_cons, List.length_nil]; omega)))
  k_with "TbPost" => ((refine Held.mk ?_))
  k_with "mem0" => (first | ((with_reducible refine List.mem_append_left _ ?_); k_mem) | ((with_reducible refine List.mem_append_right _ ?_); k_mem) | ((with_reducible refine memL ?_); k_mem) | ((with_reducible refine memR ?_); k_mem))
  k_with "mem0" => (assumption)
  k_with "above" => (first | (refine' Abv1.ofNe ?a1 ?a2 ?a3; (case a1 => with_reducible assumption); (case a2 => k_extra "mem"); (case a3 => k_extra "the subset")) | (refine' Abv1.of ?a1 ?a2 ?a3; (case a1 => with_reducible assumption); (case a2 => k_extra "mem"); (case a3 => k_extra "the subset")) | fail "not above")
  k_with "the cut" => (first | exact Cut.here | ((with_reducible refine' Cut.cons ?c8); (case c8 => k_extra "the cut")) | ((with_reducible refine' Cut.app ?c8); (case c8 => k_extra "the cut")) | fail "no cut")
  k_with "all above" => (first |  exact Abv.nil | with_reducible assumption | ((with_reducible refine Abv.cons1 ?_ ?_); (k_extra "above"); (k_extra "all above")) | ((with_reducible refine Abv.app ?_ ?_); (k_extra "all above"); (k_extra "all above")) | ((with_reducible refine' Abv.mono ?a9 ?b9); (case a9 => with_reducible assumption); (case b9 => k_extra "the subset")) | ((with_reducible refine' Abv.ofW ?a9 ?b9 ?c9); (case a9 => with_reducible assumption); (case b9 => k_extra "mem"); (case c9 => k_extra "the subset")) | fail "not all above")
  k_with "kin" => (first | ((with_reducible refine' DatIn.mono ?s9 ?d9); (case d9 => with_reducible assumption); (case s9 => k_extra "the subset")) | fail "no datum")
  k_with "kall" => (first | ((with_reducible refine' DatAll.mono ?s9 ?d9); (case d9 => with_reducible assumption); (case s9 => k_extra "the subset")) | ((with_reducible refine DatAll.append ?_ ?_); (kqd_all); (kqd_all)) | fail "no data")
  k_with "all off" => (first | exact Abw.nil | with_reducible assumption | ((with_reducible refine' Abw.cons ?a9 ?b9 ?c9); (case a9 => with_reducible assumption); (case b9 => k_extra "the subset"); (case c9 => k_extra "all off")) | ((with_reducible refine' Abw.consNe ?a9 ?b9 ?c9); (case a9 => with_reducible assumption); (case b9 => k_extra "the subset"); (case c9 => k_extra "all off")) | ((with_reducible refine Abw.app ?_ ?_); (k_extra "all off"); (k_extra "all off")) | ((with_reducible refine' Abw.mono ?a9 ?b9); (case a9 => with_reducible assumption); (case b9 => k_extra "the subset")) | fail "not all off")
  k_with "all" => ((fail_if_success (with_reducible refine List.forall_mem_cons.mpr ⟨?_, ?_⟩)); first | ((with_reducible refine ne_app ?_ ?_); (k_all); (k_all)) | ((with_reducible refine' Abw.ne ?a9 ?b9); (case a9 => with_reducible assumption); (case b9 => k_extra "mem")) | ((with_reducible refine Abv.ne ?_); with_reducible assumption) | fail "k_all: none")
  k_with "all" => (with_reducible assumption)
  k_with "nesi" => (first | with_reducible exact nes_base (by with_reducible assumption) (by with_reducible assumption) | ((with_reducible refine nes_step (by with_reducible assumption) ?_); k_extra "nesi") | fail "nesi")
  k_with "all" => (((with_reducible refine nes_end ?_); k_extra "nesi"))
  trivial
theorem map3 {m : Str → Option Value} {x a b c : Str} {v va vb vc : Value} (h1 : m a = some va) (h2 : m b = some vb) (h3 : m c = some vc) :
    (fun y => if y = x then some v else m y) = fun y => if y = x then some v else if y = a then some va else if y = b then some vb else if y = c then some vc else m y := by
  funext y
  by_cases e1 : y = x
  · simp only [e1, if_true]
  · simp only [if_neg e1]
    by_cases e2 : y = a
    · subst e2; simp only [if_true]; exact h1
    · simp only [if_neg e2]
      by_cases e3 : y = b
      · subst e3; simp only [if_true]; exact h2
      · simp only [if_neg e3]
        by_cases e4 : y = c
        · subst e4; simp only [if_true]; exact h3
        · simp only [if_neg e4]
theorem map3' {m : Str → Option Value} {a b c : Str} {va vb vc : Value} (h1 : m a = some va) (h2 : m b = some vb) (h3 : m c = some vc) :
    m = fun y => if y = a then some va else if y = b then some vb else if y = c then some vc else m y := by
  funext y
  by_cases e2 : y = a
  · subst e2; simp only [if_true]; exact h1
  · simp only [if_neg e2]
    by_cases e3 : y = b
    · subst e3; simp only [if_true]; exact h2
    · simp only [if_neg e3]
      by_cases e4 : y = c
      · subst e4; simp only [if_true]; exact h3
      · simp only [if_neg e4]
def PlJ (S : Addr) (imm : List (Addr × Obj)) (i : Nat) (m : Str → Option Value) (nx : List (Addr × Obj)) : Prop :=
  ∃ (sts : List Stp) (x y : Int) (tx ty n : Nat) (tl : List (Addr × Obj)) (l1 l2 : Addr) (k1 k2 : Nat) (vs1 vs2 : List Value),
    nx = (S, listOf #[.int x tx, .int y ty] n) :: (imm ++ tl) ∧ Abv S imm tl ∧ 0 ≤ x ∧ (0 ≤ y ∧ y < 2147483647) ∧ m (Str.ofString "source") = some (.ref S) ∧ m (Str.ofString "steps") = some (.ref l1) ∧ m (Str.ofString "locals_met") = some (.ref l2) ∧
    (l1, tupOf vs1.toArray k1) ∈ tl ∧ (l2, (listOf vs2.toArray k2 : Obj)) ∈ tl ∧ DatAll tl vs1 (sts.map Stp.dat) ∧ DatAll tl vs2 ((locs sts).map Dat.int) ∧ vs1.length ≤ i ∧ vs2.length ≤ i
theorem plj_start {h₀ h : Heap} {L S l1 l2 : Addr} {imm news : List (Addr × Obj)} {m : Str → Option Value} {x y : Int} {tx ty n k1 k2 : Nat} (_F : Fr h₀ L h m) (N : News h₀ L h news)
    (e1 : m (Str.ofString "source") = some (.ref S)) (e2 : m (Str.ofString "steps") = some (.ref l1)) (e3 : m (Str.ofString "locals_met") = some (.ref l2))
    (hs : (S, (listOf #[.int x tx, .int y ty] n : Obj)) ∈ news) (h1 : (l1, tupOf [].toArray k1) ∈ news) (h2 : (l2, (listOf [].toArray k2 : Obj)) ∈ news) (hi : ∀ p ∈ imm, p ∈ news)
    (a1 : Abv1 S imm l1) (b1 : Abv1 S imm l2) (hx : 0 ≤ x) (hy : 0 ≤ y ∧ y < 2147483647) : ∃ news', News h₀ L h news' ∧ PlJ S imm 0 m news' := by
  refine ⟨(S, listOf #[.int x tx, .int y ty] n) :: (imm ++ [(l1, tupOf [].toArray k1), (l2, listOf [].toArray k2)]), fun p hp => N p ?_, [], x, y, tx, ty, n, [(l1, tupOf [].toArray k1), (l2, listOf [].toArray k2)], l1, l2, k1, k2, [], [], rfl, .cons1 a1 (.cons1 b1 .nil), hx, hy, e1, e2, e3, .head _, .tail _ (.head _), .nil, .nil, Nat.le_refl _, Nat.le_refl _⟩
  rcases List.mem_cons.mp hp with rfl | hp
  · exact hs
  · rcases List.mem_append.mp hp with hp | hp
    · exact hi p hp
    · rcases List.mem_cons.mp hp with rfl | hp
      · exact h1
      · rcases List.mem_cons.mp hp with rfl | hp
        · exact h2
        · cases hp
theorem nil_app {vs : List Value} {v : Value} (h : vs = []) : [v] = vs ++ [v] := by rw [h]; rfl
theorem plj_end {h₀ h' : Heap} {L S a l1 l2 : Addr} {imm news own tl : List (Addr × Obj)} {o so : Obj} {m : Str → Option Value} {x y : Int} {tx ty n k1 k2 i tk : Nat} {sts : List Stp} {vs1 vs2 ws1 ws2 us : List Value} {s₁ : Shared} {Q : Flow → Shared → Prop} (st : Stp)
    (hab : Abv S imm tl) (hoff : TbOff own ((S, o) :: (imm ++ tl))) (D1 : DatAll tl vs1 (sts.map Stp.dat)) (D2 : DatAll tl vs2 ((locs sts).map Dat.int)) (z1 : vs1.length ≤ i) (z2 : vs2.length ≤ i)
    (F : Fr h₀ L h' m) (N : News h₀ L h' news)
    (e1 : m (Str.ofString "source") = some (.ref S)) (e2 : m (Str.ofString "steps") = some (.ref l1)) (e3 : m (Str.ofString "locals_met") = some (.ref l2))
    (hs : (S, (listOf #[.int x tx, .int y ty] n : Obj)) ∈ news) (hi : ∀ p ∈ imm ++ (tl ++ own), p ∈ news)
    (h1 : (l1, tupOf ws1.toArray k1) ∈ news) (h2 : (l2, (listOf ws2.toArray k2 : Obj)) ∈ news) (w1 : ws1 = vs1 ++ [.ref a]) (w2 : ws2 = vs2 ++ us) (ha : (a, so) ∈ news)
    (aa : Abv1 S (imm ++ (tl ++ own)) a) (a1 : Abv1 S (imm ++ (tl ++ own)) l1) (a2 : Abv1 S (imm ++ (tl ++ own)) l2)
    (Ds : DatIn [(a, so)] (.ref a) (Stp.dat st)) (Du : DatAll [] us (st.loc.map Dat.int)) (hx : 0 ≤ x) (hy : 0 ≤ y ∧ y < 2147483647) :
    TbPost h₀ L (PlJ S imm (i + 1)) own s₁ Q .next { s₁ with heap := h', toks := tk } := by
  have cut : ∀ {d : Addr}, Abv1 S (imm ++ (tl ++ own)) d → Abv1 S imm d := fun h => ⟨h.1, fun r hr => h.2 r (List.mem_append_left _ hr)⟩
  have off : ∀ {d : Addr} {p : Addr × Obj}, Abv1 S (imm ++ (tl ++ own)) d → p ∈ own → p.1 ≠ d := fun h hp e => h.2 _ (List.mem_append_right _ (List.mem_append_right _ hp)) e.symm
  have hab' : Abv S imm ((a, so) :: (l1, tupOf ws1.toArray k1) :: (l2, listOf ws2.toArray k2) :: tl) := .cons1 (cut aa) (.cons1 (cut a1) (.cons1 (cut a2) hab))
  have up : ∀ p ∈ tl, p ∈ (a, so) :: (l1, tupOf ws1.toArray k1) :: (l2, (listOf ws2.toArray k2 : Obj)) :: tl := fun p hp => .tail _ (.tail _ (.tail _ hp))
  have lu : us.length ≤ 1 := by
    rw [Du.length, List.length_map]
    cases st <;> simp [Stp.loc]
  refine ⟨h', tk, m, news, (S, listOf #[.int x tx, .int y ty] n) :: (imm ++ ((a, so) :: (l1, tupOf ws1.toArray k1) :: (l2, listOf ws2.toArray k2) :: tl)), rfl, F, N, ?_, fun p hp => hi p (List.mem_append_right _ (List.mem_append_right _ hp)), ?_,
    sts ++ [st], x, y, tx, ty, n, _, l1, l2, k1, k2, ws1, ws2, rfl, hab', hx, hy, e1, e2, e3, .tail _ (.head _), .tail _ (.tail _ (.head _)), ?_, ?_, ?_, ?_⟩
  · intro p hp
    rcases List.mem_cons.mp hp with rfl | hp
    · exact hs
    · rcases List.mem_append.mp hp with hp | hp
      · exact hi p (List.mem_append_left _ hp)
      · rcases List.mem_cons.mp hp with rfl | hp
        · exact ha
        · rcases List.mem_cons.mp hp with rfl | hp
          · exact h1
          · rcases List.mem_cons.mp hp with rfl | hp
            · exact h2
            · exact hi p (List.mem_append_right _ (List.mem_append_left _ hp))
  · intro p hp q hq
    rcases List.mem_cons.mp hq with rfl | hq
    · exact hoff p hp (S, o) (.head _)
    · rcases List.mem_append.mp hq with hq | hq
      · exact hoff p hp q (.tail _ (List.mem_append_left _ hq))
      · rcases List.mem_cons.mp hq with rfl | hq
        · exact off aa hp
        · rcases List.mem_cons.mp hq with rfl | hq
          · exact off a1 hp
          · rcases List.mem_cons.mp hq with rfl | hq
            · exact off a2 hp
            · exact hoff p hp q (.tail _ (List.mem_append_right _ hq))
  · rw [List.map_append]
    have q := (D1.mono up).append (.cons (Ds.mono fun p hp => by rw [List.mem_singleton.mp hp]; exact .head _) .nil)
    rw [← w1] at q
    exact q
  · have e : locs (sts ++ [st]) = locs sts ++ st.loc := by simp [locs]
    rw [e, List.map_append]
    have q := (D2.mono up).append (Du.mono fun p hp => by cases hp)
    rw [← w2] at q
    exact q
  · rw [w1, List.length_append]; simp only [List.length_cons, List.length_nil]; omega
  · rw [w2, List.length_append]; omega
theorem fin2 {h₀ h : Heap} {L : Addr} {a b c : Addr × Obj} {imm tl : List (Addr × Obj)} (N : News h₀ L h (a :: b :: c :: (imm ++ tl))) : News h₀ L h (c :: (imm ++ (a :: b :: tl))) := by
  intro p hp
  refine N p ?_
  simp only [List.mem_cons, List.mem_append] at hp ⊢
  rcases hp with hp | hp | hp | hp | hp <;> simp only [hp, true_or, or_true]
theorem up2 {α : Type} {a b : α} {tl : List α} : ∀ p ∈ tl, p ∈ a :: b :: tl := fun _ hp => .tail _ (.tail _ hp)
section
theorem w5 : True := by
  k_with "exec For Name Call cons nil" => ((k_here; (rename Fr _ _ _ _ => lF'); (with_unfolding_all refine' For_invVF lF' ?k1 ?k2 ?_; (case k1 => exact rfl); (case k2 => exact rfl); k_whole)))
  k_with "pyIter ref" => ((refine Held.mk ?_))
  trivial
set_option maxRecDepth 100000 in
set_option maxHeartbeats 4000000 in
theorem place_ok {prog : Program} {w : World} {mean : ExcName → Option Value} {mg mb : Str → Option Value} {dp un : Nat} {gd : Option (List Code)} {cn : Str} {cs : Scope} {a : Addr} {ccd : Value} {cl : List (Str × Addr)} {outer : List Env} {A₀ : Around} {base h₀ : Heap} {L S : Addr} {m : Str → Option Value} {imm : List (Addr × Obj)} {s : Shared}
   {x y : Int} {tx ty n : Nat} {Q E : Value → Shared → Prop}
   (B : Below A₀ base outer h₀) (F : Fr h₀ L s.heap m) (X : (hd.heap_39 w.params).In h₀) (N : News h₀ L s.heap ((S, listOf #[.int x tx, .int y ty] n) :: imm)) (hS : ∀ p ∈ imm, p.1 ≠ S) (T : Top view (looseW view []) mean mg mb h₀) (hk : cs.kind = .function)
   (hd : dp + 30 < recursionLimit) (hu : un + 300 < cLine) (hx : 0 ≤ x) (hy : 0 ≤ y ∧ y < 2147483647)
   (ret : ∀ p v tl x' y' tx' ty' n' h' tk', Fr h₀ L h' m → News h₀ L h' ((S, listOf #[.int x' tx', .int y' ty'] n') :: (imm ++ tl)) → Abv S imm tl → 0 ≤ x' → (0 ≤ y' ∧ y' < 2147483647) → p.steps.length ≤ 10 →
     DatIn tl v (.tuple [Plc.dat p, .list (p.locals.map .int)]) → Q v { s with heap := h', toks := tk' }) :
   wpAny (model prog w) (ktrTop dp un gd cn cs L a ccd cl outer) (call (.ref 87) [.ref S]) Q E s := by
  refine wpAny_call ?_
  k_dflt ktr_enter
  k_steps
  refine Held.out ?_
  (rename Fr _ _ _ _ => F1)
  (rename News _ _ _ _ => N1)
  (rename IsRange _ _ _ _ _ _ _ _ => R1)
  obtain ⟨nw, Nw, Jw⟩ := plj_start (imm := imm) F1 N1 (by exact rfl) (by exact rfl) (by exact rfl) (by k_mem) (by k_mem) (by k_mem) (by k_extra "the subset") (by k_extra "above") (by k_extra "above") (by assumption) (by assumption)
  refine tbr_invG (PlJ S imm) rfl R1 (small_one (by omega) (by omega) (by omega) (by omega)) (rangeSize_nat _ _) F1 Nw Jw ?_ ?_
  · clear F1 N1 Nw Jw R1
    rintro i k t m₁ nx h tk own hk9 hoff ⟨sts, x, y, tx, ty, n, tl, l1, l2, k1, k2, vs1, vs2, rfl, hab, hx, hy, e1, e2, e3, h1, h2, D1, D2, z1, z2⟩ F2 N2
    rw [map3 e2 e3 e1] at F2
    have hi9 := (List.getElem?_eq_some_iff.mp hk9).1
    rw [rangeKs_length] at hi9
    simp only [List.cons_append, List.append_assoc] at N2
    have hS2 : ∀ p ∈ imm ++ (tl ++ own), p.1 ≠ S := ne_app hS (ne_app hab.ne fun p hp => hoff p hp _ (.head _))
    k_steps
    all_goals (refine Held.out ?_; (rename Fr _ _ _ _ => F3); (rename News _ _ _ _ => N3); first | exact plj_end (.field _) hab hoff D1 D2 z1 z2 F3 N3 (by exact rfl) (by exact rfl) (by exact rfl) (by k_mem) (by k_extra "the subset") (by k_mem) (by k_mem) (by first | exact rfl | exact nil_app ‹_›) (by exact rfl) (by k_mem) (by k_extra "above") (by k_extra "above") (by k_extra "above") (by exact .tuple (.head _) (.cons (.str _ _) (.cons (.int _ _) .nil))) (by exact .nil) (by assumption) (by assumption) | exact plj_end (.deref) hab hoff D1 D2 z1 z2 F3 N3 (by exact rfl) (by exact rfl) (by exact rfl) (by k_mem) (by k_extra "the subset") (by k_mem) (by k_mem) (by first | exact rfl | exact nil_app ‹_›) (by exact rfl) (by k_mem) (by k_extra "above") (by k_extra "above") (by k_extra "above") (by exact .tuple (.head _) (.cons (.str _ _) .nil)) (by exact .nil) (by assumption) (by assumption) | exact plj_end (.index _) hab hoff D1 D2 z1 z2 F3 N3 (by exact rfl) (by exact rfl) (by exact rfl) (by k_mem) (by k_extra "the subset") (by k_mem) (by k_mem) (by first | exact rfl | exact nil_app ‹_›) (by exact rfl) (by k_mem) (by k_extra "above") (by k_extra "above") (by k_extra "above") (by exact .tuple (.head _) (.cons (.str _ _) (.cons (.int _ _) .nil))) (by exact .cons (.int _ _) .nil) (by assumption) (by assumption) | exact plj_end (.down) hab hoff D1 D2 z1 z2 F3 N3 (by exact rfl) (by exact rfl) (by exact rfl) (by k_mem) (by k_extra "the subset") (by k_mem) (by k_mem) (by first | exact rfl | exact nil_app ‹_›) (by exact rfl) (by k_mem) (by k_extra "above") (by k_extra "above") (by k_extra "above") (by exact .tuple (.head _) (.cons (.str _ _) (.cons (.int _ _) .nil))) (by exact .nil) (by assumption) (by assumption))
  · clear F1 N1 Nw Jw R1
    rintro m₁ nx h tk ⟨sts, x, y, tx, ty, n, tl, l1, l2, k1, k2, vs1, vs2, rfl, hab, hx, hy, e1, e2, e3, h1, h2, D1, D2, z1, z2⟩ F2 N2
    rw [map3' e2 e3 e1] at F2
    have hS2 : ∀ p ∈ imm ++ tl, p.1 ≠ S := ne_app hS hab.ne
    k_steps
    (rename Fr _ _ _ _ => F3)
    (rename News _ _ _ _ => N3)
    exact ret ⟨_, sts⟩ _ _ _ _ _ _ _ _ _ F3 (fin2 N3) (.cons1 (by k_extra "above") (.cons1 (by k_extra "above") hab)) (by assumption) (by assumption) (by have q := D1.length; rw [List.length_map] at q; show sts.length ≤ 10; omega)
      (.tuple (.head _) (.cons (.tuple (.tail _ (.head _)) (.cons (.int _ _) (.cons (.tuple (up2 _ h1) (D1.mono up2)) .nil))) (.cons (.list (up2 _ h2) (D2.mono up2)) .nil)))
end
theorem place_use {prog : Program} {w : World} {mean : ExcName → Option Value} {mg mb : Str → Option Value} {dp un : Nat} {gd : Option (List Code)} {cn : Str} {cs : Scope} {a : Addr} {ccd : Value} {cl : List (Str × Addr)} {outer : List Env} {A₀ : Around} {base h₀ : Heap} {L S : Addr} {m : Str → Option Value} {imm : List (Addr × Obj)} {s : Shared}
   {x y : Int} {tx ty n : Nat} {Q E : Value → Shared → Prop}
   (B : Below A₀ base outer h₀) (F : Fr h₀ L s.heap m) (X : (hd.heap_39 w.params).In h₀) (N : News h₀ L s.heap ((S, listOf #[.int x tx, .int y ty] n) :: imm)) (hS : ∀ p ∈ imm, p.1 ≠ S) (T : Top view (looseW view []) mean mg mb h₀) (hk : cs.kind = .function)
   (hd : dp + 30 < recursionLimit) (hu : un + 300 < cLine) (hx : 0 ≤ x) (hy : 0 ≤ y ∧ y < 2147483647)
   (ret : ∀ p v v' a k tl x' y' tx' ty' n' h' tk', Fr h₀ L h' m → News h₀ L h' ((S, listOf #[.int x' tx', .int y' ty'] n') :: (imm ++ tl)) → (∀ p ∈ imm ++ tl, p.1 ≠ S) → Abv S imm tl → 0 ≤ x' → (0 ≤ y' ∧ y' < 2147483647) → p.steps.length ≤ 10 →
     (a, tupOf [v, v'].toArray k) ∈ tl → DatIn tl v (Plc.dat p) → DatIn tl v' (.list (p.locals.map .int)) → Q (.ref a) { s with heap := h', toks := tk' }) :
   wpAny (model prog w) (ktrTop dp un gd cn cs L a ccd cl outer) (call (.ref 87) [.ref S]) Q E s :=
  place_ok B F X N hS T hk hd hu hx hy fun p v tl x' y' tx' ty' n' h' tk' F' N' ab hx' hy' hlp D => by
    cases D with
    | tuple hm r => cases r with
      | cons d1 r => cases r with
        | cons d2 r => cases r with
          | nil => exact ret _ _ _ _ _ _ _ _ _ _ _ _ _ F' N' (ne_app hS ab.ne) ab hx' hy' hlp hm d1 d2
end
-- Opd
section
local macro_rules | `(tactic| k_lt $h:ident) => `(tactic| ((have raw9 := $h); replace $h := allLt_of $h; simp only [AllLt, allLt_app, and_assoc, and_true] at $h:ident))
section
theorem w6 : True := by
  k_with_none
  k_with "all" => (assumption)
  k_with "mem0" => (assumption)
  k_with "mem" => (first | with_reducible exact List.mem_cons_self | ((with_reducible refine List.mem_cons_of_mem _ ?_); k_extra "mem") | with_reducible assumption | ((with_reducible refine List.mem_append_left _ ?_); k_extra "mem") | ((with_reducible refine List.mem_append_right _ ?_); k_extra "mem") | fail "no member")
  k_with "sub0" => (first | with_reducible exact sub_refl | with_reducible exact sub_nil | ((with_reducible refine sub_app ?_ ?_); (k_extra "sub0"); (k_extra "sub0")) | ((with_reducible refine sub_consS ?_ ?_); (k_extra "mem"); (k_extra "sub0")) | ((with_reducible refine sub_cons ?_); (k_extra "sub0")) | ((with_reducible refine sub_appR ?_); with_reducible exact sub_refl) | ((with_reducible refine sub_appL ?_); (k_extra "sub0")) | ((with_reducible refine sub_appR ?_); (k_extra "sub0")) | fail "no subset")
  k_with "datin" => (first | with_reducible exact DatIn.none | with_reducible exact DatIn.int _ _ | with_reducible exact DatIn.bool _ | with_reducible exact DatIn.str _ _ | ((with_reducible refine' DatIn.mono ?s9 ?d9); (case d9 => with_reducible assumption); (case s9 => k_extra "the subset")) | (refine' DatIn.tuple ?m9 ?r9; (case m9 => k_extra "mem"); (case r9 => k_extra "datall")) | (refine' DatIn.list ?m9 ?r9; (case m9 => k_extra "mem"); (case r9 => k_extra "datall")) | exact DatIn.int _ _ | exact DatIn.str _ _ | fail "no datum")
  k_with "datall" => (first | with_reducible exact DatAll.nil | ((with_reducible refine' DatAll.mono ?s9 ?d9); (case d9 => with_reducible assumption); (case s9 => k_extra "the subset")) | ((with_reducible refine DatAll.append ?_ ?_); (k_extra "datall"); (k_extra "datall")) | (refine' DatAll.cons ?_ ?_; (k_extra "datin"); (k_extra "datall")) | exact DatAll.nil | fail "no data")
  k_with "the pick" => (first | exact Pick.here | ((with_reducible refine' Pick.skip ?p8); (case p8 => k_extra "the pick")) | fail "no pick")
  k_with "the news" => (first | k_asm | (refine' news_pick ?n9 ?p9; (case n9 => k_asm); (case p9 => k_extra "the pick")) | fail "no news")
  k_with "call ref" => ((k_here; (with_reducible show wpAny _ _ (call (Value.ref 73) _) _ _ _); k_dflt (refine' take_ok ?kB ?kF ?kX ?kN ?kS ?kT ?kk ?kd ?ku ?kx ?ky ?kt ?_; (case kB => k_asm); (case kF => k_asm); (case kX => k_asm); (case kN => k_extra "the news"); (case kS => k_all); (case kT => k_asm); (case kk => first | exact rfl | assumption); (case kd => ktr_room); (case ku => ktr_units); (case kx => first | assumption | omega); (case ky => assumption); (case kt => first | assumption | decide | omega)); intro r9 tr9 x9 y9 tx9 ty9 n9 h9 tk9 F9 N9 rlo9 rhi9 hx9 hy9; (try k_sweep)))
  k_with "call ref" => ((k_here; (with_reducible show wpAny _ _ (call (Value.ref 80) _) _ _ _); k_dflt (refine' one_ok ?kB ?kF ?kX ?kN ?kS ?kT ?kk ?kd ?ku ?kx ?ky ?kt ?kl ?_; (case kB => k_asm); (case kF => k_asm); (case kX => k_asm); (case kN => k_extra "the news"); (case kS => k_all); (case kT => k_asm); (case kk => first | exact rfl | assumption); (case kd => first | exact room_le (a := 21) (by with_reducible assumption) rfl rfl | ktr_room); (case ku => first | exact room_le (a := 203) (by with_reducible assumption) rfl rfl | ktr_units); (case kx => first | assumption | omega); (case ky => assumption); (case kt => k_extra "mem"); (case kl => first | assumption | exact ⟨by decide, by decide⟩ | exact ⟨Nat.lt_of_sub_eq_succ rfl, Nat.le_of_ble_eq_true rfl⟩)); intro i9 hi9 x9 y9 tx9 ty9 n9 h9 tk9 F9 N9 hx9 hy9; (try k_sweep); (first | (rcases four hi9 with e9 | e9 | e9 | e9 <;> (subst e9; (try dsimp only [List.getElem_cons_zero, List.getElem_cons_succ]))) | (rcases three hi9 with e9 | e9 | e9 <;> (subst e9; (try dsimp only [List.getElem_cons_zero, List.getElem_cons_succ]))) | (rcases two hi9 with e9 | e9 <;> (subst e9; (try dsimp only [List.getElem_cons_zero, List.getElem_cons_succ]))))))
  k_with "the subset" => (first | (k_extra "sub0") | ((refine sub_trans (by with_reducible assumption) ?_); (k_extra "sub0")) | fail "no subset")
  k_with "binaryOp Add ref ref" => ((k_here; (with_reducible show wpAny _ _ (binaryOp _ (Value.ref _) (Value.ref _)) _ _ _); k_dflt (refine' add_dl ?k1 ?k2 ?k3 ?k4 ?k5 ?_; (case k1 => k_asm); (case k2 => k_asm); (case k3 => k_extra "mem"); (case k4 => k_extra "mem"); (case k5 => k_extra "the sizes"); k_whole); intro D' h' F' N' l1; (try k_lt l1); (try k_sweep)))
  k_with "binaryOp Add ref ref" => ((k_here; (with_reducible show wpAny _ _ (binaryOp _ (Value.ref _) (Value.ref _)) _ _ _); k_dflt (refine' add_dt ?k1 ?k2 ?k3 ?k4 ?k5 ?k6 ?_ ?_; (case k1 => k_asm); (case k2 => k_asm); (case k3 => k_extra "mem"); (case k4 => k_extra "mem"); (case k5 => k_extra "the sizes"); (case k6 => exact List.cons_ne_nil _ _)); (all_goals k_whole); (iterate 1 (intro nl9)); rotate_left; (intro nl9 D' h' F' N' l1; (try k_lt l1); (try k_sweep))))
  k_with "the sizes" => (((try simp only [List.length_cons, List.length_nil]); first | omega | (simp only [List.length_append, List.length_cons, List.length_nil]; omega)))
  k_with "TbPost" => ((refine Held.mk ?_))
  k_with "mem0" => (first | ((with_reducible refine List.mem_append_left _ ?_); k_mem) | ((with_reducible refine List.mem_append_right _ ?_); k_mem) | ((with_reducible refine memL ?_); k_mem) | ((with_reducible refine memR ?_); k_mem))
  k_with "mem0" => (assumption)
  k_with "above" => (first | (refine' Abv1.ofNe ?a1 ?a2 ?a3; (case a1 => with_reducible assumption); (case a2 => k_extra "mem"); (case a3 => k_extra "the subset")) | (refine' Abv1.of ?a1 ?a2 ?a3; (case a1 => with_reducible assumption); (case a2 => k_extra "mem"); (case a3 => k_extra "the subset")) | fail "not above")
  k_with "the cut" => (first | exact Cut.here | ((with_reducible refine' Cut.cons ?c8); (case c8 => k_extra "the cut")) | ((with_reducible refine' Cut.app ?c8); (case c8 => k_extra "the cut")) | fail "no cut")
  k_with "all above" => (first |  exact Abv.nil | with_reducible assumption | ((with_reducible refine Abv.cons1 ?_ ?_); (k_extra "above"); (k_extra "all above")) | ((with_reducible refine Abv.app ?_ ?_); (k_extra "all above"); (k_extra "all above")) | ((with_reducible refine' Abv.mono ?a9 ?b9); (case a9 => with_reducible assumption); (case b9 => k_extra "the subset")) | ((with_reducible refine' Abv.ofW ?a9 ?b9 ?c9); (case a9 => with_reducible assumption); (case b9 => k_extra "mem"); (case c9 => k_extra "the subset")) | fail "not all above")
  k_with "kin" => (first | ((with_reducible refine' DatIn.mono ?s9 ?d9); (case d9 => with_reducible assumption); (case s9 => k_extra "the subset")) | fail "no datum")
  k_with "kall" => (first | ((with_reducible refine' DatAll.mono ?s9 ?d9); (case d9 => with_reducible assumption); (case s9 => k_extra "the subset")) | ((with_reducible refine DatAll.append ?_ ?_); (kqd_all); (kqd_all)) | fail "no data")
  k_with "all off" => (first | exact Abw.nil | with_reducible assumption | ((with_reducible refine' Abw.cons ?a9 ?b9 ?c9); (case a9 => with_reducible assumption); (case b9 => k_extra "the subset"); (case c9 => k_extra "all off")) | ((with_reducible refine' Abw.consNe ?a9 ?b9 ?c9); (case a9 => with_reducible assumption); (case b9 => k_extra "the subset"); (case c9 => k_extra "all off")) | ((with_reducible refine Abw.app ?_ ?_); (k_extra "all off"); (k_extra "all off")) | ((with_reducible refine' Abw.mono ?a9 ?b9); (case a9 => with_reducible assumption); (case b9 => k_extra "the subset")) | fail "not all off")
  k_with "all" => ((fail_if_success (with_reducible refine List.forall_mem_cons.mpr ⟨?_, ?_⟩)); first | ((with_reducible refine ne_app ?_ ?_); (k_all); (k_all)) | ((with_reducible refine' Abw.ne ?a9 ?b9); (case a9 => with_reducible assumption); (case b9 => k_extra "mem")) | ((with_reducible refine Abv.ne ?_); with_reducible assumption) | fail "k_all: none")
  k_with "all" => (with_reducible assumption)
  k_with "nesi" => (first | with_reducible exact nes_base (by with_reducible assumption) (by with_reducible assumption) | ((with_reducible refine nes_step (by with_reducible assumption) ?_); k_extra "nesi") | fail "nesi")
  k_with "all" => (((with_reducible refine nes_end ?_); k_extra "nesi"))
  k_with "call ref" => ((k_here; (with_reducible show wpAny _ _ (call (Value.ref 87) _) _ _ _); k_dflt (refine' place_use ?kB ?kF ?kX ?kN ?kS ?kT ?kk ?kd ?ku ?kx ?ky ?_; (case kB => k_asm); (case kF => k_asm); (case kX => k_asm); (case kN => k_extra "the news"); (case kS => k_all); (case kT => k_asm); (case kk => first | exact rfl | assumption); (case kd => first | exact room_le (a := 31) (by with_reducible assumption) rfl rfl | ktr_room); (case ku => first | exact room_le (a := 303) (by with_reducible assumption) rfl rfl | ktr_units); (case kx => first | assumption | omega); (case ky => assumption)); intro p9 v9 w9 a9 k9 tl9 x9 y9 tx9 ty9 n9 h9 tk9 F9 N9 hS9 ab9 hx9 hy9 hlp9 hm9 Dv9 Dw9; (try k_sweep)))
  k_with "subscriptTail Call Name cons nil Constant ref int" => ((k_here; k_dflt (refine' sub_tup ?k1 ?k2 ?k3 ?k7 ?k4 ?k5 ?_ ?k6; (case k1 => k_asm); (case k2 => k_extra "mem"); (case k3 => decide); (case k7 => first | decide | exact (by simp only [List.length_cons, List.length_nil]; omega)); (case k4 => decide); (case k5 => exact rfl); (case k6 => with_unfolding_all rfl); k_whole)))
  trivial
set_option maxRecDepth 100000 in
set_option maxHeartbeats 1000000 in
theorem operand_ok {prog : Program} {w : World} {mean : ExcName → Option Value} {mg mb : Str → Option Value} {dp un : Nat} {gd : Option (List Code)} {cn : Str} {cs : Scope} {a : Addr} {ccd : Value} {cl : List (Str × Addr)} {outer : List Env} {A₀ : Around} {base h₀ : Heap} {L S : Addr} {m : Str → Option Value} {imm : List (Addr × Obj)} {s : Shared}
   {x y : Int} {tx ty n : Nat} {Q E : Value → Shared → Prop}
   (B : Below A₀ base outer h₀) (F : Fr h₀ L s.heap m) (X : (hd.heap_39 w.params).In h₀) (N : News h₀ L s.heap ((S, listOf #[.int x tx, .int y ty] n) :: imm)) (hS : ∀ p ∈ imm, p.1 ≠ S) (T : Top view (looseW view []) mean mg mb h₀) (hk : cs.kind = .function)
   (hd : dp + 40 < recursionLimit) (hu : un + 400 < cLine) (hx : 0 ≤ x) (hy : 0 ≤ y ∧ y < 2147483647)
   (ret : ∀ p v tl x' y' tx' ty' n' h' tk', Fr h₀ L h' m → News h₀ L h' ((S, listOf #[.int x' tx', .int y' ty'] n') :: (imm ++ tl)) → Abv S imm tl → 0 ≤ x' → (0 ≤ y' ∧ y' < 2147483647) →
     DatIn tl v (.tuple [Opd.dat p, .list p.rows]) → Q v { s with heap := h', toks := tk' }) :
   wpAny (model prog w) (ktrTop dp un gd cn cs L a ccd cl outer) (call (.ref 94) [.ref S]) Q E s := by
  refine wpAny_call ?_
  k_dflt ktr_enter
  k_steps
  · (rename Fr _ _ _ _ => F3)
    (rename News _ _ _ _ => N3)
    exact ret (.copy _) _ _ _ _ _ _ _ _ _ F3 (fin_cut N3 (by k_extra "the cut")) (by k_extra "all above") (by assumption) (by assumption) (by kqd_in)
  · (rename Fr _ _ _ _ => F3)
    (rename News _ _ _ _ => N3)
    exact ret (.move _) _ _ _ _ _ _ _ _ _ F3 (fin_cut N3 (by k_extra "the cut")) (by k_extra "all above") (by assumption) (by assumption) (by kqd_in)
  · (rename Fr _ _ _ _ => F3)
    (rename News _ _ _ _ => N3)
    exact ret (.const _) _ _ _ _ _ _ _ _ _ F3 (fin_cut N3 (by k_extra "the cut")) (by k_extra "all above") (by assumption) (by assumption) (by kqd_in)
end
theorem operand_use {prog : Program} {w : World} {mean : ExcName → Option Value} {mg mb : Str → Option Value} {dp un : Nat} {gd : Option (List Code)} {cn : Str} {cs : Scope} {a : Addr} {ccd : Value} {cl : List (Str × Addr)} {outer : List Env} {A₀ : Around} {base h₀ : Heap} {L S : Addr} {m : Str → Option Value} {imm : List (Addr × Obj)} {s : Shared}
   {x y : Int} {tx ty n : Nat} {Q E : Value → Shared → Prop}
   (B : Below A₀ base outer h₀) (F : Fr h₀ L s.heap m) (X : (hd.heap_39 w.params).In h₀) (N : News h₀ L s.heap ((S, listOf #[.int x tx, .int y ty] n) :: imm)) (hS : ∀ p ∈ imm, p.1 ≠ S) (T : Top view (looseW view []) mean mg mb h₀) (hk : cs.kind = .function)
   (hd : dp + 40 < recursionLimit) (hu : un + 400 < cLine) (hx : 0 ≤ x) (hy : 0 ≤ y ∧ y < 2147483647)
   (ret : ∀ p v v' a k tl x' y' tx' ty' n' h' tk', Fr h₀ L h' m → News h₀ L h' ((S, listOf #[.int x' tx', .int y' ty'] n') :: (imm ++ tl)) → (∀ p ∈ imm ++ tl, p.1 ≠ S) → Abv S imm tl → 0 ≤ x' → (0 ≤ y' ∧ y' < 2147483647) →
     (a, tupOf [v, v'].toArray k) ∈ tl → DatIn tl v (Opd.dat p) → DatIn tl v' (.list p.rows) → Q (.ref a) { s with heap := h', toks := tk' }) :
   wpAny (model prog w) (ktrTop dp un gd cn cs L a ccd cl outer) (call (.ref 94) [.ref S]) Q E s :=
  operand_ok B F X N hS T hk hd hu hx hy fun p v tl x' y' tx' ty' n' h' tk' F' N' ab hx' hy' D => by
    cases D with
    | tuple hm r => cases r with
      | cons d1 r => cases r with
        | cons d2 r => cases r with
          | nil => exact ret _ _ _ _ _ _ _ _ _ _ _ _ _ F' N' (ne_app hS ab.ne) ab hx' hy' hm d1 d2
end
-- Som
section
local macro_rules | `(tactic| k_lt $h:ident) => `(tactic| ((have raw9 := $h); replace $h := allLt_of $h; simp only [AllLt, allLt_app, and_assoc, and_true] at $h:ident))
theorem w7 : True := by
  k_with "call ref" => ((k_here; (with_reducible show wpAny _ _ (call (Value.ref 94) _) _ _ _); k_dflt (refine' operand_use ?kB ?kF ?kX ?kN ?kS ?kT ?kk ?kd ?ku ?kx ?ky ?_; (case kB => k_asm); (case kF => k_asm); (case kX => k_asm); (case kN => k_extra "the news"); (case kS => k_all); (case kT => k_asm); (case kk => first | exact rfl | assumption); (case kd => first | exact room_le (a := 41) (by with_reducible assumption) rfl rfl | ktr_room); (case ku => first | exact room_le (a := 403) (by with_reducible assumption) rfl rfl | ktr_units); (case kx => first | assumption | omega); (case ky => assumption)); intro p9 v9 w9 a9 k9 tl9 x9 y9 tx9 ty9 n9 h9 tk9 F9 N9 hS9 ab9 hx9 hy9 hm9 Dv9 Dw9; (try k_sweep)))
  trivial
theorem restU {prog : Program} {w : World} {A : Around} {h₀ : Heap} {L : Addr} {m : Str → Option Value} {env : Env} {elt : PySem.Expr} {x : Str} {scope : Scope} {cl : List (Str × Addr)} {s : Shared} {S : List (Addr × Obj) → Prop} {P : Nat → Value → Prop} {Fin : List Value → List (Addr × Obj) → Prop}
    (J : Nat → List Value → List (Addr × Obj) → Prop) (n : Nat) (fin : ∀ ys news, J n ys news → Fin ys news)
    (step : ∀ k i ys news, i + (k + 1) = n → J i ys news → (∀ ys' news', J (i + 1) ys' news' → LCg.CompRest prog w A h₀ L m env elt x scope cl s S P Fin k (i + 1) ys' news') → LCg.CompRest prog w A h₀ L m env elt x scope cl s S P Fin (k + 1) i ys news) :
    ∀ k i ys news, i + k = n → J i ys news → LCg.CompRest prog w A h₀ L m env elt x scope cl s S P Fin k i ys news := by
  intro k
  induction k with
  | zero =>
    intro i ys news hi hj
    have e : i = n := hi
    subst e
    exact LCg.CompRest.zero (fin ys news hj)
  | succ k ih => exact fun i ys news hi hj => step k i ys news hi hj fun ys' news' hj' => ih (i + 1) ys' news' (by omega) hj'
def opr (o : Opd) : Dat := .tuple [o.dat, .list o.rows]
def SoJ (S c : Addr) (o : Obj) (imm : List (Addr × Obj)) (i : Nat) (ys : List Value) (nx : List (Addr × Obj)) : Prop :=
  ∃ (os : List Opd) (x y : Int) (tx ty n : Nat) (tl : List (Addr × Obj)), nx = (S, listOf #[.int x tx, .int y ty] n) :: (c, o) :: (imm ++ tl) ∧ Abv S ((c, o) :: imm) tl ∧ 0 ≤ x ∧ (0 ≤ y ∧ y < 2147483647) ∧ DatAll tl ys (os.map opr) ∧ os.length = i
theorem so_end {h₀ h' : Heap} {L S c I C D a : Addr} {m : Str → Option Value} {o o0 oI oC : Obj} {imm tl tl9 : List (Addr × Obj)} {x y : Int} {tx ty n k9 i tk : Nat} {ys : List Value} {os : List Opd} {v9 w9 : Value} {p : Opd} {s₁ : Shared} {rest : Value → List (Addr × Obj) → Prop}
    (F : Fr h₀ L h' m) (N : News h₀ L h' ((S, listOf #[.int x tx, .int y ty] n) :: (((I, oI) :: (C, oC) :: (D, LCg.lst ys) :: (c, o) :: (imm ++ tl)) ++ tl9)))
    (off : ∀ p ∈ (S, o0) :: (c, o) :: (imm ++ tl), p.1 ≠ I ∧ p.1 ≠ C ∧ p.1 ≠ D) (hab : Abv S ((c, o) :: imm) tl) (ab9 : Abv S ((I, oI) :: (C, oC) :: (D, LCg.lst ys) :: (c, o) :: (imm ++ tl)) tl9)
    (hm : (a, tupOf [v9, w9].toArray k9) ∈ tl9) (Dv : DatIn tl9 v9 p.dat) (Dw : DatIn tl9 w9 (.list p.rows)) (hD : DatAll tl ys (os.map opr)) (hlen : os.length = i) (hx : 0 ≤ x) (hy : 0 ≤ y ∧ y < 2147483647)
    (hr : ∀ news', SoJ S c o imm (i + 1) (ys ++ [.ref a]) news' → rest (.ref a) news') :
    LCg.CompEnd h₀ L m s₁ I oI C oC D (LCg.lst ys) (fun _ => True) rest (.ref a) { s₁ with heap := h', toks := tk } := by
  refine LCg.CompEnd.intro F N ((S, listOf #[.int x tx, .int y ty] n) :: (c, o) :: (imm ++ (tl ++ tl9))) ?_ (.of ?_) trivial (hr _ ⟨os ++ [p], x, y, tx, ty, n, tl ++ tl9, rfl, ?_, hx, hy, ?_, ?_⟩)
  · intro p hp
    simp only [List.mem_cons, List.mem_append] at hp ⊢
    rcases hp with hp | hp | hp | hp | hp | hp | hp | hp <;> simp only [hp, true_or, or_true]
  · intro p hp
    rcases List.mem_cons.mp hp with rfl | hp
    · exact off (S, o0) (.head _)
    · rcases List.mem_cons.mp hp with rfl | hp
      · exact off (c, o) (.tail _ (.head _))
      · rcases List.mem_append.mp hp with hp | hp
        · exact off p (.tail _ (.tail _ (List.mem_append_left _ hp)))
        · rcases List.mem_append.mp hp with hp | hp
          · exact off p (.tail _ (.tail _ (List.mem_append_right _ hp)))
          · have q := (ab9 p hp).2
            exact ⟨q _ (.head _), q _ (.tail _ (.head _)), q _ (.tail _ (.tail _ (.head _)))⟩
  · refine hab.app (ab9.mono fun q hq => ?_)
    rcases List.mem_cons.mp hq with rfl | hq
    · exact .tail _ (.tail _ (.tail _ (.head _)))
    · exact .tail _ (.tail _ (.tail _ (.tail _ (List.mem_append_left _ hq))))
  · rw [List.map_append]
    refine (hD.mono fun _ h => List.mem_append_left _ h).append (.cons (.tuple (List.mem_append_right _ hm) ?_) .nil)
    exact .cons (Dv.mono fun _ h => List.mem_append_right _ h) (.cons (Dw.mono fun _ h => List.mem_append_right _ h) .nil)
  · rw [List.length_append, hlen]; rfl
theorem restP {prog : Program} {w : World} {A : Around} {h₀ : Heap} {L : Addr} {m : Str → Option Value} {env : Env} {elt : PySem.Expr} {x x₂ : Str} {scope : Scope} {cl : List (Str × Addr)} {s : Shared} {S : List (Addr × Obj) → Prop} {P : Nat → Value → Prop} {Fin : List Value → List (Addr × Obj) → Prop}
    (J : Nat → List Value → List (Addr × Obj) → Prop) (n : Nat) (fin : ∀ ys news, J n ys news → Fin ys news)
    (step : ∀ k i ys news, i + (k + 1) = n → J i ys news → (∀ ys' news', J (i + 1) ys' news' → LCp.CompRestP prog w A h₀ L m env elt x x₂ scope cl s S P Fin k (i + 1) ys' news') → LCp.CompRestP prog w A h₀ L m env elt x x₂ scope cl s S P Fin (k + 1) i ys news) :
    ∀ k i ys news, i + k = n → J i ys news → LCp.CompRestP prog w A h₀ L m env elt x x₂ scope cl s S P Fin k i ys news := by
  intro k
  induction k with
  | zero =>
    intro i ys news hi hj
    have e : i = n := hi
    subst e
    exact LCp.CompRestP.zero (fin ys news hj)
  | succ k ih => exact fun i ys news hi hj => step k i ys news hi hj fun ys' news' hj' => ih (i + 1) ys' news' (by omega) hj'
theorem pair_at {tl : List (Addr × Obj)} {os : List Opd} {ys : List Value} (D : DatAll tl ys (os.map opr)) {i : Nat} {v : Value} (h : ys[i]? = some v) :
    ∃ t v1 v2 nt o, v = .ref t ∧ (t, tupOf [v1, v2].toArray nt) ∈ tl ∧ DatIn tl v1 (Opd.dat o) ∧ DatIn tl v2 (.list o.rows) ∧ os[i]? = some o := by
  obtain ⟨o, ho, Dd⟩ := map_at D h
  obtain ⟨t, vs, k, rfl, hm, r⟩ := inv_tup (ds := [Opd.dat o, .list o.rows]) Dd
  obtain ⟨v1, w1, rfl, d1, r1⟩ := inv_cons r
  obtain ⟨v2, w2, rfl, d2, r2⟩ := inv_cons r1
  obtain rfl := inv_nil r2
  exact ⟨t, v1, v2, k, o, rfl, hm, d1, d2, ho⟩
def OpJ (NW tl : List (Addr × Obj)) (os : List Opd) (i : Nat) (zs : List Value) (nx : List (Addr × Obj)) : Prop := nx = NW ∧ DatAll tl zs ((os.take i).map Opd.dat)
section
variable {prog : Program} {w : World} {A : Around} {E : Value → Shared → Prop} {s : Shared} {env : Env}
theorem turn1 {T iter : PySem.Expr} {y x₂ : Str} {pe py pz : Pos} {scope : Scope} {pos : Pos} (it acc : Value) (env : Env) :
    compTurn (.ListComp (.Name y pe) [⟨T, iter, [], 0⟩, ⟨.Name y py, .Name x₂ pz, [], 0⟩] scope pos) 1 it acc env = (standAt (PySem.Expr.Name x₂ pz).pos >>= fun _ => pyNext it >>= fun r => match r with
      | none => pure (.done .next)
      | some v => letOwnedTupleGo (.Name y py) it v >>= fun _ => assign (.Name y py) env v >>= fun _ =>
        (eval (.Name y pe) env >>= fun x => call (.builtin "list.append") [acc, x] >>= fun _ => pure ()) >>= fun _ =>
          again (.compLoop (.ListComp (.Name y pe) [⟨T, iter, [], 0⟩, ⟨.Name y py, .Name x₂ pz, [], 0⟩] scope pos) 1 it acc env)) := by rfl
theorem turn0 {T iter : PySem.Expr} {y x₂ : Str} {pe py pz : Pos} {scope : Scope} {pos : Pos} (it acc : Value) (env : Env) :
    compTurn (.ListComp (.Name y pe) [⟨T, iter, [], 0⟩, ⟨.Name y py, .Name x₂ pz, [], 0⟩] scope pos) 0 it acc env = (standAt iter.pos >>= fun _ => pyNext it >>= fun r => match r with
      | none => pure (.done .next)
      | some v => letOwnedTupleGo T it v >>= fun _ => assign T env v >>= fun _ =>
        (eval (.Name x₂ pz) env >>= fun x => standAt (PySem.Expr.Name x₂ pz).pos >>= fun _ => foldedSetIterable (.Name x₂ pz) env x >>= fun x => holding [x] (pyIter x) >>= fun i2 =>
          runOwn (.compStart (.ListComp (.Name y pe) [⟨T, iter, [], 0⟩, ⟨.Name y py, .Name x₂ pz, [], 0⟩] scope pos) 1 i2 acc env) env >>= fun _ => 
          again (.compLoop (.ListComp (.Name y pe) [⟨T, iter, [], 0⟩, ⟨.Name y py, .Name x₂ pz, [], 0⟩] scope pos) 0 it acc env))) := by rfl
theorem dbl_in {T iter : PySem.Expr} {y x₂ : Str} {pe py pz : Pos} {scope : Scope} {pos : Pos} {J l D : Addr} {rs acc : List Value} {m : Str → Option Value} {R : Result → Shared → Prop}
    (hh : A.handled = none) (hy : env.kindOf y = some .local) (hk : env.scope.kind = .function) (hd : (y == ("__debug__" : Str)) = false)
    (hJ : s.heap.IsListIter J l 0) (hl : s.heap.IsList l rs.toArray) (hn : s.heap.Ns env.locals m) (hD : s.heap.get? D = some (LCg.lst acc))
    (hJD : J ≠ D) (hJC : J ≠ env.locals) (hlJ : l ≠ J) (hlC : l ≠ env.locals) (hlD : l ≠ D) (hDC : D ≠ env.locals) (hz : acc.length + rs.length ≤ sizeLine)
    (hR : ∀ h' tk m', h'.Ns env.locals m' → h'.get? D = some (LCg.lst (acc ++ rs)) → (∀ b o, b ≠ J → b ≠ env.locals → b ≠ D → s.heap.get? b = some o → h'.get? b = some o) → R (.ok .next) { s with heap := h', toks := tk }) :
    codeAny (model prog w) A (.compLoop (.ListComp (.Name y pe) [⟨T, iter, [], 0⟩, ⟨.Name y py, .Name x₂ pz, [], 0⟩] scope pos) 1 (.ref J) (.ref D) env) R s := by
  have hp : (env.scope.kind == .class || (env.scope.kind == .module && env.locals != env.globals)) = false := by rw [hk]; rfl
  refine codeAny_loop rfl (fun k s' => ∃ h' tk j m', s' = { s with heap := h', toks := tk } ∧ j ≤ rs.length ∧ k = rs.length + 1 - j ∧ h'.IsListIter J l j ∧ h'.IsList l rs.toArray ∧ h'.Ns env.locals m' ∧
    h'.get? D = some (LCg.lst (acc ++ rs.take j)) ∧ (∀ b o, b ≠ J → b ≠ env.locals → b ≠ D → s.heap.get? b = some o → h'.get? b = some o)) ?_ (rs.length + 1)
    ⟨s.heap, s.toks, 0, m, rfl, Nat.zero_le _, rfl, hJ, hl, hn, by simpa using hD, fun _ _ _ _ _ e => e⟩
  rintro k s' ⟨h', tk, j, m', rfl, hj, rfl, hJ', hl', hn', hD', hk'⟩
  show wpAny _ A ((compTurn (.ListComp (.Name y pe) [⟨T, iter, [], 0⟩, ⟨.Name y py, .Name x₂ pz, [], 0⟩] scope pos) 1 (.ref J) (.ref D) env).onRaise (fun x => do noteFrame x env; theTreesLotGoes x)) _ _ _
  refine wpAny_noted ?_
  rw [turn1]
  refine wpAny_bind (wpAny_standAt (wpAny_bind ?_))
  by_cases hlt : j < rs.length
  · refine wpAny_pyNext_list_item hJ' hl' (x := rs[j]) (by simp [hlt]) fun h2 hJ2 hs2 => ?_
    refine wpAny_bind (wpAny_pure (wpAny_bind ?_))
    have hn2 : h2.Ns env.locals m' := hn'.at' fun o e => hs2.extBut _ o (Ne.symm hJC) e
    refine wpAny_assign_Name (wpAny_storeName_local hy hn2 (fun h3 hn3 hs3 => ?_) hp)
    refine wpAny_bind (wpAny_bind (wpAny_Name (wpAny_loadName_local hk hy hn3 (if_pos rfl) ?_) hd))
    have hD3 : h3.get? D = some (LCg.lst (acc ++ rs.take j)) := hs3.extBut _ _ hDC (hs2.extBut _ _ (Ne.symm hJD) hD')
    have hJ3 : h3.IsListIter J l (j + 1) := by
      obtain ⟨o, e, r⟩ := hJ2
      exact ⟨o, hs3.extBut _ _ hJC e, r⟩
    have hl3 : h3.IsList l rs.toArray := by
      obtain ⟨o, e, r⟩ := hl'
      exact ⟨o, hs3.extBut _ _ hlC (hs2.extBut _ _ hlJ e), r⟩
    refine wpAny_bind (append_at (hsz := by rw [List.size_toArray, List.length_append, List.length_take]; omega) hD3 fun h4 hs4 hD4 => ?_)
    refine wpAny_pure (wpAny_pure ⟨rfl, rs.length + 1 - (j + 1), by omega, h4, _, j + 1, _, rfl, hlt, rfl, ?_, ?_, hn3.at' fun o e => hs4.extBut _ o (Ne.symm hDC) e, ?_, ?_⟩)
    · obtain ⟨o, e, r⟩ := hJ3
      exact ⟨o, hs4.extBut _ _ hJD e, r⟩
    · obtain ⟨o, e, r⟩ := hl3
      exact ⟨o, hs4.extBut _ _ hlD e, r⟩
    · rw [hD4, LCg.lst_snoc, List.take_add_one, List.getElem?_eq_getElem hlt, ← List.append_assoc]; rfl
    · exact fun b o b1 b2 b3 e => hs4.extBut _ _ b3 (hs3.extBut _ _ b2 (hs2.extBut _ _ b1 (hk' b o b1 b2 b3 e)))
  · obtain rfl : j = rs.length := Nat.le_antisymm hj (Nat.not_lt.mp hlt)
    refine wpAny_pyNext_list_end hh hJ' hl' (by simp) fun h2 he2 => ?_
    refine wpAny_pure ?_
    refine hR h2 tk m' (hn'.at' fun o e => he2 _ o (Ne.symm hJC) e) ?_ fun b o b1 b2 b3 e => he2 _ _ b1 (hk' b o b1 b2 b3 e)
    rw [he2 _ _ (Ne.symm hJD) hD', List.take_length]
theorem start1 {T iter : PySem.Expr} {y x₂ : Str} {pe py pz : Pos} {scope : Scope} {pos : Pos} {J l : Addr} {acc : Value} {R : Result → Shared → Prop} (hJ : s.heap.IsListIter J l 0)
    (h : codeAny (model prog w) A (.compLoop (.ListComp (.Name y pe) [⟨T, iter, [], 0⟩, ⟨.Name y py, .Name x₂ pz, [], 0⟩] scope pos) 1 (.ref J) acc env) R s) :
    codeAny (model prog w) A (.compStart (.ListComp (.Name y pe) [⟨T, iter, [], 0⟩, ⟨.Name y py, .Name x₂ pz, [], 0⟩] scope pos) 1 (.ref J) acc env) R s := by
  refine codeAny_of_tree ?_
  show wpAny _ _ ((compStart (.ListComp (.Name y pe) [⟨T, iter, [], 0⟩, ⟨.Name y py, .Name x₂ pz, [], 0⟩] scope pos) 1 (.ref J) acc env).onRaise (fun x => do noteFrame x env; standAt theWindowsPlace)) _ _ s
  refine wpAny_notedAt ?_
  unfold compStart
  show wpAny _ _ (ask >>= _) _ _ s
  refine wpAny_bind (wpAny_askSetting (wpAny_ite ?_))
  split
  · first
      | exact wpAny_bind (wpAny_pure (wpAny_pure (And.intro rfl h)))
      | exact wpAny_pure (And.intro rfl h)
  · refine wpAny_bind (wpAny_rule ?_)
    show wpAny _ _ (standAt (PySem.Expr.Name x₂ pz).pos >>= _) _ _ s
    exact wpAny_bind (wpAny_standAt (wpAny_bind (wpAny_pyIter_listiter hJ (wpAny_pure (And.intro rfl h)))))
/-- What the outer source says: item i is a pair whose second is the list of the i-th row. -/
def Pairs (h : Heap) (vs : List Value) (rss : List (List Value)) : Prop :=
  vs.length = rss.length ∧ ∀ (i : Nat) (v : Value), vs[i]? = some v → ∃ (t : Addr) (v1 : Value) (l : Addr) (rs : List Value), v = Value.ref t ∧ h.IsTuple t #[v1, .ref l] ∧ rss[i]? = some rs ∧ h.IsList l rs.toArray
theorem dbl_out {iter : PySem.Expr} {x y x₂ : Str} {px px₂ tp pe py pz : Pos} {tk : Nat} {scope : Scope} {pos : Pos} {I ax D : Addr} {vs : List Value} {rss : List (List Value)} {m : Str → Option Value} {R : Result → Shared → Prop} {H : Heap}
    (hh : A.handled = none) (hx : env.kindOf x = some .local) (hx2 : env.kindOf x₂ = some .local) (hy : env.kindOf y = some .local) (hk : env.scope.kind = .function) (hd : (y == ("__debug__" : Str)) = false) (hd2 : (x₂ == ("__debug__" : Str)) = false) (hxx : x₂ ≠ x)
    (hP : Pairs H vs rss) (hI : s.heap.IsListIter I ax 0) (hl : H.IsList ax vs.toArray) (hn : s.heap.Ns env.locals m) (hD : s.heap.get? D = some (LCg.lst []))
    (hID : I ≠ D) (hIC : I ≠ env.locals) (hDC : D ≠ env.locals) (hIH : H.get? I = none) (hCH : H.get? env.locals = none) (hDH : H.get? D = none) (hH : ∀ b o, H.get? b = some o → s.heap.get? b = some o)
    (hz : rss.flatten.length ≤ sizeLine)
    (hR : ∀ h' tk m', h'.Ns env.locals m' → h'.get? D = some (LCg.lst rss.flatten) → (∀ b o, H.get? b = some o → h'.get? b = some o) → R (.ok .next) { s with heap := h', toks := tk }) :
    codeAny (model prog w) A (.compLoop (.ListComp (.Name y pe) [⟨.Tuple [.Name x px, .Name x₂ px₂] tk tp, iter, [], 0⟩, ⟨.Name y py, .Name x₂ pz, [], 0⟩] scope pos) 0 (.ref I) (.ref D) env) R s := by
  have hp : (env.scope.kind == .class || (env.scope.kind == .module && env.locals != env.globals)) = false := by rw [hk]; rfl
  obtain ⟨hlen, hat⟩ := id hP
  have ne : ∀ {b c o}, H.get? b = some o → H.get? c = none → b ≠ c := fun e1 e2 q => by rw [q, e2] at e1; cases e1
  refine codeAny_loop rfl (fun k s' => ∃ h' tk j m', s' = { s with heap := h', toks := tk } ∧ j ≤ vs.length ∧ k = vs.length + 1 - j ∧ h'.IsListIter I ax j ∧ h'.Ns env.locals m' ∧
    h'.get? D = some (LCg.lst (rss.take j).flatten) ∧ (∀ b o, H.get? b = some o → h'.get? b = some o)) ?_ (vs.length + 1)
    ⟨s.heap, s.toks, 0, m, rfl, Nat.zero_le _, rfl, hI, hn, hD, hH⟩
  rintro k s' ⟨h', tk', j, m', rfl, hj, rfl, hI', hn', hD', hH'⟩
  show wpAny _ A ((compTurn (.ListComp (.Name y pe) [⟨.Tuple [.Name x px, .Name x₂ px₂] tk tp, iter, [], 0⟩, ⟨.Name y py, .Name x₂ pz, [], 0⟩] scope pos) 0 (.ref I) (.ref D) env).onRaise (fun x => do noteFrame x env; theTreesLotGoes x)) _ _ _
  refine wpAny_noted ?_
  rw [turn0]
  refine wpAny_bind (wpAny_standAt (wpAny_bind ?_))
  have lst' : ∀ {h2 : Heap}, (∀ b o, H.get? b = some o → h2.get? b = some o) → ∀ {l items}, H.IsList l items → h2.IsList l items := by
    intro h2 hk' l items q
    obtain ⟨o, e, r⟩ := q
    exact ⟨o, hk' _ _ e, r⟩
  by_cases hlt : j < vs.length
  · refine wpAny_pyNext_list_item hI' (lst' hH' hl) (x := vs[j]) (by simp [hlt]) fun h2 hI2 hs2 => ?_
    obtain ⟨t, v1, l, rs, ev, ht, hrs, hlr⟩ := hat j vs[j] (List.getElem?_eq_getElem hlt)
    rw [ev]
    have hH2 : ∀ b o, H.get? b = some o → h2.get? b = some o := fun b o e => hs2.extBut _ _ (ne e hIH) (hH' b o e)
    refine wpAny_bind (wpAny_letOwnedTupleGo_listiter hI2 (wpAny_bind ?_))
    have hn2 : h2.Ns env.locals m' := hn'.at' fun o e => hs2.extBut _ o (Ne.symm hIC) e
    have ht2 : h2.IsTuple t #[v1, .ref l] := by
      obtain ⟨o, e, r⟩ := ht
      exact ⟨o, hH2 _ _ e, r⟩
    refine kcp_assign hh ht2 hx hx2 hp hn2 fun h3 tk3 hn3 hk3 => ?_
    have hH3 : ∀ b o, H.get? b = some o → h3.get? b = some o := fun b o e => hk3 b o (ne e hCH) (hH2 b o e)
    have hD3 : h3.get? D = some (LCg.lst (rss.take j).flatten) := hk3 _ _ hDC (hs2.extBut _ _ (Ne.symm hID) hD')
    have hI3 : h3.IsListIter I ax (j + 1) := by
      obtain ⟨o, e, r⟩ := hI2
      exact ⟨o, hk3 _ _ hIC e, r⟩
    refine wpAny_bind (wpAny_Name (wpAny_loadName_local hk hx2 hn3 (if_pos rfl) ?_) hd2)
    refine wpAny_bind (wpAny_standAt (wpAny_bind (wpAny_pure (wpAny_bind (wpAny_holding ?_)))))
    refine wpAny_pyIter_list (lst' hH3 hlr) ?_
    have up : ∀ {b o}, h3.get? b = some o → (h3.push { cls := .type "list_iterator", data := .fields #[.ref l, .int 0 0] }).get? b = some o := fun e => Heap.get?_push_of_some _ e
    have hJb : ∀ {b o}, h3.get? b = some o → b ≠ h3.objs.size := fun e => Nat.ne_of_lt (Heap.lt_size e)
    have hl3 : h3.IsList l rs.toArray := lst' hH3 hlr
    obtain ⟨ol, el, rl⟩ := id hl3
    obtain ⟨ol0, el0, _⟩ := id hlr
    have hCl : ∃ o, h3.get? env.locals = some o := by
      obtain ⟨o, es, ep, e, r⟩ := hn3
      exact ⟨o, e⟩
    obtain ⟨oc, ec⟩ := hCl
    obtain ⟨oi, ei, ri⟩ := id hI3
    have hfl : (rss.take j).flatten.length + rs.length ≤ rss.flatten.length := by
      have e : rss.flatten = (rss.take (j + 1)).flatten ++ (rss.drop (j + 1)).flatten := by rw [← List.flatten_append, List.take_append_drop]
      rw [e, List.take_add_one, hrs, List.length_append]
      simp only [Option.toList, List.flatten_append, List.flatten_cons, List.flatten_nil, List.append_nil, List.length_append]
      omega
    refine wpAny_bind (wpAny_onRaise (wpAny_run ?_))
    refine start1 (J := h3.objs.size) (l := l) ⟨_, Heap.get?_push_size _ rfl, rfl, rfl⟩ ?_
    refine dbl_in (J := h3.objs.size) (l := l) (rs := rs) (acc := (rss.take j).flatten) (m := _) hh hy hk hd ⟨_, Heap.get?_push_size _ rfl, rfl, rfl⟩ ⟨ol, up el, rl⟩ (hn3.at' fun o e => up e) (up hD3)
      (Ne.symm (hJb hD3)) (Ne.symm (hJb ec)) (hJb el) (fun q => ?_) (fun q => ?_) hDC ?_ ?_
    · exact ne el0 hCH q
    · exact ne el0 hDH q
    · omega
    · intro h4 tk4 m4 hn4 hD4 hk4
      have k4 : ∀ b o, b ≠ env.locals → b ≠ D → h3.get? b = some o → h4.get? b = some o := fun b o b2 b3 e => hk4 b o (hJb e) b2 b3 (up e)
      refine wpAny_pure ⟨rfl, vs.length + 1 - (j + 1), by omega, h4, _, j + 1, _, rfl, hlt, rfl, ⟨oi, k4 _ _ hIC hID ei, ri⟩, hn4, ?_, fun b o e => k4 b o (ne e hCH) (ne e hDH) (hH3 b o e)⟩
      rw [hD4, List.take_add_one, hrs]
      simp only [Option.toList, List.flatten_append, List.flatten_cons, List.flatten_nil, List.append_nil]
  · obtain rfl : j = vs.length := Nat.le_antisymm hj (Nat.not_lt.mp hlt)
    refine wpAny_pyNext_list_end hh hI' (lst' hH' hl) (by simp) fun h2 he2 => ?_
    refine wpAny_pure ?_
    refine hR h2 tk' m' (hn'.at' fun o e => he2 _ o (Ne.symm hIC) e) ?_ fun b o e => he2 _ _ (ne e hIH) (hH' b o e)
    rw [he2 _ _ (Ne.symm hID) hD', hlen, List.take_length]
def DSrc (A : Around) (h₀ : Heap) (L : Addr) (m : Str → Option Value) (Q : Value → Shared → Prop) (xv : Value) (s₁ : Shared) : Prop :=
  ∃ (ax : Addr) (vs : List Value) (rss : List (List Value)) (news : List (Addr × Obj)) (k : Nat), xv = Value.ref ax ∧ A.handled = none ∧ Fr h₀ L s₁.heap m ∧ News h₀ L s₁.heap news ∧ (ax, (listOf vs.toArray k : Obj)) ∈ news ∧ Pairs s₁.heap vs rss ∧ rss.flatten.length ≤ sizeLine ∧
    ∀ D h tk, Fr h₀ L h m → News h₀ L h ((D, LCg.lst rss.flatten) :: news) → (∀ p ∈ news, p.1 ≠ D) → Q (.ref D) { s₁ with heap := h, toks := tk }
theorem dbl_eval {iter : PySem.Expr} {x y x₂ : Str} {px px₂ tp pe py pz : Pos} {tk : Nat} {scope : Scope} {pos : Pos} {cl : List (Str × Addr)} {h₀ : Heap} {L : Addr} {m : Str → Option Value} {Q : Value → Shared → Prop} (_F₀ : Fr h₀ L s.heap m)
    (hclos : closureFor scope env = pure cl) (hcell : ∀ y ∈ scope.names, y.2 ≠ .cell) (hkind : scope.kind = .function)
    (hnames : ∀ y ∈ scope.names, y.2 = .local → scope.names.lookup y.1 = some .local) (hx : scope.names.lookup x = some .local) (hx2 : scope.names.lookup x₂ = some .local) (hy : scope.names.lookup y = some .local) (hd : (y == ("__debug__" : Str)) = false) (hd2 : (x₂ == ("__debug__" : Str)) = false) (hxx : x₂ ≠ x)
    (h : wpAny (model prog w) A (eval iter env) (DSrc A h₀ L m Q) E s)
    (hs : ∀ x, foldedSetIterable iter env x = pure x := by intro _; rfl) :
    wpAny (model prog w) A (eval (.ListComp (.Name y pe) [⟨.Tuple [.Name x px, .Name x₂ px₂] tk tp, iter, [], 0⟩, ⟨.Name y py, .Name x₂ pz, [], 0⟩] scope pos) env) Q E s := by
  rw [eval_ListComp]
  refine wpAny_comprehension_free (use := none) rfl hs hclos hkind hnames (wpAny_mono h (fun xv s₁ h₁ => ?_) fun _ _ e => e)
  obtain ⟨ax, vs, rss, news, k, rfl, hh, F, N, hm, hP, hz, hQ⟩ := h₁
  have hl : s₁.heap.IsList ax vs.toArray := ⟨_, (N _ hm).1, rfl, k, rfl⟩
  refine wpAny_pyIter_list hl ?_
  generalize hH1 : s₁.heap.push { cls := .type "list_iterator", data := .fields #[.ref ax, .int 0 0] } = H1
  have z1 : H1.objs.size = s₁.heap.objs.size + 1 := by rw [← hH1, Heap.size_push]
  have up1 : ∀ b o, s₁.heap.get? b = some o → H1.get? b = some o := fun b o e => hH1 ▸ Heap.get?_push_of_some _ e
  have eI : H1.get? s₁.heap.objs.size = some { cls := .type "list_iterator", data := .fields #[.ref ax, .int 0 0] } := hH1 ▸ Heap.get?_push_size _ rfl
  refine wpAny_newObj_type (wpAny_newFunctionEnv hcell (by intro y hy; simp at hy) (fun h₁ hns₁ hsb₁ => ?_) hkind)
  dsimp only at hns₁ hsb₁ ⊢
  generalize hH2 : H1.push { cls := .type "list", dict := none, data := .seq ([] : List Value).toArray } = H2 at hns₁ hsb₁ ⊢
  have z2 : H2.objs.size = s₁.heap.objs.size + 2 := by rw [← hH2, Heap.size_push, z1]
  have up2 : ∀ b o, H1.get? b = some o → H2.get? b = some o := fun b o e => hH2 ▸ Heap.get?_push_of_some _ e
  have eD : H2.get? H1.objs.size = some (LCg.lst []) := hH2 ▸ Heap.get?_push_size _ rfl
  have nb : ∀ b o, H2.get? b = some o → b ≠ H2.objs.size := fun b o e => Nat.ne_of_lt (Heap.lt_size e)
  have up3 : ∀ b o, H2.get? b = some o → h₁.get? b = some o := fun b o e => hsb₁.extBut b o (nb b o e) (Heap.get?_push_of_some _ e)
  have none0 : ∀ a, s₁.heap.objs.size ≤ a → s₁.heap.get? a = none := fun a ha => by
    cases e : s₁.heap.get? a with
    | none => rfl
    | some o' => exact absurd (Heap.lt_size e) (Nat.not_lt.mpr ha)
  have base0 : ∀ a, s₁.heap.objs.size ≤ a → h₀.get? a = none := fun a ha => by
    cases e : h₀.get? a with
    | none => rfl
    | some o' => have := F.keep a o' e; rw [none0 a ha] at this; cases this
  have hLlt : @LT.lt Nat _ L s₁.heap.objs.size := F.ns.lt
  have loop : codeAny (model prog w) A (.compLoop (.ListComp (.Name y pe) [⟨.Tuple [.Name x px, .Name x₂ px₂] tk tp, iter, [], 0⟩, ⟨.Name y py, .Name x₂ pz, [], 0⟩] scope pos) 0 (.ref s₁.heap.objs.size) (.ref H1.objs.size) (compEnvC scope cl H2.objs.size env))
      (compPost (model prog w) A E none Q (.ref H1.objs.size) H2.objs.size) { s₁ with heap := h₁, toks := s₁.toks + ([] : List (Str × Value)).length } := by
    refine dbl_out (H := s₁.heap) (vs := vs) (rss := rss) (ax := ax) (m := fun x => ([] : List (Str × Value)).reverse.lookup x) hh (lookup_relabel_local hx) (lookup_relabel_local hx2) (lookup_relabel_local hy) (by simp [compEnvC, relabel, hkind]) hd hd2 hxx hP
      ⟨_, up3 _ _ (up2 _ _ eI), rfl, rfl⟩ hl hns₁ (up3 _ _ eD) (neN (by omega)) (neN (by show s₁.heap.objs.size ≠ H2.objs.size; omega)) (neN (by show H1.objs.size ≠ H2.objs.size; omega)) (none0 _ (Nat.le_refl _)) (none0 _ (by show _ ≤ H2.objs.size; omega)) (none0 _ (by omega)) (fun b o e => up3 _ _ (up2 _ _ (up1 _ _ e))) hz ?_
    intro h' tk' m' hn' hD' hk'
    refine ⟨m', hn', fun h'' hs'' => hQ _ h'' tk' ((F.keeps hk').change hs'' ?_ (base0 _ (by omega))) ?_ fun p hp => ?_⟩
    · refine neN ?_
      show H2.objs.size ≠ L
      omega
    · intro p hp
      rcases List.mem_cons.mp hp with rfl | hp
      · exact ⟨hs''.extBut _ _ (neN (by show H1.objs.size ≠ H2.objs.size; omega)) hD', neN (by show H1.objs.size ≠ L; omega), base0 _ (by show _ ≤ H1.objs.size; omega)⟩
      · have q := N p hp
        have lt : @LT.lt Nat _ p.1 s₁.heap.objs.size := Heap.lt_size q.1
        exact ⟨hs''.extBut _ _ (neN (neN (a := p.1) (b := H2.objs.size) (by omega))) (hk' _ _ q.1), q.2⟩
    · have lt : @LT.lt Nat _ p.1 s₁.heap.objs.size := Heap.lt_size (N p hp).1
      exact neN (by omega)
  exact codeAny_compStart_list loop (wpAny_pyIter_listiter (l := ax) (i := 0) ⟨_, up3 _ _ (up2 _ _ eI), rfl, rfl⟩ loop)
end
theorem pairs_of {h₀ h : Heap} {L : Addr} {news tl : List (Addr × Obj)} (N : News h₀ L h news) (sub : ∀ p ∈ tl, p ∈ news) {os : List Opd} : ∀ {ys : List Value}, DatAll tl ys (os.map opr) →
    ∃ rss, Pairs h ys rss ∧ DatAll tl rss.flatten (os.flatMap Opd.rows) := by
  induction os with
  | nil =>
    intro ys hd
    obtain rfl := inv_nil hd
    exact ⟨[], ⟨rfl, fun i v e => by cases e⟩, .nil⟩
  | cons o os ih =>
    intro ys hd
    obtain ⟨v0, ws, rfl, h1, hr⟩ := inv_cons hd
    obtain ⟨rss, ⟨hl, ha⟩, hq⟩ := ih hr
    obtain ⟨t, v1, w, rs, kt, kw, rfl, hm, d1, hm2, r2⟩ := pair_open h1
    refine ⟨rs :: rss, ⟨by simp [hl], fun i v e => ?_⟩, ?_⟩
    · cases i with
      | zero =>
        cases e
        exact ⟨_, _, _, rs, rfl, ⟨_, (N _ (sub _ hm)).1, rfl, _, rfl⟩, rfl, ⟨_, (N _ (sub _ hm2)).1, rfl, _, rfl⟩⟩
      | succ i => exact ha i v e
    · rw [List.flatten_cons, List.flatMap_cons]
      exact r2.append hq
theorem rows_le (os : List Opd) : (os.flatMap Opd.rows).length ≤ os.length := by
  induction os with
  | nil => exact Nat.le_refl _
  | cons o os ih =>
    rw [List.flatMap_cons, List.length_append, List.length_cons]
    have : o.rows.length ≤ 1 := by cases o <;> simp [Opd.rows]
    omega
section
theorem w8 : True := by
  k_with "exec Assign cons ListComp" => ((k_here; k_dflt (refine LCg.Assign_ListComp_U (F₀ := by k_asm) (by rfl) (by with_unfolding_all rfl) (by rfl) (by decide) (by rfl) (by decide) (by rfl) (by rfl) (by rfl) ?_)))
  k_with "eval ListComp" => ((refine Held.mk ?_))
  k_with "eval ListComp" => ((k_here; (with_reducible show wpAny _ _ (eval (PySem.Expr.ListComp _ [_] _ _) _) _ _ _); k_dflt (refine LCp.ListComp_P (F₀ := by k_asm) (by with_unfolding_all rfl) (by decide) (by rfl) (by decide) (by rfl) (by rfl) (by decide) ?_)))
  k_with "eval ListComp" => ((k_here; (with_reducible show wpAny _ _ (eval (PySem.Expr.ListComp (PySem.Expr.Name _ _) [_, _] _ _) _) _ _ _); k_dflt (refine dbl_eval (by k_asm) (by with_unfolding_all rfl) (by decide) (by rfl) (by decide) (by rfl) (by rfl) (by rfl) (by decide) (by decide) (by decide) ?_)))
  k_with "DSrc" => ((refine Held.mk ?_))
  k_with "call type:tuple" => ((k_here; k_dflt (refine' tup_of ?k1 ?k2 ?k3 ?k4 ?_; (case k1 => k_asm); (case k2 => k_asm); (case k3 => k_extra "mem"); (case k4 => k_extra "the sizes"); k_whole); intro D' h' F' N' l1; (try k_lt l1); (try k_sweep)))
  k_with "SrcLP" => ((refine Held.mk ?_))
  k_with "CompEnd" => ((refine Held.mk ?_))
  k_with "CompSrc" => ((refine Held.mk ?_))
  trivial
set_option maxRecDepth 100000 in
set_option maxHeartbeats 1000000 in
theorem some_ok {prog : Program} {w : World} {mean : ExcName → Option Value} {mg mb : Str → Option Value} {dp un : Nat} {gd : Option (List Code)} {cn : Str} {cs : Scope} {a : Addr} {ccd : Value} {cl : List (Str × Addr)} {outer : List Env} {A₀ : Around} {base h₀ : Heap} {L S : Addr} {m : Str → Option Value} {imm : List (Addr × Obj)} {s : Shared}
   {x y : Int} {tx ty n : Nat} {Q E : Value → Shared → Prop}
   (B : Below A₀ base outer h₀) (F : Fr h₀ L s.heap m) (X : (hd.heap_39 w.params).In h₀) (N : News h₀ L s.heap ((S, listOf #[.int x tx, .int y ty] n) :: imm)) (hS : ∀ p ∈ imm, p.1 ≠ S) (T : Top view (looseW view []) mean mg mb h₀) (hk : cs.kind = .function)
   (hd : dp + 50 < recursionLimit) (hu : un + 500 < cLine) (hx : 0 ≤ x) (hy : 0 ≤ y ∧ y < 2147483647)
   (ret : ∀ (os : List Opd) v tl x' y' tx' ty' n' h' tk', Fr h₀ L h' m → News h₀ L h' ((S, listOf #[.int x' tx', .int y' ty'] n') :: (imm ++ tl)) → Abv S imm tl → 0 ≤ x' → (0 ≤ y' ∧ y' < 2147483647) → os.length ≤ 3 →
     DatIn tl v (.tuple [.tuple (os.map Opd.dat), .list (os.flatMap Opd.rows)]) → Q v { s with heap := h', toks := tk' }) :
   wpAny (model prog w) (ktrTop dp un gd cn cs L a ccd cl outer) (call (.ref 99) [.ref S]) Q E s := by
  refine wpAny_call ?_
  k_dflt (refine' code_defC ?k1 ?k2 ?k3 ?k4 ?k5 ?kA ?kF ?kK ?k6 ?k7 ?k8 ?k9 ?kB ?kD ?_ ?c2 ?c3 ?c4; (case kA => exact rfl); (case kF => exact rfl); (case kK => assumption); (case k1 => k_asm); (case k2 => k_asm); (case k3 => k_asm); (case k4 => k_asm); (case k5 => k_asm); (case k6 => k_is); (case k7 => k_is); (case k8 => ktr_room); (case k9 => exact BindsTo.of_eq rfl); (case kB => exact rfl); (case kD => decide +kernel); (case c2 => exact rfl); (case c3 => exact rfl); (case c4 => exact rfl); k_whole; intro g' L' h' tk' cells' FG' F' N' Y' B' X' T' l1; (have rawL := fun p hp => Nat.lt_succ_of_lt (l1 p hp)); (try k_lt l1); k_cells Y'; (try simp only [List.cons_append, List.nil_append] at N'); (try dsimp only); (try k_fold))
  k_steps
  refine Held.out ?_
  (rename Fr _ _ _ _ => F1)
  (rename News _ _ _ _ => N1)
  (rename IsRange _ _ _ _ _ _ _ _ => R1)
  rw [← List.append_nil imm] at N1
  refine LCg.CompSrc.range rfl F1 N1 R1 (small_one (by omega) (by omega) (by omega) (by omega)) (rangeSize_nat _ _) (by rw [sizeLine_eq]; omega) ?_
  intro g
  refine restU (SoJ S _ _ imm) _ ?_ ?_ _ 0 [] _ (Nat.zero_add _) ⟨[], _, _, _, _, _, [], rfl, Abv.nil, by assumption, by assumption, .nil, rfl⟩
  · rintro ys news ⟨os, x, y, tx, ty, n, tl, rfl, hab, hx, hy, hD, hlen⟩
    clear F1 N1 R1
    intro D h tk F2 N2 off
    have hS2 := ne_app hS hab.ne
    k_steps
    refine Held.out ?_
    (rename Fr _ _ _ _ => F3)
    (rename News _ _ _ _ => N3)
    have hl9 : ys.length = os.length := by rw [hD.length, List.length_map]
    refine LCp.SrcLP.ledger rfl F3 N3 (by k_mem) (by rw [sizeLine_eq]; simp only [List.size_toArray]; omega) ?_
    intro g
    refine restP (OpJ _ tl os) _ ?_ ?_ _ 0 [] _ (Nat.zero_add _) ⟨rfl, .nil⟩
    · rintro zs nx ⟨rfl, hZ⟩
      have lz9 : zs.length ≤ 3 := by
        rw [hZ.length, List.length_map, List.length_take]
        omega
      intro D2 h3 tk3 F4 N4 off4
      k_steps
      refine Held.out ?_
      (rename Fr _ _ _ _ => F5)
      (rename News _ _ _ _ => N5)
      obtain ⟨rss, hPs, hRs⟩ := pairs_of N5 (tl := tl) (by k_extra "the subset") hD
      have hrl := rows_le os
      have hfl : rss.flatten.length ≤ 3 := by rw [hRs.length]; omega
      rw [List.take_of_length_le (by simp only [List.size_toArray]; omega)] at hZ
      have o1 := off1_mem off
      have o4 := off1_mem off4
      refine ⟨D, ys, rss, _, _, rfl, rfl, F5, N5, (by k_mem), hPs, (by rw [sizeLine_eq]; omega), ?_⟩
      intro D3 h5 tk5 F6 N6 off6
      clear F5 N5
      k_steps
      (rename Fr _ _ _ _ => F7)
      (rename News _ _ _ _ => N7)
      exact ret os _ _ _ _ _ _ _ _ _ F7 (fin_cut (by k_extra "the news") (by k_extra "the cut")) (by k_extra "all above") (by assumption) (by assumption) (by omega) (by kqd_in)
    · rintro k i zs nx hik ⟨rfl, hZ⟩ IH
      refine LCp.CompRestP.succ ?_
      intro v hv
      obtain ⟨t, v1, v2, nt, o, rfl, hm, d1, d2, ho⟩ := pair_at hD (by simpa using hv)
      refine ⟨t, _, v1, v2, nt, rfl, by k_mem, rfl, rfl, ?_⟩
      intro I oI C oC D2 m₂ h3 tk3 E' hC hx1 hx2 F4 N4 off ne
      k_steps
      refine Held.out (LCg.CompEnd.intro (by assumption) (by assumption) _ (fun p hp => hp) off (.inr ⟨_, by k_mem, rfl, _, rfl⟩) (IH _ _ ⟨rfl, ?_⟩))
      rw [take_snoc1 ho, List.map_append]
      exact hZ.append (.cons d1 .nil)
  · rintro k i ys news hik ⟨os, x, y, tx, ty, n, tl, rfl, hab, hx, hy, hD, hlen⟩ IH
    clear F1 N1 R1
    refine LCg.CompRest.succ ?_
    intro v I oI C oC D m₂ h tk E' hv hC hx2 F2 N2 off ne
    have hoff := off.mem
    simp only [LCg.Off3, and_true] at off
    have hS2 := ne_app hS hab.ne
    k_steps
    refine Held.out (so_end (by assumption) (by assumption) hoff hab (by assumption) (by assumption) (by assumption) (by assumption) hD hlen (by assumption) (by assumption) (fun news' hj => IH _ news' hj))
end
theorem some_use {prog : Program} {w : World} {mean : ExcName → Option Value} {mg mb : Str → Option Value} {dp un : Nat} {gd : Option (List Code)} {cn : Str} {cs : Scope} {a : Addr} {ccd : Value} {cl : List (Str × Addr)} {outer : List Env} {A₀ : Around} {base h₀ : Heap} {L S : Addr} {m : Str → Option Value} {imm : List (Addr × Obj)} {s : Shared}
   {x y : Int} {tx ty n : Nat} {Q E : Value → Shared → Prop}
   (B : Below A₀ base outer h₀) (F : Fr h₀ L s.heap m) (X : (hd.heap_39 w.params).In h₀) (N : News h₀ L s.heap ((S, listOf #[.int x tx, .int y ty] n) :: imm)) (hS : ∀ p ∈ imm, p.1 ≠ S) (T : Top view (looseW view []) mean mg mb h₀) (hk : cs.kind = .function)
   (hd : dp + 50 < recursionLimit) (hu : un + 500 < cLine) (hx : 0 ≤ x) (hy : 0 ≤ y ∧ y < 2147483647)
   (ret : ∀ (os : List Opd) b c v k tl x' y' tx' ty' n' h' tk', Fr h₀ L h' m → News h₀ L h' ((S, listOf #[.int x' tx', .int y' ty'] n') :: (imm ++ tl)) → (∀ p ∈ imm ++ tl, p.1 ≠ S) → Abv S imm tl → 0 ≤ x' → (0 ≤ y' ∧ y' < 2147483647) → os.length ≤ 3 →
     (v, tupOf [.ref b, .ref c].toArray k) ∈ tl → DatIn tl (.ref b) (.tuple (os.map Opd.dat)) → DatIn tl (.ref c) (.list (os.flatMap Opd.rows)) → Q (.ref v) { s with heap := h', toks := tk' }) :
   wpAny (model prog w) (ktrTop dp un gd cn cs L a ccd cl outer) (call (.ref 99) [.ref S]) Q E s :=
  some_ok B F X N hS T hk hd hu hx hy fun os v tl x' y' tx' ty' n' h' tk' F' N' ab hx' hy' hos D => by
    cases D with
    | tuple hm r => cases r with
      | cons d1 r => cases r with
        | cons d2 r => cases r with
          | nil => cases d1 with
            | tuple hm1 r1 => cases d2 with
              | list hm2 r2 => exact ret _ _ _ _ _ _ _ _ _ _ _ _ _ F' N' (ne_app hS ab.ne) ab hx' hy' hos hm (.tuple hm1 r1) (.list hm2 r2)
end
-- Itr
section
variable {prog : Program} {w : World} {A : Around} {E : Value → Shared → Prop} {s : Shared} {env : Env} {h₀ : Heap} {x : Str} {body : List Stmt} {Q : Flow → Shared → Prop}
theorem tup_iter {a : Addr} {vs : List Value} {k : Nat} {m₀ : Str → Option Value} {news : List (Addr × Obj)} (J : Nat → (Str → Option Value) → List (Addr × Obj) → Prop)
    (hh : A.handled = none) (hl : (a, tupOf vs.toArray k) ∈ news) (F : Fr h₀ env.locals s.heap m₀) (N : News h₀ env.locals s.heap news) (hj : J 0 m₀ news)
    (turn : ∀ i v m₁ nx h tk own, vs[i]? = some v → TbOff own nx → (a, tupOf vs.toArray k) ∈ nx → J i m₁ nx → Fr h₀ env.locals h (fun y => if y = x then some v else m₁ y) → News h₀ env.locals h (nx ++ own) →
      wpAny (model prog w) A (execs body env) (TbPost h₀ env.locals (fun m' nx => (a, tupOf vs.toArray k) ∈ nx ∧ J (i + 1) m' nx) own { s with heap := h, toks := tk } Q) E { s with heap := h, toks := tk })
    (done : ∀ m₁ nx h tk, J vs.length m₁ nx → Fr h₀ env.locals h m₁ → News h₀ env.locals h nx → Q .next { s with heap := h, toks := tk }) :
    wpAny (model prog w) A (pyIter (.ref a)) (fun it s₂ => LoopAtV prog w A h₀ env x body Q E it s₂) E s := by
  have ha : s.heap.get? a = some (tupOf vs.toArray k) := (N _ hl).1
  have hT : s.heap.IsTuple a vs.toArray := ⟨_, ha, rfl, k, rfl⟩
  have hne : a ≠ s.heap.objs.size := Nat.ne_of_lt (Heap.lt_size ha)
  refine wpAny_pyIter_tuple hT ?_
  have W := Walks.tuple (prog := prog) (w := w) hh s.heap.objs.size a hne vs.toArray
  have hlen : vs.toArray.size = vs.length := by simp
  rw [hlen] at W
  refine ⟨_, _, _, vs.length, _, _, m₀, news, (fun i m nx => (a, tupOf vs.toArray k) ∈ nx ∧ J i m nx), rfl, W, ?_, ?_, ?_, ⟨⟨_, Heap.get?_push_size _ rfl, rfl, rfl⟩, ?_⟩, F.push _, (fun p hp => ⟨Heap.get?_push_of_some _ (N p hp).1, (N p hp).2⟩), ⟨hl, hj⟩, ?_, ?_⟩
  · intro hm
    rcases List.mem_cons.mp hm with e | hm
    · exact absurd F.ns.lt (e ▸ Nat.lt_irrefl _)
    · exact (N _ hl).2.1 ((List.mem_singleton.mp hm).symm)
  · intro b hb
    rw [List.mem_singleton.mp hb]
    exact next_is_new F
  · intro p hp hI
    exact absurd (Heap.lt_size (N p hp).1) ((List.mem_singleton.mp hI) ▸ Nat.lt_irrefl _)
  · exact ⟨_, Heap.get?_push_of_some _ ha, rfl, k, rfl⟩
  · rintro i v m₁ nx s₁ own ⟨hh', tk', rfl⟩ hin hP ⟨hl₁, hJ⟩ hoff hown hget hfp hst F₁ N₁
    have hP' : vs[i]? = some v := by simpa using hP
    have hI0 : h₀.get? s.heap.objs.size = none := next_is_new F
    obtain ⟨⟨oI, hoI, _⟩, _⟩ := id hst
    have hIown : (s.heap.objs.size, oI) ∈ own := hfp _ (List.mem_cons.mpr (.inl rfl)) hI0 _ hoI
    have hsep : TbOff [(s.heap.objs.size, oI)] nx := by
      intro p hp q hq e
      rw [List.mem_singleton.mp hp] at e
      exact hoff q hq (List.mem_singleton.mpr e.symm)
    have N₂ : News h₀ env.locals hh' (nx ++ [(s.heap.objs.size, oI)]) := fun p hp => N₁ p ((List.mem_append.mp hp).elim (fun h => List.mem_append.mpr (.inr h)) fun h => List.mem_append.mpr (.inl (List.mem_singleton.mp h ▸ hIown)))
    have hao : hh'.get? a = some (tupOf vs.toArray k) := (N₁ _ (List.mem_append.mpr (.inr hl₁))).1
    refine wpAny_mono (turn i v m₁ nx hh' tk' _ hP' hsep hl₁ hJ F₁ N₂) (fun f s₂ p => ?_) fun _ _ e => e
    have fin : TbEnd h₀ env.locals (fun m' nx => (a, tupOf vs.toArray k) ∈ nx ∧ J (i + 1) m' nx) [(s.heap.objs.size, oI)] { s with heap := hh', toks := tk' } s₂ →
        LoopStepU h₀ env.locals [s.heap.objs.size] own (fun m nx => (a, tupOf vs.toArray k) ∈ nx ∧ J (i + 1) m nx) { s with heap := hh', toks := tk' } .next s₂ := by
      rintro ⟨h', tk, m', news', nx', e, F', N', hn, ho, hx, hm⟩
      refine ⟨rfl, h', tk, m', nx', e, F', fun p hp => ?_, fun p hp hq => hx _ (List.mem_singleton.mpr rfl) p hp (List.mem_singleton.mp hq).symm, hm⟩
      rcases List.mem_append.mp hp with h | h
      · have q := hget p h
        rcases List.mem_cons.mp (hown p h) with h2 | h2
        · have e2 : p = (s.heap.objs.size, oI) := by
            have hoI' : hh'.get? s.heap.objs.size = some oI := hoI
            rw [show p.1 = s.heap.objs.size from h2, hoI'] at q
            exact Prod.ext h2 (Option.some.inj q).symm
          rw [e2]
          exact N' _ (ho _ (List.mem_singleton.mpr rfl))
        · have h1 : p.1 = a := List.mem_singleton.mp h2
          rw [h1, hao] at q
          have h3 : p = (a, tupOf vs.toArray k) := Prod.ext h1 (Option.some.inj q).symm
          rw [h3]
          exact N' _ (hn _ hm.1)
      · exact N' p (hn p h)
    cases f with
    | ret v => exact .ret p
    | brk => exact .brk p
    | next => exact .next (fin p)
    | cont => exact .cont (fin p)
  · rintro h' tk m' news' F' N' _ ⟨_, hJ⟩
    exact done m' news' h' tk hJ F' N'
end
-- Ofo
section
local macro_rules | `(tactic| k_lt $h:ident) => `(tactic| ((have raw9 := $h); clear $h))
theorem w9 : True := by
  k_with_none
  k_with "all" => (assumption)
  k_with "mem0" => (assumption)
  k_with "mem" => (first | with_reducible exact List.mem_cons_self | ((with_reducible refine List.mem_cons_of_mem _ ?_); k_extra "mem") | with_reducible assumption | ((with_reducible refine List.mem_append_left _ ?_); k_extra "mem") | ((with_reducible refine List.mem_append_right _ ?_); k_extra "mem") | fail "no member")
  k_with "sub0" => (first | with_reducible exact sub_refl | with_reducible exact sub_nil | ((with_reducible refine sub_app ?_ ?_); (k_extra "sub0"); (k_extra "sub0")) | ((with_reducible refine sub_consS ?_ ?_); (k_extra "mem"); (k_extra "sub0")) | ((with_reducible refine sub_cons ?_); (k_extra "sub0")) | ((with_reducible refine sub_appR ?_); with_reducible exact sub_refl) | ((with_reducible refine sub_appL ?_); (k_extra "sub0")) | ((with_reducible refine sub_appR ?_); (k_extra "sub0")) | fail "no subset")
  k_with "datin" => (first | with_reducible exact DatIn.none | with_reducible exact DatIn.int _ _ | with_reducible exact DatIn.bool _ | with_reducible exact DatIn.str _ _ | ((with_reducible refine' DatIn.mono ?s9 ?d9); (case d9 => with_reducible assumption); (case s9 => k_extra "the subset")) | (refine' DatIn.tuple ?m9 ?r9; (case m9 => k_extra "mem"); (case r9 => k_extra "datall")) | (refine' DatIn.list ?m9 ?r9; (case m9 => k_extra "mem"); (case r9 => k_extra "datall")) | exact DatIn.int _ _ | exact DatIn.str _ _ | fail "no datum")
  k_with "datall" => (first | with_reducible exact DatAll.nil | ((with_reducible refine' DatAll.mono ?s9 ?d9); (case d9 => with_reducible assumption); (case s9 => k_extra "the subset")) | ((with_reducible refine DatAll.append ?_ ?_); (k_extra "datall"); (k_extra "datall")) | (refine' DatAll.cons ?_ ?_; (k_extra "datin"); (k_extra "datall")) | exact DatAll.nil | fail "no data")
  k_with "the pick" => (first | exact Pick.here | ((with_reducible refine' Pick.skip ?p8); (case p8 => k_extra "the pick")) | fail "no pick")
  k_with "the news" => (first | k_asm | (refine' news_pick ?n9 ?p9; (case n9 => k_asm); (case p9 => k_extra "the pick")) | fail "no news")
  k_with "call ref" => ((k_here; (with_reducible show wpAny _ _ (call (Value.ref 73) _) _ _ _); k_dflt (refine' take_ok ?kB ?kF ?kX ?kN ?kS ?kT ?kk ?kd ?ku ?kx ?ky ?kt ?_; (case kB => k_asm); (case kF => k_asm); (case kX => k_asm); (case kN => k_extra "the news"); (case kS => k_all); (case kT => k_asm); (case kk => first | exact rfl | assumption); (case kd => ktr_room); (case ku => ktr_units); (case kx => first | assumption | omega); (case ky => assumption); (case kt => first | assumption | decide | omega)); intro r9 tr9 x9 y9 tx9 ty9 n9 h9 tk9 F9 N9 rlo9 rhi9 hx9 hy9; (try k_sweep)))
  k_with "call ref" => ((k_here; (with_reducible show wpAny _ _ (call (Value.ref 80) _) _ _ _); k_dflt (refine' one_ok ?kB ?kF ?kX ?kN ?kS ?kT ?kk ?kd ?ku ?kx ?ky ?kt ?kl ?_; (case kB => k_asm); (case kF => k_asm); (case kX => k_asm); (case kN => k_extra "the news"); (case kS => k_all); (case kT => k_asm); (case kk => first | exact rfl | assumption); (case kd => first | exact room_le (a := 21) (by with_reducible assumption) rfl rfl | ktr_room); (case ku => first | exact room_le (a := 203) (by with_reducible assumption) rfl rfl | ktr_units); (case kx => first | assumption | omega); (case ky => assumption); (case kt => k_extra "mem"); (case kl => first | assumption | exact ⟨by decide, by decide⟩ | exact ⟨Nat.lt_of_sub_eq_succ rfl, Nat.le_of_ble_eq_true rfl⟩)); intro i9 hi9 x9 y9 tx9 ty9 n9 h9 tk9 F9 N9 hx9 hy9; (try k_sweep); (first | (rcases four hi9 with e9 | e9 | e9 | e9 <;> (subst e9; (try dsimp only [List.getElem_cons_zero, List.getElem_cons_succ]))) | (rcases three hi9 with e9 | e9 | e9 <;> (subst e9; (try dsimp only [List.getElem_cons_zero, List.getElem_cons_succ]))) | (rcases two hi9 with e9 | e9 <;> (subst e9; (try dsimp only [List.getElem_cons_zero, List.getElem_cons_succ]))))))
  k_with "the subset" => (first | (k_extra "sub0") | ((refine sub_trans (by with_reducible assumption) ?_); (k_extra "sub0")) | fail "no subset")
  k_with "binaryOp Add ref ref" => ((k_here; (with_reducible show wpAny _ _ (binaryOp _ (Value.ref _) (Value.ref _)) _ _ _); k_dflt (refine' add_dl ?k1 ?k2 ?k3 ?k4 ?k5 ?_; (case k1 => k_asm); (case k2 => k_asm); (case k3 => k_extra "mem"); (case k4 => k_extra "mem"); (case k5 => k_extra "the sizes"); k_whole); intro D' h' F' N' l1; (try k_lt l1); (try k_sweep)))
  k_with "binaryOp Add ref ref" => ((k_here; (with_reducible show wpAny _ _ (binaryOp _ (Value.ref _) (Value.ref _)) _ _ _); k_dflt (refine' add_dt ?k1 ?k2 ?k3 ?k4 ?k5 ?k6 ?_ ?_; (case k1 => k_asm); (case k2 => k_asm); (case k3 => k_extra "mem"); (case k4 => k_extra "mem"); (case k5 => k_extra "the sizes"); (case k6 => exact List.cons_ne_nil _ _)); (all_goals k_whole); (iterate 1 (intro nl9)); rotate_left; (intro nl9 D' h' F' N' l1; (try k_lt l1); (try k_sweep))))
  k_with "the sizes" => (((try simp only [List.length_cons, List.length_nil]); first | omega | (simp only [List.length_append, List.length_cons, List.length_nil]; omega)))
  k_with "TbPost" => ((refine Held.mk ?_))
  k_with "mem0" => (first | ((with_reducible refine List.mem_append_left _ ?_); k_mem) | ((with_reducible refine List.mem_append_right _ ?_); k_mem) | ((with_reducible refine memL ?_); k_mem) | ((with_reducible refine memR ?_); k_mem))
  k_with "mem0" => (assumption)
  k_with "above" => (first | (refine' Abv1.ofNe ?a1 ?a2 ?a3; (case a1 => with_reducible assumption); (case a2 => k_extra "mem"); (case a3 => k_extra "the subset")) | (refine' Abv1.of ?a1 ?a2 ?a3; (case a1 => with_reducible assumption); (case a2 => k_extra "mem"); (case a3 => k_extra "the subset")) | fail "not above")
  k_with "the cut" => (first | exact Cut.here | ((with_reducible refine' Cut.cons ?c8); (case c8 => k_extra "the cut")) | ((with_reducible refine' Cut.app ?c8); (case c8 => k_extra "the cut")) | fail "no cut")
  k_with "all above" => (first |  exact Abv.nil | with_reducible assumption | ((with_reducible refine Abv.cons1 ?_ ?_); (k_extra "above"); (k_extra "all above")) | ((with_reducible refine Abv.app ?_ ?_); (k_extra "all above"); (k_extra "all above")) | ((with_reducible refine' Abv.mono ?a9 ?b9); (case a9 => with_reducible assumption); (case b9 => k_extra "the subset")) | ((with_reducible refine' Abv.ofW ?a9 ?b9 ?c9); (case a9 => with_reducible assumption); (case b9 => k_extra "mem"); (case c9 => k_extra "the subset")) | fail "not all above")
  k_with "kin" => (first | ((with_reducible refine' DatIn.mono ?s9 ?d9); (case d9 => with_reducible assumption); (case s9 => k_extra "the subset")) | fail "no datum")
  k_with "kall" => (first | ((with_reducible refine' DatAll.mono ?s9 ?d9); (case d9 => with_reducible assumption); (case s9 => k_extra "the subset")) | ((with_reducible refine DatAll.append ?_ ?_); (kqd_all); (kqd_all)) | fail "no data")
  k_with "all off" => (first | exact Abw.nil | with_reducible assumption | ((with_reducible refine' Abw.cons ?a9 ?b9 ?c9); (case a9 => with_reducible assumption); (case b9 => k_extra "the subset"); (case c9 => k_extra "all off")) | ((with_reducible refine' Abw.consNe ?a9 ?b9 ?c9); (case a9 => with_reducible assumption); (case b9 => k_extra "the subset"); (case c9 => k_extra "all off")) | ((with_reducible refine Abw.app ?_ ?_); (k_extra "all off"); (k_extra "all off")) | ((with_reducible refine' Abw.mono ?a9 ?b9); (case a9 => with_reducible assumption); (case b9 => k_extra "the subset")) | fail "not all off")
  k_with "all" => ((fail_if_success (with_reducible refine List.forall_mem_cons.mpr ⟨?_, ?_⟩)); first | ((with_reducible refine ne_app ?_ ?_); (k_all); (k_all)) | ((with_reducible refine' Abw.ne ?a9 ?b9); (case a9 => with_reducible assumption); (case b9 => k_extra "mem")) | ((with_reducible refine Abv.ne ?_); with_reducible assumption) | fail "k_all: none")
  k_with "all" => (with_reducible assumption)
  k_with "nesi" => (first | with_reducible exact nes_base (by with_reducible assumption) (by with_reducible assumption) | ((with_reducible refine nes_step (by with_reducible assumption) ?_); k_extra "nesi") | fail "nesi")
  k_with "all" => (((with_reducible refine nes_end ?_); k_extra "nesi"))
  k_with "call ref" => ((k_here; (with_reducible show wpAny _ _ (call (Value.ref 87) _) _ _ _); k_dflt (refine' place_use ?kB ?kF ?kX ?kN ?kS ?kT ?kk ?kd ?ku ?kx ?ky ?_; (case kB => k_asm); (case kF => k_asm); (case kX => k_asm); (case kN => k_extra "the news"); (case kS => k_all); (case kT => k_asm); (case kk => first | exact rfl | assumption); (case kd => first | exact room_le (a := 31) (by with_reducible assumption) rfl rfl | ktr_room); (case ku => first | exact room_le (a := 303) (by with_reducible assumption) rfl rfl | ktr_units); (case kx => first | assumption | omega); (case ky => assumption)); intro p9 v9 w9 a9 k9 tl9 x9 y9 tx9 ty9 n9 h9 tk9 F9 N9 hS9 ab9 hx9 hy9 hlp9 hm9 Dv9 Dw9; (try k_sweep)))
  k_with "subscriptTail Call Name cons nil Constant ref int" => ((k_here; k_dflt (refine' sub_tup ?k1 ?k2 ?k3 ?k7 ?k4 ?k5 ?_ ?k6; (case k1 => k_asm); (case k2 => k_extra "mem"); (case k3 => decide); (case k7 => first | decide | exact (by simp only [List.length_cons, List.length_nil]; omega)); (case k4 => decide); (case k5 => exact rfl); (case k6 => with_unfolding_all rfl); k_whole)))
  k_with "subscriptTail Name Constant ref int" => ((k_here; k_dflt (refine' sub_tup ?k1 ?k2 ?k3 ?k7 ?k4 ?k5 ?_ ?k6; (case k1 => k_asm); (case k2 => k_extra "mem"); (case k3 => decide); (case k7 => first | decide | exact (by simp only [List.length_cons, List.length_nil]; omega)); (case k4 => decide); (case k5 => exact rfl); (case k6 => with_unfolding_all rfl); k_whole)))
  trivial
theorem opd_len {im : List (Addr × Obj)} {vs : List Value} {o : Opd} (D : DatAll im vs o.rows) : vs.length ≤ 1 := by
  rw [D.length]; cases o <;> simp [Opd.rows]
section
set_option maxRecDepth 100000 in
set_option maxHeartbeats 2000000 in
theorem ofopd_ok {prog : Program} {w : World} {mean : ExcName → Option Value} {mg mb : Str → Option Value} {dp un : Nat} {gd : Option (List Code)} {cn : Str} {cs : Scope} {a : Addr} {ccd : Value} {cl : List (Str × Addr)} {outer : List Env} {A₀ : Around} {base h₀ : Heap} {L : Addr} {m : Str → Option Value} {news im : List (Addr × Obj)} {s : Shared}
   {Q E : Value → Shared → Prop} {v : Value} {o : Opd}
   (B : Below A₀ base outer h₀) (F : Fr h₀ L s.heap m) (X : (hd.heap_39 w.params).In h₀) (N : News h₀ L s.heap news) (T : Top view (looseW view []) mean mg mb h₀) (hk : cs.kind = .function)
   (hd : dp + 20 < recursionLimit) (hu : un + 200 < cLine) (sub : ∀ p ∈ im, p ∈ news) (D : DatIn im v o.dat)
   (ret : ∀ l vs k tl h' tk', Fr h₀ L h' m → News h₀ L h' (news ++ tl) → Abw news tl → (l, (listOf vs.toArray k : Obj)) ∈ tl → DatAll (im ++ tl) vs (o.rows) → Q (.ref l) { s with heap := h', toks := tk' }) :
   wpAny (model prog w) (ktrTop dp un gd cn cs L a ccd cl outer) (call (.ref 21) [v]) Q E s := by
  cases o with
  | copy p =>
    cases D with | tuple hm r => ?_
    cases r with | cons d1 r => ?_
    cases d1
    cases r with | cons e0 r => ?_
    cases r
    have hm2 := sub _ hm
    refine wpAny_call ?_
    k_dflt ktr_enter
    k_steps
    (rename Fr _ _ _ _ => F3)
    (rename News _ _ _ _ => N3)
    exact ret _ _ _ _ _ _ F3 (fin_cut0 N3 (by k_extra "the cut")) (by k_extra "all off") (by k_mem) (by kqd_all)
  | move p =>
    cases D with | tuple hm r => ?_
    cases r with | cons d1 r => ?_
    cases d1
    cases r with | cons e0 r => ?_
    cases r
    have hm2 := sub _ hm
    refine wpAny_call ?_
    k_dflt ktr_enter
    k_steps
    (rename Fr _ _ _ _ => F3)
    (rename News _ _ _ _ => N3)
    exact ret _ _ _ _ _ _ F3 (fin_cut0 N3 (by k_extra "the cut")) (by k_extra "all off") (by k_mem) (by kqd_all)
  | const p =>
    cases D with | tuple hm r => ?_
    cases r with | cons d1 r => ?_
    cases d1
    cases r with | cons e0 r => ?_
    cases r with | cons e1 r => ?_
    cases r
    have hm2 := sub _ hm
    refine wpAny_call ?_
    k_dflt ktr_enter
    k_steps
    (rename Fr _ _ _ _ => F3)
    (rename News _ _ _ _ => N3)
    exact ret _ _ _ _ _ _ F3 (fin_cut0 N3 (by k_extra "the cut")) (by k_extra "all off") (by k_mem) (by kqd_all)
end
end
-- Ops
section
local macro_rules | `(tactic| k_lt $h:ident) => `(tactic| ((have raw9 := $h); clear $h))
theorem w10 : True := by
  k_with "call ref" => ((k_here; (with_reducible show wpAny _ _ (call (Value.ref 21) _) _ _ _); k_dflt (refine' ofopd_ok ?kB ?kF ?kX ?kN ?kT ?kk ?kd ?ku ?ks ?kD ?_; (case kB => k_asm); (case kF => k_asm); (case kX => k_asm); (case kN => k_asm); (case kT => k_asm); (case kk => first | exact rfl | assumption); (case kd => ktr_room); (case ku => ktr_units); (case kD => with_reducible assumption); (case ks => k_extra "the subset")); intro l9 vs9 k9 tl9 h9 tk9 F9 N9 ab9 hm9 D9; (try simp only [List.cons_append] at N9); (have le9 := opd_len D9); (try k_sweep)))
  trivial
theorem map2 {m : Str → Option Value} {x a : Str} {v va : Value} (h1 : m a = some va) :
    (fun y => if y = x then some v else m y) = fun y => if y = x then some v else if y = a then some va else m y := by
  funext y
  by_cases e1 : y = x
  · simp only [e1, if_true]
  · simp only [if_neg e1]
    by_cases e2 : y = a
    · subst e2; simp only [if_true]; exact h1
    · simp only [if_neg e2]
theorem map2' {m : Str → Option Value} {a : Str} {va : Value} (h1 : m a = some va) : m = fun y => if y = a then some va else m y := by
  funext y
  by_cases e2 : y = a
  · subst e2; simp only [if_true]; exact h1
  · simp only [if_neg e2]
theorem opd_at {im : List (Addr × Obj)} : ∀ {os : List Opd} {vs : List Value}, DatAll im vs (os.map Opd.dat) → ∀ {i : Nat} {v : Value}, vs[i]? = some v → ∃ o, os[i]? = some o ∧ DatIn im v (Opd.dat o)
  | [], _, h, i, v, hv => by cases h; cases hv
  | o :: os, _, h, i, v, hv => by
    cases h with
    | cons hd hr =>
      cases i with
      | zero => cases hv; exact ⟨o, rfl, hd⟩
      | succ i => exact opd_at hr hv
def OsJ (news im : List (Addr × Obj)) (os : List Opd) (i : Nat) (m : Str → Option Value) (nx : List (Addr × Obj)) : Prop :=
  ∃ (fl : Addr) (fv : List Value) (fk : Nat) (tl : List (Addr × Obj)), nx = (fl, listOf fv.toArray fk) :: (news ++ tl) ∧ (∀ p ∈ news ++ tl, p.1 ≠ fl) ∧ Abw news tl ∧ m (Str.ofString "found") = some (.ref fl) ∧ DatAll (im ++ tl) fv ((os.take i).flatMap Opd.rows) ∧ fv.length ≤ i
theorem os_end {h₀ h' : Heap} {L a fl : Addr} {vs fv vs9 : List Value} {k fk n9 i tk : Nat} {m : Str → Option Value} {news im tl own tl9 : List (Addr × Obj)} {os : List Opd} {o : Opd} {s₁ : Shared} {Q : Flow → Shared → Prop} (F : Fr h₀ L h' m)
    (N : News h₀ L h' ((fl, listOf (fv ++ vs9).toArray n9) :: ((news ++ tl) ++ own ++ tl9))) (hoff : TbOff own ((fl, listOf fv.toArray fk) :: (news ++ tl))) (hm : (a, tupOf vs.toArray k) ∈ news) (hf : ∀ p ∈ news ++ tl, p.1 ≠ fl) (hab : Abw news tl)
    (ab9 : Abw ((fl, listOf fv.toArray fk) :: ((news ++ tl) ++ own)) tl9) (e1 : m (Str.ofString "found") = some (.ref fl)) (hD : DatAll (im ++ tl) fv ((os.take i).flatMap Opd.rows)) (hz : fv.length ≤ i) (ho : os[i]? = some o) (D9 : DatAll (im ++ tl9) vs9 o.rows) :
    TbPost h₀ L (fun m' nx => (a, tupOf vs.toArray k) ∈ nx ∧ OsJ news im os (i + 1) m' nx) own s₁ Q .next { s₁ with heap := h', toks := tk } := by
  have le9 := opd_len D9
  refine ⟨h', tk, m, _, (fl, listOf (fv ++ vs9).toArray n9) :: (news ++ (tl ++ tl9)), rfl, F, N, ?_, ?_, ?_, .tail _ (List.mem_append_left _ hm), fl, fv ++ vs9, n9, tl ++ tl9, rfl, ?_, ?_, e1, ?_, ?_⟩
  · intro p hp
    simp only [List.mem_cons, List.mem_append] at hp ⊢
    rcases hp with hp | hp | hp | hp <;> simp only [hp, true_or, or_true]
  · intro p hp
    simp only [List.mem_cons, List.mem_append, hp, true_or, or_true]
  · intro p hp q hq
    rcases List.mem_cons.mp hq with rfl | hq
    · exact hoff p hp (fl, listOf fv.toArray fk) (.head _)
    · rcases List.mem_append.mp hq with hq | hq
      · exact hoff p hp q (.tail _ (List.mem_append_left _ hq))
      · rcases List.mem_append.mp hq with hq | hq
        · exact hoff p hp q (.tail _ (List.mem_append_right _ hq))
        · exact fun e => ab9 q hq p (.tail _ (List.mem_append_right _ hp)) e.symm
  · intro p hp
    rcases List.mem_append.mp hp with hp | hp
    · exact hf p (List.mem_append_left _ hp)
    · rcases List.mem_append.mp hp with hp | hp
      · exact hf p (List.mem_append_right _ hp)
      · exact ab9 p hp (fl, _) (.head _)
  · exact hab.app (ab9.mono fun p hp => .tail _ (List.mem_append_left _ (List.mem_append_left _ hp)))
  · rw [take_snoc1 ho, List.flatMap_append]
    refine (hD.mono fun p hp => ?_).append ?_
    · simp only [List.mem_append] at hp ⊢
      rcases hp with hp | hp <;> simp only [hp, true_or, or_true]
    · simp only [List.flatMap_cons, List.flatMap_nil, List.append_nil]
      refine D9.mono fun p hp => ?_
      simp only [List.mem_append] at hp ⊢
      rcases hp with hp | hp <;> simp only [hp, true_or, or_true]
  · rw [List.length_append]; omega
section
theorem w11 : True := by
  k_with "exec For Name Name cons nil" => ((k_here; (rename Fr _ _ _ _ => lF'); (with_unfolding_all refine' For_invVF lF' ?k1 ?k2 ?_; (case k1 => exact rfl); (case k2 => exact rfl); k_whole)))
  k_with "pyIter ref" => ((refine Held.mk ?_))
  k_with "call builtin:list.extend" => ((k_here; k_dflt (refine' ext_dl ?k1 ?k2 ?k3 ?k4 ?k5 ?_; (case k1 => k_asm); (case k2 => k_asm); (case k4 => k_mem); (case k3 => k_all); (case k5 => k_extra "the sizes")); intro n9 h9 F9 N9; (try k_sweep)))
  trivial
set_option maxRecDepth 100000 in
set_option maxHeartbeats 2000000 in
theorem ofopds_ok {prog : Program} {w : World} {mean : ExcName → Option Value} {mg mb : Str → Option Value} {dp un : Nat} {gd : Option (List Code)} {cn : Str} {cs : Scope} {a : Addr} {ccd : Value} {cl : List (Str × Addr)} {outer : List Env} {A₀ : Around} {base h₀ : Heap} {L : Addr} {m : Str → Option Value} {news im : List (Addr × Obj)} {s : Shared}
   {Q E : Value → Shared → Prop} {t : Addr} {os : List Opd}
   (B : Below A₀ base outer h₀) (F : Fr h₀ L s.heap m) (X : (hd.heap_39 w.params).In h₀) (N : News h₀ L s.heap news) (T : Top view (looseW view []) mean mg mb h₀) (hk : cs.kind = .function)
   (hd : dp + 40 < recursionLimit) (hu : un + 400 < cLine) (sub : ∀ p ∈ im, p ∈ news) (D : DatIn im (.ref t) (.tuple (os.map Opd.dat))) (hos : os.length ≤ 10)
   (ret : ∀ l vs k tl h' tk', Fr h₀ L h' m → News h₀ L h' (news ++ tl) → Abw news tl → (l, (listOf vs.toArray k : Obj)) ∈ tl → DatAll (im ++ tl) vs (os.flatMap Opd.rows) → Q (.ref l) { s with heap := h', toks := tk' }) :
   wpAny (model prog w) (ktrTop dp un gd cn cs L a ccd cl outer) (call (.ref 28) [.ref t]) Q E s := by
  cases D with | tuple hm D1 => ?_
  rename_i vs k
  have hm2 := sub _ hm
  have hvl : vs.length = os.length := by rw [D1.length, List.length_map]
  refine wpAny_call ?_
  k_dflt ktr_enter
  k_steps
  refine Held.out ?_
  (rename Fr _ _ _ _ => F1)
  (rename News _ _ _ _ => N1)
  rw [← List.append_nil news] at N1
  refine tup_iter (OsJ news im os) rfl (by k_mem) F1 N1 ?_ ?_ ?_
  · exact ⟨_, [], 0, [], rfl, by intro p hp; rw [List.append_nil] at hp; exact Nat.ne_of_lt (‹∀ p ∈ news, p.1 < _› p hp), Abw.nil, by exact rfl, .nil, Nat.le_refl _⟩
  · clear F1 N1
    rintro i v m₁ nx h tk own hv hoff hmn ⟨fl, fv, fk, tl, rfl, hf, hab, e1, hD, hz⟩ F2 N2
    rw [map2 e1] at F2
    simp only [List.cons_append] at N2
    obtain ⟨o, ho, Dv⟩ := opd_at D1 hv
    have hi9 := (List.getElem?_eq_some_iff.mp hv).1
    have hf3 : ∀ p ∈ own, p.1 ≠ fl := fun p hp => hoff p hp _ (.head _)
    k_steps
    (rename Fr _ _ _ _ => F3)
    (rename News _ _ _ _ => N3)
    refine Held.out (os_end F3 N3 hoff hm2 hf hab (by assumption) (by exact rfl) hD hz ho (by assumption))
  · clear F1 N1
    rintro m₁ nx h tk ⟨fl, fv, fk, tl, rfl, hf, hab, e1, hD, hz⟩ F2 N2
    rw [map2' e1] at F2
    rw [List.take_of_length_le (by omega)] at hD
    k_steps
    (rename Fr _ _ _ _ => F3)
    (rename News _ _ _ _ => N3)
    exact ret fl fv fk ((fl, listOf fv.toArray fk) :: tl) _ _ F3 (fin_cut0 N3 (Cut.cons (Cut.app0))) (Abw.consNe hf (fun p hp => List.mem_append_left _ hp) hab) (.head _) (hD.mono (by k_extra "the subset"))
end
end
-- Bor
section
local macro_rules | `(tactic| k_lt $h:ident) => `(tactic| ((have raw9 := $h); clear $h))
section
theorem w12 : True := by
  k_with_none
  k_with "all" => (assumption)
  k_with "mem0" => (assumption)
  k_with "mem" => (first | with_reducible exact List.mem_cons_self | ((with_reducible refine List.mem_cons_of_mem _ ?_); k_extra "mem") | with_reducible assumption | ((with_reducible refine List.mem_append_left _ ?_); k_extra "mem") | ((with_reducible refine List.mem_append_right _ ?_); k_extra "mem") | fail "no member")
  k_with "sub0" => (first | with_reducible exact sub_refl | with_reducible exact sub_nil | ((with_reducible refine sub_app ?_ ?_); (k_extra "sub0"); (k_extra "sub0")) | ((with_reducible refine sub_consS ?_ ?_); (k_extra "mem"); (k_extra "sub0")) | ((with_reducible refine sub_cons ?_); (k_extra "sub0")) | ((with_reducible refine sub_appR ?_); with_reducible exact sub_refl) | ((with_reducible refine sub_appL ?_); (k_extra "sub0")) | ((with_reducible refine sub_appR ?_); (k_extra "sub0")) | fail "no subset")
  k_with "datin" => (first | with_reducible exact DatIn.none | with_reducible exact DatIn.int _ _ | with_reducible exact DatIn.bool _ | with_reducible exact DatIn.str _ _ | ((with_reducible refine' DatIn.mono ?s9 ?d9); (case d9 => with_reducible assumption); (case s9 => k_extra "the subset")) | (refine' DatIn.tuple ?m9 ?r9; (case m9 => k_extra "mem"); (case r9 => k_extra "datall")) | (refine' DatIn.list ?m9 ?r9; (case m9 => k_extra "mem"); (case r9 => k_extra "datall")) | exact DatIn.int _ _ | exact DatIn.str _ _ | fail "no datum")
  k_with "datall" => (first | with_reducible exact DatAll.nil | ((with_reducible refine' DatAll.mono ?s9 ?d9); (case d9 => with_reducible assumption); (case s9 => k_extra "the subset")) | ((with_reducible refine DatAll.append ?_ ?_); (k_extra "datall"); (k_extra "datall")) | (refine' DatAll.cons ?_ ?_; (k_extra "datin"); (k_extra "datall")) | exact DatAll.nil | fail "no data")
  k_with "the pick" => (first | exact Pick.here | ((with_reducible refine' Pick.skip ?p8); (case p8 => k_extra "the pick")) | fail "no pick")
  k_with "the news" => (first | k_asm | (refine' news_pick ?n9 ?p9; (case n9 => k_asm); (case p9 => k_extra "the pick")) | fail "no news")
  k_with "call ref" => ((k_here; (with_reducible show wpAny _ _ (call (Value.ref 73) _) _ _ _); k_dflt (refine' take_ok ?kB ?kF ?kX ?kN ?kS ?kT ?kk ?kd ?ku ?kx ?ky ?kt ?_; (case kB => k_asm); (case kF => k_asm); (case kX => k_asm); (case kN => k_extra "the news"); (case kS => k_all); (case kT => k_asm); (case kk => first | exact rfl | assumption); (case kd => ktr_room); (case ku => ktr_units); (case kx => first | assumption | omega); (case ky => assumption); (case kt => first | assumption | decide | omega)); intro r9 tr9 x9 y9 tx9 ty9 n9 h9 tk9 F9 N9 rlo9 rhi9 hx9 hy9; (try k_sweep)))
  k_with "call ref" => ((k_here; (with_reducible show wpAny _ _ (call (Value.ref 80) _) _ _ _); k_dflt (refine' one_ok ?kB ?kF ?kX ?kN ?kS ?kT ?kk ?kd ?ku ?kx ?ky ?kt ?kl ?_; (case kB => k_asm); (case kF => k_asm); (case kX => k_asm); (case kN => k_extra "the news"); (case kS => k_all); (case kT => k_asm); (case kk => first | exact rfl | assumption); (case kd => first | exact room_le (a := 21) (by with_reducible assumption) rfl rfl | ktr_room); (case ku => first | exact room_le (a := 203) (by with_reducible assumption) rfl rfl | ktr_units); (case kx => first | assumption | omega); (case ky => assumption); (case kt => k_extra "mem"); (case kl => first | assumption | exact ⟨by decide, by decide⟩ | exact ⟨Nat.lt_of_sub_eq_succ rfl, Nat.le_of_ble_eq_true rfl⟩)); intro i9 hi9 x9 y9 tx9 ty9 n9 h9 tk9 F9 N9 hx9 hy9; (try k_sweep); (first | (rcases four hi9 with e9 | e9 | e9 | e9 <;> (subst e9; (try dsimp only [List.getElem_cons_zero, List.getElem_cons_succ]))) | (rcases three hi9 with e9 | e9 | e9 <;> (subst e9; (try dsimp only [List.getElem_cons_zero, List.getElem_cons_succ]))) | (rcases two hi9 with e9 | e9 <;> (subst e9; (try dsimp only [List.getElem_cons_zero, List.getElem_cons_succ]))))))
  k_with "the subset" => (first | (k_extra "sub0") | ((refine sub_trans (by with_reducible assumption) ?_); (k_extra "sub0")) | fail "no subset")
  k_with "binaryOp Add ref ref" => ((k_here; (with_reducible show wpAny _ _ (binaryOp _ (Value.ref _) (Value.ref _)) _ _ _); k_dflt (refine' add_dl ?k1 ?k2 ?k3 ?k4 ?k5 ?_; (case k1 => k_asm); (case k2 => k_asm); (case k3 => k_extra "mem"); (case k4 => k_extra "mem"); (case k5 => k_extra "the sizes"); k_whole); intro D' h' F' N' l1; (try k_lt l1); (try k_sweep)))
  k_with "binaryOp Add ref ref" => ((k_here; (with_reducible show wpAny _ _ (binaryOp _ (Value.ref _) (Value.ref _)) _ _ _); k_dflt (refine' add_dt ?k1 ?k2 ?k3 ?k4 ?k5 ?k6 ?_ ?_; (case k1 => k_asm); (case k2 => k_asm); (case k3 => k_extra "mem"); (case k4 => k_extra "mem"); (case k5 => k_extra "the sizes"); (case k6 => exact List.cons_ne_nil _ _)); (all_goals k_whole); (iterate 1 (intro nl9)); rotate_left; (intro nl9 D' h' F' N' l1; (try k_lt l1); (try k_sweep))))
  k_with "the sizes" => (((try simp only [List.length_cons, List.length_nil]); first | omega | (simp only [List.length_append, List.length_cons, List.length_nil]; omega)))
  k_with "TbPost" => ((refine Held.mk ?_))
  k_with "mem0" => (first | ((with_reducible refine List.mem_append_left _ ?_); k_mem) | ((with_reducible refine List.mem_append_right _ ?_); k_mem) | ((with_reducible refine memL ?_); k_mem) | ((with_reducible refine memR ?_); k_mem))
  k_with "mem0" => (assumption)
  k_with "above" => (first | (refine' Abv1.ofNe ?a1 ?a2 ?a3; (case a1 => with_reducible assumption); (case a2 => k_extra "mem"); (case a3 => k_extra "the subset")) | (refine' Abv1.of ?a1 ?a2 ?a3; (case a1 => with_reducible assumption); (case a2 => k_extra "mem"); (case a3 => k_extra "the subset")) | fail "not above")
  k_with "the cut" => (first | exact Cut.here | ((with_reducible refine' Cut.cons ?c8); (case c8 => k_extra "the cut")) | ((with_reducible refine' Cut.app ?c8); (case c8 => k_extra "the cut")) | fail "no cut")
  k_with "all above" => (first |  exact Abv.nil | with_reducible assumption | ((with_reducible refine Abv.cons1 ?_ ?_); (k_extra "above"); (k_extra "all above")) | ((with_reducible refine Abv.app ?_ ?_); (k_extra "all above"); (k_extra "all above")) | ((with_reducible refine' Abv.mono ?a9 ?b9); (case a9 => with_reducible assumption); (case b9 => k_extra "the subset")) | ((with_reducible refine' Abv.ofW ?a9 ?b9 ?c9); (case a9 => with_reducible assumption); (case b9 => k_extra "mem"); (case c9 => k_extra "the subset")) | fail "not all above")
  k_with "kin" => (first | ((with_reducible refine' DatIn.mono ?s9 ?d9); (case d9 => with_reducible assumption); (case s9 => k_extra "the subset")) | fail "no datum")
  k_with "kall" => (first | ((with_reducible refine' DatAll.mono ?s9 ?d9); (case d9 => with_reducible assumption); (case s9 => k_extra "the subset")) | ((with_reducible refine DatAll.append ?_ ?_); (kqd_all); (kqd_all)) | fail "no data")
  k_with "all off" => (first | exact Abw.nil | with_reducible assumption | ((with_reducible refine' Abw.cons ?a9 ?b9 ?c9); (case a9 => with_reducible assumption); (case b9 => k_extra "the subset"); (case c9 => k_extra "all off")) | ((with_reducible refine' Abw.consNe ?a9 ?b9 ?c9); (case a9 => with_reducible assumption); (case b9 => k_extra "the subset"); (case c9 => k_extra "all off")) | ((with_reducible refine Abw.app ?_ ?_); (k_extra "all off"); (k_extra "all off")) | ((with_reducible refine' Abw.mono ?a9 ?b9); (case a9 => with_reducible assumption); (case b9 => k_extra "the subset")) | fail "not all off")
  k_with "all" => ((fail_if_success (with_reducible refine List.forall_mem_cons.mpr ⟨?_, ?_⟩)); first | ((with_reducible refine ne_app ?_ ?_); (k_all); (k_all)) | ((with_reducible refine' Abw.ne ?a9 ?b9); (case a9 => with_reducible assumption); (case b9 => k_extra "mem")) | ((with_reducible refine Abv.ne ?_); with_reducible assumption) | fail "k_all: none")
  k_with "all" => (with_reducible assumption)
  k_with "nesi" => (first | with_reducible exact nes_base (by with_reducible assumption) (by with_reducible assumption) | ((with_reducible refine nes_step (by with_reducible assumption) ?_); k_extra "nesi") | fail "nesi")
  k_with "all" => (((with_reducible refine nes_end ?_); k_extra "nesi"))
  k_with "call ref" => ((k_here; (with_reducible show wpAny _ _ (call (Value.ref 87) _) _ _ _); k_dflt (refine' place_use ?kB ?kF ?kX ?kN ?kS ?kT ?kk ?kd ?ku ?kx ?ky ?_; (case kB => k_asm); (case kF => k_asm); (case kX => k_asm); (case kN => k_extra "the news"); (case kS => k_all); (case kT => k_asm); (case kk => first | exact rfl | assumption); (case kd => first | exact room_le (a := 31) (by with_reducible assumption) rfl rfl | ktr_room); (case ku => first | exact room_le (a := 303) (by with_reducible assumption) rfl rfl | ktr_units); (case kx => first | assumption | omega); (case ky => assumption)); intro p9 v9 w9 a9 k9 tl9 x9 y9 tx9 ty9 n9 h9 tk9 F9 N9 hS9 ab9 hx9 hy9 hlp9 hm9 Dv9 Dw9; (try k_sweep)))
  k_with "subscriptTail Call Name cons nil Constant ref int" => ((k_here; k_dflt (refine' sub_tup ?k1 ?k2 ?k3 ?k7 ?k4 ?k5 ?_ ?k6; (case k1 => k_asm); (case k2 => k_extra "mem"); (case k3 => decide); (case k7 => first | decide | exact (by simp only [List.length_cons, List.length_nil]; omega)); (case k4 => decide); (case k5 => exact rfl); (case k6 => with_unfolding_all rfl); k_whole)))
  k_with "subscriptTail Name Constant ref int" => ((k_here; k_dflt (refine' sub_tup ?k1 ?k2 ?k3 ?k7 ?k4 ?k5 ?_ ?k6; (case k1 => k_asm); (case k2 => k_extra "mem"); (case k3 => decide); (case k7 => first | decide | exact (by simp only [List.length_cons, List.length_nil]; omega)); (case k4 => decide); (case k5 => exact rfl); (case k6 => with_unfolding_all rfl); k_whole)))
  k_with "call ref" => ((k_here; (with_reducible show wpAny _ _ (call (Value.ref 21) _) _ _ _); k_dflt (refine' ofopd_ok ?kB ?kF ?kX ?kN ?kT ?kk ?kd ?ku ?ks ?kD ?_; (case kB => k_asm); (case kF => k_asm); (case kX => k_asm); (case kN => k_asm); (case kT => k_asm); (case kk => first | exact rfl | assumption); (case kd => ktr_room); (case ku => ktr_units); (case kD => with_reducible assumption); (case ks => k_extra "the subset")); intro l9 vs9 k9 tl9 h9 tk9 F9 N9 ab9 hm9 D9; (try simp only [List.cons_append] at N9); (have le9 := opd_len D9); (try k_sweep)))
  trivial
set_option maxRecDepth 100000 in
set_option maxHeartbeats 2000000 in
theorem ofbor_mut {prog : Program} {w : World} {mean : ExcName → Option Value} {mg mb : Str → Option Value} {dp un : Nat} {gd : Option (List Code)} {cn : Str} {cs : Scope} {a : Addr} {ccd : Value} {cl : List (Str × Addr)} {outer : List Env} {A₀ : Around} {base h₀ : Heap} {L : Addr} {m : Str → Option Value} {news im : List (Addr × Obj)} {s : Shared}
   {Q E : Value → Shared → Prop} {tk : Nat} {v : Value} {p : Plc}
   (B : Below A₀ base outer h₀) (F : Fr h₀ L s.heap m) (X : (hd.heap_39 w.params).In h₀) (N : News h₀ L s.heap news) (T : Top view (looseW view []) mean mg mb h₀) (hk : cs.kind = .function)
   (hd : dp + 20 < recursionLimit) (hu : un + 200 < cLine) (sub : ∀ p ∈ im, p ∈ news) (D : DatIn im v p.dat)
   (ret : ∀ l vs k tl h' tk', Fr h₀ L h' m → News h₀ L h' (news ++ tl) → Abw news tl → (l, (listOf vs.toArray k : Obj)) ∈ tl → DatAll (im ++ tl) vs ([row p.dat (Str.ofString "deep") (Str.ofString "write") (Str.ofString "mut")]) → Q (.ref l) { s with heap := h', toks := tk' }) :
   wpAny (model prog w) (ktrTop dp un gd cn cs L a ccd cl outer) (call (.ref 35) [.str (Str.ofString "mut") tk, v]) Q E s := by
  refine wpAny_call ?_
  k_dflt ktr_enter
  k_steps
  (rename Fr _ _ _ _ => F3)
  (rename News _ _ _ _ => N3)
  exact ret _ _ _ _ _ _ F3 (fin_cut0 N3 (by k_extra "the cut")) (by k_extra "all off") (by k_mem) (by kqd_all)
set_option maxRecDepth 100000 in
set_option maxHeartbeats 2000000 in
theorem ofbor_ref {prog : Program} {w : World} {mean : ExcName → Option Value} {mg mb : Str → Option Value} {dp un : Nat} {gd : Option (List Code)} {cn : Str} {cs : Scope} {a : Addr} {ccd : Value} {cl : List (Str × Addr)} {outer : List Env} {A₀ : Around} {base h₀ : Heap} {L : Addr} {m : Str → Option Value} {news im : List (Addr × Obj)} {s : Shared}
   {Q E : Value → Shared → Prop} {kd : Str} {tk : Nat} {v : Value} {p : Plc}
   (B : Below A₀ base outer h₀) (F : Fr h₀ L s.heap m) (X : (hd.heap_39 w.params).In h₀) (N : News h₀ L s.heap news) (T : Top view (looseW view []) mean mg mb h₀) (hk : cs.kind = .function)
   (hd : dp + 20 < recursionLimit) (hu : un + 200 < cLine) (sub : ∀ p ∈ im, p ∈ news) (D : DatIn im v p.dat) (hkm : kd ≠ Str.ofString "mut")
   (ret : ∀ l vs k tl h' tk', Fr h₀ L h' m → News h₀ L h' (news ++ tl) → Abw news tl → (l, (listOf vs.toArray k : Obj)) ∈ tl → DatAll (im ++ tl) vs ([row p.dat (Str.ofString "deep") (Str.ofString "read") kd]) → Q (.ref l) { s with heap := h', toks := tk' }) :
   wpAny (model prog w) (ktrTop dp un gd cn cs L a ccd cl outer) (call (.ref 35) [.str kd tk, v]) Q E s := by
  refine wpAny_call ?_
  k_dflt ktr_enter
  k_steps
  · exfalso
    exact hkm (beq_iff_eq.mp (by assumption))
  · (rename Fr _ _ _ _ => F3)
    (rename News _ _ _ _ => N3)
    exact ret _ _ _ _ _ _ F3 (fin_cut0 N3 (by k_extra "the cut")) (by k_extra "all off") (by k_mem) (by kqd_all)
end
end
-- Rvd
theorem opds_len {im : List (Addr × Obj)} {vs : List Value} {os : List Opd} (D : DatAll im vs (os.flatMap Opd.rows)) : vs.length ≤ os.length := by
  rw [D.length]; exact rows_le os
def numd : Dat := .tuple [.str (Str.ofString "int"), .str (Str.ofString "u8")]
inductive Rv where
  | use (o : Opd)
  | box (o : Opd)
  | cast (o : Opd)
  | binary (o o' : Opd)
  | checked (o o' : Opd)
  | unary (o : Opd)
  | tuple (os : List Opd)
  | array (os : List Opd)
  | adt (os : List Opd)
  | refm (p : Plc)
  | ref (kd : Str) (hkm : kd ≠ Str.ofString "mut") (hko : PyData.strOk kd = true) (p : Plc)
  | disc (p : Plc)
def Rv.dat : Rv → Dat
  | .use o => .tuple [.str (Str.ofString "use"), o.dat]
  | .box o => .tuple [.str (Str.ofString "box"), o.dat]
  | .cast o => .tuple [.str (Str.ofString "cast"), o.dat, numd]
  | .binary o o' => .tuple [.str (Str.ofString "binary"), .str (Str.ofString "+"), o.dat, o'.dat]
  | .checked o o' => .tuple [.str (Str.ofString "checked"), .str (Str.ofString "*"), o.dat, o'.dat]
  | .unary o => .tuple [.str (Str.ofString "unary"), .str (Str.ofString "-"), o.dat]
  | .tuple os => .tuple [.str (Str.ofString "tuple"), .tuple (os.map Opd.dat)]
  | .array os => .tuple [.str (Str.ofString "array"), .tuple (os.map Opd.dat)]
  | .adt os => .tuple [.str (Str.ofString "adt"), .tuple [.str (Str.ofString "adt"), .str (Str.ofString "S"), .tuple [], .tuple []], .int 2, .tuple (os.map Opd.dat)]
  | .refm p => .tuple [.str (Str.ofString "ref"), .none, .str (Str.ofString "mut"), p.dat]
  | .ref kd _ _ p => .tuple [.str (Str.ofString "ref"), .str (Str.ofString "'a"), .str kd, p.dat]
  | .disc p => .tuple [.str (Str.ofString "discriminant"), p.dat]
def Rv.rows : Rv → List Dat
  | .use o => o.rows
  | .box o => o.rows
  | .cast o => o.rows
  | .binary o o' => o.rows ++ o'.rows
  | .checked o o' => o.rows ++ o'.rows
  | .unary o => o.rows
  | .tuple os => os.flatMap Opd.rows
  | .array os => os.flatMap Opd.rows
  | .adt os => os.flatMap Opd.rows
  | .refm p => [row p.dat (Str.ofString "deep") (Str.ofString "write") (Str.ofString "mut")]
  | .ref kd _ _ p => [row p.dat (Str.ofString "deep") (Str.ofString "read") kd]
  | .disc p => [row p.dat (Str.ofString "shallow") (Str.ofString "read") (Str.ofString "copy")]
def Rv.few : Rv → Prop
  | .tuple os => os.length ≤ 10
  | .array os => os.length ≤ 10
  | .adt os => os.length ≤ 10
  | _ => True
-- Ofr
section
local macro_rules | `(tactic| k_lt $h:ident) => `(tactic| ((have raw9 := $h); clear $h))
theorem w13 : True := by
  k_with "call ref" => ((k_here; (with_reducible show wpAny _ _ (call (Value.ref 28) _) _ _ _); k_dflt (refine' ofopds_ok ?kB ?kF ?kX ?kN ?kT ?kk ?kd ?ku ?ks ?kD ?kl ?_; (case kB => k_asm); (case kF => k_asm); (case kX => k_asm); (case kN => k_asm); (case kT => k_asm); (case kk => first | exact rfl | assumption); (case kd => ktr_room); (case ku => ktr_units); (case kD => with_reducible assumption); (case kl => with_reducible assumption); (case ks => k_extra "the subset")); intro l9 vs9 k9 tl9 h9 tk9 F9 N9 ab9 hm9 D9; (try simp only [List.cons_append] at N9); (have le9 := opds_len D9); (try k_sweep)))
  k_with "call ref" => ((k_here; (with_reducible show wpAny _ _ (call (Value.ref 35) _) _ _ _); k_dflt (refine' ofbor_mut ?kB ?kF ?kX ?kN ?kT ?kk ?kd ?ku ?ks ?kD ?_; (case kB => k_asm); (case kF => k_asm); (case kX => k_asm); (case kN => k_asm); (case kT => k_asm); (case kk => first | exact rfl | assumption); (case kd => first | exact room_le (a := 21) (by with_reducible assumption) rfl rfl | ktr_room); (case ku => first | exact room_le (a := 203) (by with_reducible assumption) rfl rfl | ktr_units); (case kD => with_reducible assumption); (case ks => k_extra "the subset")); intro l9 vs9 k9 tl9 h9 tk9 F9 N9 ab9 hm9 D9; (try simp only [List.cons_append] at N9); (try k_sweep)))
  k_with "call ref" => ((k_here; (with_reducible show wpAny _ _ (call (Value.ref 35) _) _ _ _); k_dflt (refine' ofbor_ref ?kB ?kF ?kX ?kN ?kT ?kk ?kd ?ku ?ks ?kD ?km ?_; (case km => with_reducible assumption); (case kB => k_asm); (case kF => k_asm); (case kX => k_asm); (case kN => k_asm); (case kT => k_asm); (case kk => first | exact rfl | assumption); (case kd => first | exact room_le (a := 21) (by with_reducible assumption) rfl rfl | ktr_room); (case ku => first | exact room_le (a := 203) (by with_reducible assumption) rfl rfl | ktr_units); (case kD => with_reducible assumption); (case ks => k_extra "the subset")); intro l9 vs9 k9 tl9 h9 tk9 F9 N9 ab9 hm9 D9; (try simp only [List.cons_append] at N9); (try k_sweep)))
  trivial
theorem inv_use {n : List (Addr × Obj)} {v : Value} {o : Opd} (D : DatIn n v (Rv.dat (.use o))) : ∃ (b : Addr) (k : Nat) (t0 : Nat) (v1 : Value), v = .ref b ∧ (b, tupOf [.str (Str.ofString "use") t0, v1].toArray k) ∈ n ∧ DatIn n v1 (o.dat) := by
  obtain ⟨b, ws, k, rfl, hm, r⟩ := inv_tup D
  obtain ⟨v0, w0, rfl, d0, r0⟩ := inv_cons r
  obtain ⟨t0, rfl⟩ := inv_str d0
  obtain ⟨v1, w1, rfl, d1, r1⟩ := inv_cons r0
  obtain rfl := inv_nil r1
  exact ⟨_, _, _, _, rfl, hm, d1⟩
theorem inv_box {n : List (Addr × Obj)} {v : Value} {o : Opd} (D : DatIn n v (Rv.dat (.box o))) : ∃ (b : Addr) (k : Nat) (t0 : Nat) (v1 : Value), v = .ref b ∧ (b, tupOf [.str (Str.ofString "box") t0, v1].toArray k) ∈ n ∧ DatIn n v1 (o.dat) := by
  obtain ⟨b, ws, k, rfl, hm, r⟩ := inv_tup D
  obtain ⟨v0, w0, rfl, d0, r0⟩ := inv_cons r
  obtain ⟨t0, rfl⟩ := inv_str d0
  obtain ⟨v1, w1, rfl, d1, r1⟩ := inv_cons r0
  obtain rfl := inv_nil r1
  exact ⟨_, _, _, _, rfl, hm, d1⟩
theorem inv_cast {n : List (Addr × Obj)} {v : Value} {o : Opd} (D : DatIn n v (Rv.dat (.cast o))) : ∃ (b : Addr) (k : Nat) (t0 : Nat) (v1 : Value) (v2 : Value), v = .ref b ∧ (b, tupOf [.str (Str.ofString "cast") t0, v1, v2].toArray k) ∈ n ∧ DatIn n v1 (o.dat) ∧ DatIn n v2 (numd) := by
  obtain ⟨b, ws, k, rfl, hm, r⟩ := inv_tup D
  obtain ⟨v0, w0, rfl, d0, r0⟩ := inv_cons r
  obtain ⟨t0, rfl⟩ := inv_str d0
  obtain ⟨v1, w1, rfl, d1, r1⟩ := inv_cons r0
  obtain ⟨v2, w2, rfl, d2, r2⟩ := inv_cons r1
  obtain rfl := inv_nil r2
  exact ⟨_, _, _, _, _, rfl, hm, d1, d2⟩
theorem inv_binary {n : List (Addr × Obj)} {v : Value} {o o' : Opd} (D : DatIn n v (Rv.dat (.binary o o'))) : ∃ (b : Addr) (k : Nat) (t0 : Nat) (t1 : Nat) (v2 : Value) (v3 : Value), v = .ref b ∧ (b, tupOf [.str (Str.ofString "binary") t0, .str (Str.ofString "+") t1, v2, v3].toArray k) ∈ n ∧ DatIn n v2 (o.dat) ∧ DatIn n v3 (o'.dat) := by
  obtain ⟨b, ws, k, rfl, hm, r⟩ := inv_tup D
  obtain ⟨v0, w0, rfl, d0, r0⟩ := inv_cons r
  obtain ⟨t0, rfl⟩ := inv_str d0
  obtain ⟨v1, w1, rfl, d1, r1⟩ := inv_cons r0
  obtain ⟨t1, rfl⟩ := inv_str d1
  obtain ⟨v2, w2, rfl, d2, r2⟩ := inv_cons r1
  obtain ⟨v3, w3, rfl, d3, r3⟩ := inv_cons r2
  obtain rfl := inv_nil r3
  exact ⟨_, _, _, _, _, _, rfl, hm, d2, d3⟩
theorem inv_checked {n : List (Addr × Obj)} {v : Value} {o o' : Opd} (D : DatIn n v (Rv.dat (.checked o o'))) : ∃ (b : Addr) (k : Nat) (t0 : Nat) (t1 : Nat) (v2 : Value) (v3 : Value), v = .ref b ∧ (b, tupOf [.str (Str.ofString "checked") t0, .str (Str.ofString "*") t1, v2, v3].toArray k) ∈ n ∧ DatIn n v2 (o.dat) ∧ DatIn n v3 (o'.dat) := by
  obtain ⟨b, ws, k, rfl, hm, r⟩ := inv_tup D
  obtain ⟨v0, w0, rfl, d0, r0⟩ := inv_cons r
  obtain ⟨t0, rfl⟩ := inv_str d0
  obtain ⟨v1, w1, rfl, d1, r1⟩ := inv_cons r0
  obtain ⟨t1, rfl⟩ := inv_str d1
  obtain ⟨v2, w2, rfl, d2, r2⟩ := inv_cons r1
  obtain ⟨v3, w3, rfl, d3, r3⟩ := inv_cons r2
  obtain rfl := inv_nil r3
  exact ⟨_, _, _, _, _, _, rfl, hm, d2, d3⟩
theorem inv_unary {n : List (Addr × Obj)} {v : Value} {o : Opd} (D : DatIn n v (Rv.dat (.unary o))) : ∃ (b : Addr) (k : Nat) (t0 : Nat) (t1 : Nat) (v2 : Value), v = .ref b ∧ (b, tupOf [.str (Str.ofString "unary") t0, .str (Str.ofString "-") t1, v2].toArray k) ∈ n ∧ DatIn n v2 (o.dat) := by
  obtain ⟨b, ws, k, rfl, hm, r⟩ := inv_tup D
  obtain ⟨v0, w0, rfl, d0, r0⟩ := inv_cons r
  obtain ⟨t0, rfl⟩ := inv_str d0
  obtain ⟨v1, w1, rfl, d1, r1⟩ := inv_cons r0
  obtain ⟨t1, rfl⟩ := inv_str d1
  obtain ⟨v2, w2, rfl, d2, r2⟩ := inv_cons r1
  obtain rfl := inv_nil r2
  exact ⟨_, _, _, _, _, rfl, hm, d2⟩
theorem inv_tuple {n : List (Addr × Obj)} {v : Value} {os : List Opd} (D : DatIn n v (Rv.dat (.tuple os))) : ∃ (b : Addr) (k : Nat) (t0 : Nat) (v1 : Addr), v = .ref b ∧ (b, tupOf [.str (Str.ofString "tuple") t0, .ref v1].toArray k) ∈ n ∧ DatIn n (.ref v1) (.tuple (os.map Opd.dat)) := by
  obtain ⟨b, ws, k, rfl, hm, r⟩ := inv_tup D
  obtain ⟨v0, w0, rfl, d0, r0⟩ := inv_cons r
  obtain ⟨t0, rfl⟩ := inv_str d0
  obtain ⟨v1, w1, rfl, d1, r1⟩ := inv_cons r0
  obtain ⟨b1, rfl, h1⟩ := inv_tref d1
  obtain rfl := inv_nil r1
  exact ⟨_, _, _, _, rfl, hm, h1⟩
theorem inv_array {n : List (Addr × Obj)} {v : Value} {os : List Opd} (D : DatIn n v (Rv.dat (.array os))) : ∃ (b : Addr) (k : Nat) (t0 : Nat) (v1 : Addr), v = .ref b ∧ (b, tupOf [.str (Str.ofString "array") t0, .ref v1].toArray k) ∈ n ∧ DatIn n (.ref v1) (.tuple (os.map Opd.dat)) := by
  obtain ⟨b, ws, k, rfl, hm, r⟩ := inv_tup D
  obtain ⟨v0, w0, rfl, d0, r0⟩ := inv_cons r
  obtain ⟨t0, rfl⟩ := inv_str d0
  obtain ⟨v1, w1, rfl, d1, r1⟩ := inv_cons r0
  obtain ⟨b1, rfl, h1⟩ := inv_tref d1
  obtain rfl := inv_nil r1
  exact ⟨_, _, _, _, rfl, hm, h1⟩
theorem inv_adt {n : List (Addr × Obj)} {v : Value} {os : List Opd} (D : DatIn n v (Rv.dat (.adt os))) : ∃ (b : Addr) (k : Nat) (t0 : Nat) (v1 : Value) (t2 : Nat) (v3 : Addr), v = .ref b ∧ (b, tupOf [.str (Str.ofString "adt") t0, v1, .int 2 t2, .ref v3].toArray k) ∈ n ∧ DatIn n v1 (.tuple [.str (Str.ofString "adt"), .str (Str.ofString "S"), .tuple [], .tuple []]) ∧ DatIn n (.ref v3) (.tuple (os.map Opd.dat)) := by
  obtain ⟨b, ws, k, rfl, hm, r⟩ := inv_tup D
  obtain ⟨v0, w0, rfl, d0, r0⟩ := inv_cons r
  obtain ⟨t0, rfl⟩ := inv_str d0
  obtain ⟨v1, w1, rfl, d1, r1⟩ := inv_cons r0
  obtain ⟨v2, w2, rfl, d2, r2⟩ := inv_cons r1
  obtain ⟨t2, rfl⟩ := inv_int d2
  obtain ⟨v3, w3, rfl, d3, r3⟩ := inv_cons r2
  obtain ⟨b3, rfl, h3⟩ := inv_tref d3
  obtain rfl := inv_nil r3
  exact ⟨_, _, _, _, _, _, rfl, hm, d1, h3⟩
theorem inv_refm {n : List (Addr × Obj)} {v : Value} {p : Plc} (D : DatIn n v (Rv.dat (.refm p))) : ∃ (b : Addr) (k : Nat) (t0 : Nat) (t2 : Nat) (v3 : Value), v = .ref b ∧ (b, tupOf [.str (Str.ofString "ref") t0, .none, .str (Str.ofString "mut") t2, v3].toArray k) ∈ n ∧ DatIn n v3 (p.dat) := by
  obtain ⟨b, ws, k, rfl, hm, r⟩ := inv_tup D
  obtain ⟨v0, w0, rfl, d0, r0⟩ := inv_cons r
  obtain ⟨t0, rfl⟩ := inv_str d0
  obtain ⟨v1, w1, rfl, d1, r1⟩ := inv_cons r0
  obtain rfl := inv_none d1
  obtain ⟨v2, w2, rfl, d2, r2⟩ := inv_cons r1
  obtain ⟨t2, rfl⟩ := inv_str d2
  obtain ⟨v3, w3, rfl, d3, r3⟩ := inv_cons r2
  obtain rfl := inv_nil r3
  exact ⟨_, _, _, _, _, rfl, hm, d3⟩
theorem inv_ref {n : List (Addr × Obj)} {v : Value} {kd : Str} {hkm : kd ≠ Str.ofString "mut"} {hko : PyData.strOk kd = true} {p : Plc} (D : DatIn n v (Rv.dat (.ref kd hkm hko p))) : ∃ (b : Addr) (k : Nat) (t0 : Nat) (t1 : Nat) (t2 : Nat) (v3 : Value), v = .ref b ∧ (b, tupOf [.str (Str.ofString "ref") t0, .str (Str.ofString "'a") t1, .str kd t2, v3].toArray k) ∈ n ∧ DatIn n v3 (p.dat) := by
  obtain ⟨b, ws, k, rfl, hm, r⟩ := inv_tup D
  obtain ⟨v0, w0, rfl, d0, r0⟩ := inv_cons r
  obtain ⟨t0, rfl⟩ := inv_str d0
  obtain ⟨v1, w1, rfl, d1, r1⟩ := inv_cons r0
  obtain ⟨t1, rfl⟩ := inv_str d1
  obtain ⟨v2, w2, rfl, d2, r2⟩ := inv_cons r1
  obtain ⟨t2, rfl⟩ := inv_str d2
  obtain ⟨v3, w3, rfl, d3, r3⟩ := inv_cons r2
  obtain rfl := inv_nil r3
  exact ⟨_, _, _, _, _, _, rfl, hm, d3⟩
theorem inv_disc {n : List (Addr × Obj)} {v : Value} {p : Plc} (D : DatIn n v (Rv.dat (.disc p))) : ∃ (b : Addr) (k : Nat) (t0 : Nat) (v1 : Value), v = .ref b ∧ (b, tupOf [.str (Str.ofString "discriminant") t0, v1].toArray k) ∈ n ∧ DatIn n v1 (p.dat) := by
  obtain ⟨b, ws, k, rfl, hm, r⟩ := inv_tup D
  obtain ⟨v0, w0, rfl, d0, r0⟩ := inv_cons r
  obtain ⟨t0, rfl⟩ := inv_str d0
  obtain ⟨v1, w1, rfl, d1, r1⟩ := inv_cons r0
  obtain rfl := inv_nil r1
  exact ⟨_, _, _, _, rfl, hm, d1⟩
section
set_option maxRecDepth 100000 in
set_option maxHeartbeats 2000000 in
theorem ofrv_ok {prog : Program} {w : World} {mean : ExcName → Option Value} {mg mb : Str → Option Value} {dp un : Nat} {gd : Option (List Code)} {cn : Str} {cs : Scope} {a : Addr} {ccd : Value} {cl : List (Str × Addr)} {outer : List Env} {A₀ : Around} {base h₀ : Heap} {L : Addr} {m : Str → Option Value} {news im : List (Addr × Obj)} {s : Shared}
   {Q E : Value → Shared → Prop} {v : Value} {rv : Rv}
   (B : Below A₀ base outer h₀) (F : Fr h₀ L s.heap m) (X : (hd.heap_39 w.params).In h₀) (N : News h₀ L s.heap news) (T : Top view (looseW view []) mean mg mb h₀) (hk : cs.kind = .function)
   (hd : dp + 60 < recursionLimit) (hu : un + 600 < cLine) (sub : ∀ p ∈ im, p ∈ news) (D : DatIn im v rv.dat) (hfew : rv.few)
   (ret : ∀ l vs k tl h' tk', Fr h₀ L h' m → News h₀ L h' (news ++ tl) → Abw news tl → (l, (listOf vs.toArray k : Obj)) ∈ tl → DatAll (im ++ tl) vs (rv.rows) → Q (.ref l) { s with heap := h', toks := tk' }) :
   wpAny (model prog w) (ktrTop dp un gd cn cs L a ccd cl outer) (call (.ref 42) [v]) Q E s := by
  cases rv with
  | use o =>
    obtain ⟨b, k, t0, v1, rfl, hm, e1⟩ := inv_use D
    have hm2 := sub _ hm
    refine wpAny_call ?_
    k_dflt ktr_enter
    k_steps
    (rename Fr _ _ _ _ => F3)
    (rename News _ _ _ _ => N3)
    exact ret _ _ _ _ _ _ F3 (fin_cut0 N3 (by k_extra "the cut")) (by k_extra "all off") (by k_mem) (by dsimp only [Rv.rows]; kqd_all)
  | box o =>
    obtain ⟨b, k, t0, v1, rfl, hm, e1⟩ := inv_box D
    have hm2 := sub _ hm
    refine wpAny_call ?_
    k_dflt ktr_enter
    k_steps
    (rename Fr _ _ _ _ => F3)
    (rename News _ _ _ _ => N3)
    exact ret _ _ _ _ _ _ F3 (fin_cut0 N3 (by k_extra "the cut")) (by k_extra "all off") (by k_mem) (by dsimp only [Rv.rows]; kqd_all)
  | cast o =>
    obtain ⟨b, k, t0, v1, v2, rfl, hm, e1, e2⟩ := inv_cast D
    have hm2 := sub _ hm
    refine wpAny_call ?_
    k_dflt ktr_enter
    k_steps
    (rename Fr _ _ _ _ => F3)
    (rename News _ _ _ _ => N3)
    exact ret _ _ _ _ _ _ F3 (fin_cut0 N3 (by k_extra "the cut")) (by k_extra "all off") (by k_mem) (by dsimp only [Rv.rows]; kqd_all)
  | binary o o' =>
    obtain ⟨b, k, t0, t1, v2, v3, rfl, hm, e2, e3⟩ := inv_binary D
    have hm2 := sub _ hm
    refine wpAny_call ?_
    k_dflt ktr_enter
    k_steps
    (rename Fr _ _ _ _ => F3)
    (rename News _ _ _ _ => N3)
    exact ret _ _ _ _ _ _ F3 (fin_cut0 N3 (by k_extra "the cut")) (by k_extra "all off") (by k_mem) (by dsimp only [Rv.rows]; kqd_all)
  | checked o o' =>
    obtain ⟨b, k, t0, t1, v2, v3, rfl, hm, e2, e3⟩ := inv_checked D
    have hm2 := sub _ hm
    refine wpAny_call ?_
    k_dflt ktr_enter
    k_steps
    (rename Fr _ _ _ _ => F3)
    (rename News _ _ _ _ => N3)
    exact ret _ _ _ _ _ _ F3 (fin_cut0 N3 (by k_extra "the cut")) (by k_extra "all off") (by k_mem) (by dsimp only [Rv.rows]; kqd_all)
  | unary o =>
    obtain ⟨b, k, t0, t1, v2, rfl, hm, e2⟩ := inv_unary D
    have hm2 := sub _ hm
    refine wpAny_call ?_
    k_dflt ktr_enter
    k_steps
    (rename Fr _ _ _ _ => F3)
    (rename News _ _ _ _ => N3)
    exact ret _ _ _ _ _ _ F3 (fin_cut0 N3 (by k_extra "the cut")) (by k_extra "all off") (by k_mem) (by dsimp only [Rv.rows]; kqd_all)
  | tuple os =>
    have hos : os.length ≤ 10 := hfew
    obtain ⟨b, k, t0, v1, rfl, hm, e1⟩ := inv_tuple D
    have hm2 := sub _ hm
    refine wpAny_call ?_
    k_dflt ktr_enter
    k_steps
    (rename Fr _ _ _ _ => F3)
    (rename News _ _ _ _ => N3)
    exact ret _ _ _ _ _ _ F3 (fin_cut0 N3 (by k_extra "the cut")) (by k_extra "all off") (by k_mem) (by dsimp only [Rv.rows]; kqd_all)
  | array os =>
    have hos : os.length ≤ 10 := hfew
    obtain ⟨b, k, t0, v1, rfl, hm, e1⟩ := inv_array D
    have hm2 := sub _ hm
    refine wpAny_call ?_
    k_dflt ktr_enter
    k_steps
    (rename Fr _ _ _ _ => F3)
    (rename News _ _ _ _ => N3)
    exact ret _ _ _ _ _ _ F3 (fin_cut0 N3 (by k_extra "the cut")) (by k_extra "all off") (by k_mem) (by dsimp only [Rv.rows]; kqd_all)
  | adt os =>
    have hos : os.length ≤ 10 := hfew
    obtain ⟨b, k, t0, v1, t2, v3, rfl, hm, e1, e3⟩ := inv_adt D
    have hm2 := sub _ hm
    refine wpAny_call ?_
    k_dflt ktr_enter
    k_steps
    (rename Fr _ _ _ _ => F3)
    (rename News _ _ _ _ => N3)
    exact ret _ _ _ _ _ _ F3 (fin_cut0 N3 (by k_extra "the cut")) (by k_extra "all off") (by k_mem) (by dsimp only [Rv.rows]; kqd_all)
  | refm p =>
    obtain ⟨b, k, t0, t2, v3, rfl, hm, e3⟩ := inv_refm D
    have hm2 := sub _ hm
    refine wpAny_call ?_
    k_dflt ktr_enter
    k_steps
    (rename Fr _ _ _ _ => F3)
    (rename News _ _ _ _ => N3)
    exact ret _ _ _ _ _ _ F3 (fin_cut0 N3 (by k_extra "the cut")) (by k_extra "all off") (by k_mem) (by dsimp only [Rv.rows]; kqd_all)
  | ref kd hkm hko p =>
    obtain ⟨b, k, t0, t1, t2, v3, rfl, hm, e3⟩ := inv_ref D
    have hm2 := sub _ hm
    refine wpAny_call ?_
    k_dflt ktr_enter
    k_steps
    (rename Fr _ _ _ _ => F3)
    (rename News _ _ _ _ => N3)
    exact ret _ _ _ _ _ _ F3 (fin_cut0 N3 (by k_extra "the cut")) (by k_extra "all off") (by k_mem) (by dsimp only [Rv.rows]; kqd_all)
  | disc p =>
    obtain ⟨b, k, t0, v1, rfl, hm, e1⟩ := inv_disc D
    have hm2 := sub _ hm
    refine wpAny_call ?_
    k_dflt ktr_enter
    k_steps
    (rename Fr _ _ _ _ => F3)
    (rename News _ _ _ _ => N3)
    exact ret _ _ _ _ _ _ F3 (fin_cut0 N3 (by k_extra "the cut")) (by k_extra "all off") (by k_mem) (by dsimp only [Rv.rows]; kqd_all)
end
end
-- Ofi
section
local macro_rules | `(tactic| k_lt $h:ident) => `(tactic| ((have raw9 := $h); clear $h))
section
variable {prog : Program} {w : World} {A : Around} {E : Value → Shared → Prop} {s : Shared} {h₀ : Heap} {L : Addr} {m : Str → Option Value} {env : Env}
def TupSrc (prog : Program) (w : World) (A : Around) (h₀ : Heap) (L : Addr) (m : Str → Option Value) (env : Env) (ct elt : PySem.Expr) (x : Str) (scope : Scope) (cl : List (Str × Addr)) (Q : Value → Shared → Prop) (xv : Value) (s₁ : Shared) : Prop :=
  ∃ (ax : Addr) (vs : List Value) (k : Nat) (news : List (Addr × Obj)), xv = Value.ref ax ∧ A.handled = none ∧ Fr h₀ L s₁.heap m ∧ News h₀ L s₁.heap news ∧ (ax, tupOf vs.toArray k) ∈ news ∧ vs.length ≤ sizeLine ∧
    ∀ g, LCt.CompRestT prog w A h₀ L m env ct elt x scope cl { s₁ with heap := g } (fun nw => (ax, tupOf vs.toArray k) ∈ nw) (fun i v => vs.toArray[i]? = some v) (LCg.FinE h₀ L m { s₁ with heap := g } Q) vs.toArray.size 0 [] news
theorem comp_tup {ct elt iter : PySem.Expr} {x : Str} {px : Pos} {scope : Scope} {cl : List (Str × Addr)} {pos : Pos} {Q : Value → Shared → Prop} (_F₀ : Fr h₀ L s.heap m)
    (hclos : closureFor scope env = pure cl) (hcell : ∀ y ∈ scope.names, y.2 ≠ .cell) (hkind : scope.kind = .function)
    (hnames : ∀ y ∈ scope.names, y.2 = .local → scope.names.lookup y.1 = some .local) (hx : scope.names.lookup x = some .local)
    (h : wpAny (model prog w) A (eval iter env) (TupSrc prog w A h₀ L m env ct elt x scope cl Q) E s)
    (hs : ∀ x, foldedSetIterable iter env x = pure x := by intro _; rfl) :
    wpAny (model prog w) A (eval (.ListComp elt [⟨.Name x px, iter, [ct], 0⟩] scope pos) env) Q E s := by
  rw [eval_ListComp]
  refine wpAny_comprehension_free (use := none) rfl hs hclos hkind hnames (wpAny_mono h (fun xv s₁ h₁ => ?_) fun _ _ e => e)
  obtain ⟨ax, vs, k, news, rfl, hh, F, N, hm, hsz, R⟩ := h₁
  have ha : s₁.heap.get? ax = some (tupOf vs.toArray k) := (N _ hm).1
  have hlt : ax < s₁.heap.objs.size := Heap.lt_size ha
  refine wpAny_pyIter_tuple ⟨_, ha, rfl, k, rfl⟩ ?_
  have up : ∀ b o, s₁.heap.get? b = some o → (s₁.heap.push { cls := .type "tuple_iterator", data := .fields #[.ref ax, .int 0 0] }).get? b = some o := fun b o e => Heap.get?_push_of_some _ e
  refine LCt.block_T (Walks.tuple hh s₁.heap.objs.size ax (Nat.ne_of_lt hlt) vs.toArray) (by rw [List.size_toArray]; exact hsz) (fun i h st => by obtain ⟨o, e, _⟩ := st.1; exact ⟨o, e⟩) ?_ hcell hkind hx
    ⟨⟨_, Heap.get?_push_size _ rfl, rfl, rfl⟩, ⟨_, up _ _ ha, rfl, k, rfl⟩⟩ (fun b hb => ?_)
    (F.keeps up) (N.grown up) (Nat.ne_of_lt F.ns.lt) (next_is_new F) (fun p hp => Nat.ne_of_lt (Heap.lt_size (N p hp).1)) hm (R _) ?_
  · intro i h h' o nw st e e' kp N' hm'
    refine ⟨?_, ⟨_, (N' _ hm').1, rfl, k, rfl⟩⟩
    obtain ⟨o', q, r⟩ := st.1
    rw [e] at q
    cases q
    exact ⟨o, e', r⟩
  · show b < (s₁.heap.push _).objs.size
    rw [Heap.size_push]
    rcases List.mem_cons.mp hb with rfl | hb
    · exact Nat.lt_succ_self _
    · rw [List.mem_singleton.mp hb]; exact Nat.lt_succ_of_lt hlt
  · intro D C h tk m' ys news' F' N' o1 hn hC₀ hD₀ hCL hDL hCD offC fin
    refine ⟨m', hn, fun h'' hs'' => fin D h'' tk (F'.change hs'' hCL hC₀) (fun p hp => ?_) o1⟩
    refine ⟨hs''.extBut _ _ ?_ (N' p hp).1, (N' p hp).2⟩
    rcases List.mem_cons.mp hp with rfl | hp
    · exact Ne.symm hCD
    · exact offC p hp
theorem restT {ct elt : PySem.Expr} {x : Str} {scope : Scope} {cl : List (Str × Addr)} {S : List (Addr × Obj) → Prop} {P : Nat → Value → Prop} {Fin : List Value → List (Addr × Obj) → Prop}
    (J : Nat → List Value → List (Addr × Obj) → Prop) (n : Nat) (fin : ∀ ys news, J n ys news → Fin ys news)
    (step : ∀ k i ys news, i + (k + 1) = n → J i ys news → (∀ ys' news', J (i + 1) ys' news' → LCt.CompRestT prog w A h₀ L m env ct elt x scope cl s S P Fin k (i + 1) ys' news') → LCt.CompRestT prog w A h₀ L m env ct elt x scope cl s S P Fin (k + 1) i ys news) :
    ∀ k i ys news, i + k = n → J i ys news → LCt.CompRestT prog w A h₀ L m env ct elt x scope cl s S P Fin k i ys news := by
  intro k
  induction k with
  | zero =>
    intro i ys news hi hj
    have e : i = n := hi
    subst e
    exact LCt.CompRestT.zero (fin ys news hj)
  | succ k ih => exact fun i ys news hi hj => step k i ys news hi hj fun ys' news' hj' => ih (i + 1) ys' news' (by omega) hj'
end
def irow (l : Int) : Dat := row (.tuple [.int l, .tuple []]) (Str.ofString "shallow") (Str.ofString "read") (Str.ofString "copy")
def IxJ (news : List (Addr × Obj)) (sts : List Stp) (i : Nat) (ys : List Value) (nx : List (Addr × Obj)) : Prop :=
  ∃ tl, nx = news ++ tl ∧ Abw news tl ∧ DatAll tl ys ((locs (sts.take i)).map irow)
theorem stp_at {im : List (Addr × Obj)} : ∀ {os : List Stp} {vs : List Value}, DatAll im vs (os.map Stp.dat) → ∀ {i : Nat} {v : Value}, vs[i]? = some v → ∃ o, os[i]? = some o ∧ DatIn im v (Stp.dat o)
  | [], _, h, i, v, hv => by cases h; cases hv
  | o :: os, _, h, i, v, hv => by
    cases h with
    | cons hd hr =>
      cases i with
      | zero => cases hv; exact ⟨o, rfl, hd⟩
      | succ i => exact stp_at hr hv
theorem ix_end {h₀ h' : Heap} {L I C D : Addr} {m : Str → Option Value} {s₁ : Shared} {oI oC oD : Obj} {t : Addr × Obj} {rest : Value → List (Addr × Obj) → Prop} {y : Value} {news tl add all : List (Addr × Obj)} {tk : Nat}
    (F : Fr h₀ L h' m) (N : News h₀ L h' all) (Cu : Cut ((I, oI) :: (C, oC) :: (D, oD) :: (news ++ tl)) add all) (off : LCg.Off3 I C D (news ++ tl)) (aw : Abw ((I, oI) :: (C, oC) :: (D, oD) :: (news ++ tl)) add)
    (hm : t ∈ news) (hab : Abw news tl) (hr : Abw news (tl ++ add) → rest y (news ++ (tl ++ add))) :
    LCg.CompEnd h₀ L m s₁ I oI C oC D oD (fun nw => t ∈ nw) rest y { s₁ with heap := h', toks := tk } := by
  refine LCg.CompEnd.intro F N (news ++ (tl ++ add)) ?_ (.of ?_) (List.mem_append_left _ hm) (hr (hab.app (aw.mono fun p hp => .tail _ (.tail _ (.tail _ (List.mem_append_left _ hp))))))
  · intro p hp
    refine Cu.sub p ?_
    simp only [List.mem_cons, List.mem_append] at hp ⊢
    rcases hp with hp | hp | hp | hp | hp | hp <;> simp only [hp, true_or, or_true]
  · intro p hp
    rw [← List.append_assoc] at hp
    rcases List.mem_append.mp hp with hp | hp
    · exact off.mem p hp
    · exact ⟨aw p hp _ (.head _), aw p hp _ (.tail _ (.head _)), aw p hp _ (.tail _ (.tail _ (.head _)))⟩
section
theorem w14 : True := by
  k_with "eval ListComp" => ((k_here; (with_reducible show wpAny _ _ (eval (PySem.Expr.ListComp _ [_] _ _) _) _ _ _); k_dflt (refine comp_tup (by k_asm) (by with_unfolding_all rfl) (by decide) (by rfl) (by decide) (by rfl) ?_)))
  k_with "TupSrc" => ((refine Held.mk ?_))
  k_with "CompEnd" => ((refine Held.mk ?_))
  trivial
set_option maxRecDepth 100000 in
set_option maxHeartbeats 2000000 in
theorem ofidx_ok {prog : Program} {w : World} {mean : ExcName → Option Value} {mg mb : Str → Option Value} {dp un : Nat} {gd : Option (List Code)} {cn : Str} {cs : Scope} {a : Addr} {ccd : Value} {cl : List (Str × Addr)} {outer : List Env} {A₀ : Around} {base h₀ : Heap} {L : Addr} {m : Str → Option Value} {news im : List (Addr × Obj)} {s : Shared}
   {Q E : Value → Shared → Prop} {v : Value} {p : Plc}
   (B : Below A₀ base outer h₀) (F : Fr h₀ L s.heap m) (X : (hd.heap_39 w.params).In h₀) (N : News h₀ L s.heap news) (T : Top view (looseW view []) mean mg mb h₀) (hk : cs.kind = .function)
   (hd : dp + 30 < recursionLimit) (hu : un + 300 < cLine) (sub : ∀ p ∈ im, p ∈ news) (D : DatIn im v p.dat) (hlen : p.steps.length ≤ 10)
   (ret : ∀ l vs k tl h' tk', Fr h₀ L h' m → News h₀ L h' (news ++ tl) → Abw news tl → (l, (listOf vs.toArray k : Obj)) ∈ tl → DatAll (im ++ tl) vs (p.locals.map irow) → Q (.ref l) { s with heap := h', toks := tk' }) :
   wpAny (model prog w) (ktrTop dp un gd cn cs L a ccd cl outer) (call (.ref 47) [v]) Q E s := by
  obtain ⟨loc, sts⟩ := p
  cases D with | tuple hm r => ?_
  cases r with | cons d1 r => ?_
  cases d1
  cases r with | cons d2 r => ?_
  cases d2 with | tuple hm' D1 => ?_
  rename_i vs kk
  cases r
  have hm2 := sub _ hm
  have hm3 := sub _ hm'
  have hvl : vs.length = sts.length := by rw [D1.length, List.length_map]
  have hsl : sts.length ≤ 10 := hlen
  refine wpAny_call ?_
  k_dflt ktr_enter
  k_steps
  refine Held.out ?_
  (rename Fr _ _ _ _ => F1)
  (rename News _ _ _ _ => N1)
  have N1' := N1
  rw [← List.append_nil news] at N1'
  refine ⟨_, vs, _, _, rfl, rfl, F1, N1', by k_mem, by rw [sizeLine_eq]; omega, ?_⟩
  clear N1 N1' F1
  intro g
  refine restT (IxJ news sts) _ ?_ ?_ _ 0 [] _ (Nat.zero_add _) ⟨[], rfl, Abw.nil, .nil⟩
  · rintro ys nx ⟨tl, rfl, hab, hD⟩
    intro D h tk F2 N2 off
    have o1 := off1_mem off
    rw [List.take_of_length_le (by simp only [List.size_toArray]; omega)] at hD
    k_steps
    (rename Fr _ _ _ _ => F3)
    (rename News _ _ _ _ => N3)
    exact ret D ys _ ((D, LCg.lst ys) :: tl) _ _ F3 (fin_cut0 N3 (Cut.cons Cut.app0)) (Abw.consNe o1 (fun p hp => List.mem_append_left _ hp) hab) (.head _) (hD.mono (by k_extra "the subset"))
  · rintro k i ys nx hik ⟨tl, rfl, hab, hD⟩ IH
    refine LCt.CompRestT.succ ?_
    intro v I oI C oC D m₂ h tk E' hv hC hx1 F2 N2 off ne
    obtain ⟨st, hst, Dv⟩ := stp_at D1 (by simpa using hv)
    have hloc : locs (sts.take (i + 1)) = locs (sts.take i) ++ st.loc := by rw [take_snoc1 hst]; simp [locs]
    cases st with
    | field n => ?_
    | deref => ?_
    | index l => ?_
    | down => ?_
    all_goals (cases Dv with | tuple hmv rv => ?_)
    all_goals (cases rv with | cons e1 rv => ?_)
    all_goals (cases e1)
    rotate_right
    all_goals (try (cases rv with | cons e2 rv => ?_))
    all_goals (try (cases e2))
    all_goals (cases rv)
    all_goals (have hm4 := sub _ hmv)
    all_goals k_steps
    all_goals (
      refine Held.out ?_
      (rename Fr _ _ _ _ => F3)
      (rename News _ _ _ _ => N3)
      first
      | exact ix_end F3 N3 Cut.here off Abw.nil hm3 hab (fun hab2 => IH _ _ ⟨_, rfl, hab2, (by rw [hloc]; simp only [Stp.loc, List.append_nil]; exact hD)⟩)
      | exact ix_end F3 N3 (by k_extra "the cut") off (by k_extra "all off") hm3 hab (fun hab2 => IH _ _ ⟨_, rfl, hab2, (by rw [hloc, List.map_append]; exact (hD.mono fun p hp => List.mem_append_left _ hp).append (by simp only [Stp.loc, List.map_cons, List.map_nil]; kqd_all))⟩))
end
end
-- Ofs
section
local macro_rules | `(tactic| k_lt $h:ident) => `(tactic| ((have raw9 := $h); clear $h))
theorem w15 : True := by
  k_with_none
  k_with "all" => (assumption)
  k_with "mem0" => (assumption)
  k_with "mem" => (first | with_reducible exact List.mem_cons_self | ((with_reducible refine List.mem_cons_of_mem _ ?_); k_extra "mem") | with_reducible assumption | ((with_reducible refine List.mem_append_left _ ?_); k_extra "mem") | ((with_reducible refine List.mem_append_right _ ?_); k_extra "mem") | fail "no member")
  k_with "sub0" => (first | with_reducible exact sub_refl | with_reducible exact sub_nil | ((with_reducible refine sub_app ?_ ?_); (k_extra "sub0"); (k_extra "sub0")) | ((with_reducible refine sub_consS ?_ ?_); (k_extra "mem"); (k_extra "sub0")) | ((with_reducible refine sub_cons ?_); (k_extra "sub0")) | ((with_reducible refine sub_appR ?_); with_reducible exact sub_refl) | ((with_reducible refine sub_appL ?_); (k_extra "sub0")) | ((with_reducible refine sub_appR ?_); (k_extra "sub0")) | fail "no subset")
  k_with "datin" => (first | with_reducible exact DatIn.none | with_reducible exact DatIn.int _ _ | with_reducible exact DatIn.bool _ | with_reducible exact DatIn.str _ _ | ((with_reducible refine' DatIn.mono ?s9 ?d9); (case d9 => with_reducible assumption); (case s9 => k_extra "the subset")) | (refine' DatIn.tuple ?m9 ?r9; (case m9 => k_extra "mem"); (case r9 => k_extra "datall")) | (refine' DatIn.list ?m9 ?r9; (case m9 => k_extra "mem"); (case r9 => k_extra "datall")) | exact DatIn.int _ _ | exact DatIn.str _ _ | fail "no datum")
  k_with "datall" => (first | with_reducible exact DatAll.nil | ((with_reducible refine' DatAll.mono ?s9 ?d9); (case d9 => with_reducible assumption); (case s9 => k_extra "the subset")) | ((with_reducible refine DatAll.append ?_ ?_); (k_extra "datall"); (k_extra "datall")) | (refine' DatAll.cons ?_ ?_; (k_extra "datin"); (k_extra "datall")) | exact DatAll.nil | fail "no data")
  k_with "the pick" => (first | exact Pick.here | ((with_reducible refine' Pick.skip ?p8); (case p8 => k_extra "the pick")) | fail "no pick")
  k_with "the news" => (first | k_asm | (refine' news_pick ?n9 ?p9; (case n9 => k_asm); (case p9 => k_extra "the pick")) | fail "no news")
  k_with "call ref" => ((k_here; (with_reducible show wpAny _ _ (call (Value.ref 73) _) _ _ _); k_dflt (refine' take_ok ?kB ?kF ?kX ?kN ?kS ?kT ?kk ?kd ?ku ?kx ?ky ?kt ?_; (case kB => k_asm); (case kF => k_asm); (case kX => k_asm); (case kN => k_extra "the news"); (case kS => k_all); (case kT => k_asm); (case kk => first | exact rfl | assumption); (case kd => ktr_room); (case ku => ktr_units); (case kx => first | assumption | omega); (case ky => assumption); (case kt => first | assumption | decide | omega)); intro r9 tr9 x9 y9 tx9 ty9 n9 h9 tk9 F9 N9 rlo9 rhi9 hx9 hy9; (try k_sweep)))
  k_with "call ref" => ((k_here; (with_reducible show wpAny _ _ (call (Value.ref 80) _) _ _ _); k_dflt (refine' one_ok ?kB ?kF ?kX ?kN ?kS ?kT ?kk ?kd ?ku ?kx ?ky ?kt ?kl ?_; (case kB => k_asm); (case kF => k_asm); (case kX => k_asm); (case kN => k_extra "the news"); (case kS => k_all); (case kT => k_asm); (case kk => first | exact rfl | assumption); (case kd => first | exact room_le (a := 21) (by with_reducible assumption) rfl rfl | ktr_room); (case ku => first | exact room_le (a := 203) (by with_reducible assumption) rfl rfl | ktr_units); (case kx => first | assumption | omega); (case ky => assumption); (case kt => k_extra "mem"); (case kl => first | assumption | exact ⟨by decide, by decide⟩ | exact ⟨Nat.lt_of_sub_eq_succ rfl, Nat.le_of_ble_eq_true rfl⟩)); intro i9 hi9 x9 y9 tx9 ty9 n9 h9 tk9 F9 N9 hx9 hy9; (try k_sweep); (first | (rcases four hi9 with e9 | e9 | e9 | e9 <;> (subst e9; (try dsimp only [List.getElem_cons_zero, List.getElem_cons_succ]))) | (rcases three hi9 with e9 | e9 | e9 <;> (subst e9; (try dsimp only [List.getElem_cons_zero, List.getElem_cons_succ]))) | (rcases two hi9 with e9 | e9 <;> (subst e9; (try dsimp only [List.getElem_cons_zero, List.getElem_cons_succ]))))))
  k_with "the subset" => (first | (k_extra "sub0") | ((refine sub_trans (by with_reducible assumption) ?_); (k_extra "sub0")) | fail "no subset")
  k_with "binaryOp Add ref ref" => ((k_here; (with_reducible show wpAny _ _ (binaryOp _ (Value.ref _) (Value.ref _)) _ _ _); k_dflt (refine' add_dl ?k1 ?k2 ?k3 ?k4 ?k5 ?_; (case k1 => k_asm); (case k2 => k_asm); (case k3 => k_extra "mem"); (case k4 => k_extra "mem"); (case k5 => k_extra "the sizes"); k_whole); intro D' h' F' N' l1; (try k_lt l1); (try k_sweep)))
  k_with "binaryOp Add ref ref" => ((k_here; (with_reducible show wpAny _ _ (binaryOp _ (Value.ref _) (Value.ref _)) _ _ _); k_dflt (refine' add_dt ?k1 ?k2 ?k3 ?k4 ?k5 ?k6 ?_ ?_; (case k1 => k_asm); (case k2 => k_asm); (case k3 => k_extra "mem"); (case k4 => k_extra "mem"); (case k5 => k_extra "the sizes"); (case k6 => exact List.cons_ne_nil _ _)); (all_goals k_whole); (iterate 1 (intro nl9)); rotate_left; (intro nl9 D' h' F' N' l1; (try k_lt l1); (try k_sweep))))
  k_with "the sizes" => (((try simp only [List.length_cons, List.length_nil]); first | omega | (simp only [List.length_append, List.length_cons, List.length_nil]; omega)))
  k_with "TbPost" => ((refine Held.mk ?_))
  k_with "mem0" => (first | ((with_reducible refine List.mem_append_left _ ?_); k_mem) | ((with_reducible refine List.mem_append_right _ ?_); k_mem) | ((with_reducible refine memL ?_); k_mem) | ((with_reducible refine memR ?_); k_mem))
  k_with "mem0" => (assumption)
  k_with "above" => (first | (refine' Abv1.ofNe ?a1 ?a2 ?a3; (case a1 => with_reducible assumption); (case a2 => k_extra "mem"); (case a3 => k_extra "the subset")) | (refine' Abv1.of ?a1 ?a2 ?a3; (case a1 => with_reducible assumption); (case a2 => k_extra "mem"); (case a3 => k_extra "the subset")) | fail "not above")
  k_with "the cut" => (first | exact Cut.here | ((with_reducible refine' Cut.cons ?c8); (case c8 => k_extra "the cut")) | ((with_reducible refine' Cut.app ?c8); (case c8 => k_extra "the cut")) | fail "no cut")
  k_with "all above" => (first |  exact Abv.nil | with_reducible assumption | ((with_reducible refine Abv.cons1 ?_ ?_); (k_extra "above"); (k_extra "all above")) | ((with_reducible refine Abv.app ?_ ?_); (k_extra "all above"); (k_extra "all above")) | ((with_reducible refine' Abv.mono ?a9 ?b9); (case a9 => with_reducible assumption); (case b9 => k_extra "the subset")) | ((with_reducible refine' Abv.ofW ?a9 ?b9 ?c9); (case a9 => with_reducible assumption); (case b9 => k_extra "mem"); (case c9 => k_extra "the subset")) | fail "not all above")
  k_with "kin" => (first | ((with_reducible refine' DatIn.mono ?s9 ?d9); (case d9 => with_reducible assumption); (case s9 => k_extra "the subset")) | fail "no datum")
  k_with "kall" => (first | ((with_reducible refine' DatAll.mono ?s9 ?d9); (case d9 => with_reducible assumption); (case s9 => k_extra "the subset")) | ((with_reducible refine DatAll.append ?_ ?_); (kqd_all); (kqd_all)) | fail "no data")
  k_with "all off" => (first | exact Abw.nil | with_reducible assumption | ((with_reducible refine' Abw.cons ?a9 ?b9 ?c9); (case a9 => with_reducible assumption); (case b9 => k_extra "the subset"); (case c9 => k_extra "all off")) | ((with_reducible refine' Abw.consNe ?a9 ?b9 ?c9); (case a9 => with_reducible assumption); (case b9 => k_extra "the subset"); (case c9 => k_extra "all off")) | ((with_reducible refine Abw.app ?_ ?_); (k_extra "all off"); (k_extra "all off")) | ((with_reducible refine' Abw.mono ?a9 ?b9); (case a9 => with_reducible assumption); (case b9 => k_extra "the subset")) | fail "not all off")
  k_with "all" => ((fail_if_success (with_reducible refine List.forall_mem_cons.mpr ⟨?_, ?_⟩)); first | ((with_reducible refine ne_app ?_ ?_); (k_all); (k_all)) | ((with_reducible refine' Abw.ne ?a9 ?b9); (case a9 => with_reducible assumption); (case b9 => k_extra "mem")) | ((with_reducible refine Abv.ne ?_); with_reducible assumption) | fail "k_all: none")
  k_with "all" => (with_reducible assumption)
  k_with "nesi" => (first | with_reducible exact nes_base (by with_reducible assumption) (by with_reducible assumption) | ((with_reducible refine nes_step (by with_reducible assumption) ?_); k_extra "nesi") | fail "nesi")
  k_with "all" => (((with_reducible refine nes_end ?_); k_extra "nesi"))
  k_with "call ref" => ((k_here; (with_reducible show wpAny _ _ (call (Value.ref 87) _) _ _ _); k_dflt (refine' place_use ?kB ?kF ?kX ?kN ?kS ?kT ?kk ?kd ?ku ?kx ?ky ?_; (case kB => k_asm); (case kF => k_asm); (case kX => k_asm); (case kN => k_extra "the news"); (case kS => k_all); (case kT => k_asm); (case kk => first | exact rfl | assumption); (case kd => first | exact room_le (a := 31) (by with_reducible assumption) rfl rfl | ktr_room); (case ku => first | exact room_le (a := 303) (by with_reducible assumption) rfl rfl | ktr_units); (case kx => first | assumption | omega); (case ky => assumption)); intro p9 v9 w9 a9 k9 tl9 x9 y9 tx9 ty9 n9 h9 tk9 F9 N9 hS9 ab9 hx9 hy9 hlp9 hm9 Dv9 Dw9; (try k_sweep)))
  k_with "subscriptTail Call Name cons nil Constant ref int" => ((k_here; k_dflt (refine' sub_tup ?k1 ?k2 ?k3 ?k7 ?k4 ?k5 ?_ ?k6; (case k1 => k_asm); (case k2 => k_extra "mem"); (case k3 => decide); (case k7 => first | decide | exact (by simp only [List.length_cons, List.length_nil]; omega)); (case k4 => decide); (case k5 => exact rfl); (case k6 => with_unfolding_all rfl); k_whole)))
  k_with "subscriptTail Name Constant ref int" => ((k_here; k_dflt (refine' sub_tup ?k1 ?k2 ?k3 ?k7 ?k4 ?k5 ?_ ?k6; (case k1 => k_asm); (case k2 => k_extra "mem"); (case k3 => decide); (case k7 => first | decide | exact (by simp only [List.length_cons, List.length_nil]; omega)); (case k4 => decide); (case k5 => exact rfl); (case k6 => with_unfolding_all rfl); k_whole)))
  k_with "call ref" => ((k_here; (with_reducible show wpAny _ _ (call (Value.ref 21) _) _ _ _); k_dflt (refine' ofopd_ok ?kB ?kF ?kX ?kN ?kT ?kk ?kd ?ku ?ks ?kD ?_; (case kB => k_asm); (case kF => k_asm); (case kX => k_asm); (case kN => k_asm); (case kT => k_asm); (case kk => first | exact rfl | assumption); (case kd => ktr_room); (case ku => ktr_units); (case kD => with_reducible assumption); (case ks => k_extra "the subset")); intro l9 vs9 k9 tl9 h9 tk9 F9 N9 ab9 hm9 D9; (try simp only [List.cons_append] at N9); (have le9 := opd_len D9); (try k_sweep)))
  k_with "call ref" => ((k_here; (with_reducible show wpAny _ _ (call (Value.ref 28) _) _ _ _); k_dflt (refine' ofopds_ok ?kB ?kF ?kX ?kN ?kT ?kk ?kd ?ku ?ks ?kD ?kl ?_; (case kB => k_asm); (case kF => k_asm); (case kX => k_asm); (case kN => k_asm); (case kT => k_asm); (case kk => first | exact rfl | assumption); (case kd => ktr_room); (case ku => ktr_units); (case kD => with_reducible assumption); (case kl => with_reducible assumption); (case ks => k_extra "the subset")); intro l9 vs9 k9 tl9 h9 tk9 F9 N9 ab9 hm9 D9; (try simp only [List.cons_append] at N9); (have le9 := opds_len D9); (try k_sweep)))
  k_with "call ref" => ((k_here; (with_reducible show wpAny _ _ (call (Value.ref 35) _) _ _ _); k_dflt (refine' ofbor_mut ?kB ?kF ?kX ?kN ?kT ?kk ?kd ?ku ?ks ?kD ?_; (case kB => k_asm); (case kF => k_asm); (case kX => k_asm); (case kN => k_asm); (case kT => k_asm); (case kk => first | exact rfl | assumption); (case kd => first | exact room_le (a := 21) (by with_reducible assumption) rfl rfl | ktr_room); (case ku => first | exact room_le (a := 203) (by with_reducible assumption) rfl rfl | ktr_units); (case kD => with_reducible assumption); (case ks => k_extra "the subset")); intro l9 vs9 k9 tl9 h9 tk9 F9 N9 ab9 hm9 D9; (try simp only [List.cons_append] at N9); (try k_sweep)))
  k_with "call ref" => ((k_here; (with_reducible show wpAny _ _ (call (Value.ref 35) _) _ _ _); k_dflt (refine' ofbor_ref ?kB ?kF ?kX ?kN ?kT ?kk ?kd ?ku ?ks ?kD ?km ?_; (case km => with_reducible assumption); (case kB => k_asm); (case kF => k_asm); (case kX => k_asm); (case kN => k_asm); (case kT => k_asm); (case kk => first | exact rfl | assumption); (case kd => first | exact room_le (a := 21) (by with_reducible assumption) rfl rfl | ktr_room); (case ku => first | exact room_le (a := 203) (by with_reducible assumption) rfl rfl | ktr_units); (case kD => with_reducible assumption); (case ks => k_extra "the subset")); intro l9 vs9 k9 tl9 h9 tk9 F9 N9 ab9 hm9 D9; (try simp only [List.cons_append] at N9); (try k_sweep)))
  trivial
theorem rv_len {im : List (Addr × Obj)} {vs : List Value} {rv : Rv} (D : DatAll im vs rv.rows) (hf : rv.few) : vs.length ≤ 10 := by
  rw [D.length]
  have one : ∀ o : Opd, o.rows.length ≤ 1 := fun o => by cases o <;> simp [Opd.rows]
  cases rv with
  | use o => exact Nat.le_trans (one o) (by decide)
  | box o => exact Nat.le_trans (one o) (by decide)
  | cast o => exact Nat.le_trans (one o) (by decide)
  | binary o o' =>
    have h1 := one o
    have h2 := one o'
    simp only [Rv.rows, List.length_append]
    omega
  | checked o o' =>
    have h1 := one o
    have h2 := one o'
    simp only [Rv.rows, List.length_append]
    omega
  | unary o => exact Nat.le_trans (one o) (by decide)
  | tuple os => exact Nat.le_trans (rows_le os) hf
  | array os => exact Nat.le_trans (rows_le os) hf
  | adt os => exact Nat.le_trans (rows_le os) hf
  | refm p => simp [Rv.rows]
  | ref kd hkm hko p => simp [Rv.rows]
  | disc p => simp [Rv.rows]
theorem idx_len {im : List (Addr × Obj)} {vs : List Value} {p : Plc} (D : DatAll im vs (p.locals.map irow)) (hf : p.steps.length ≤ 10) : vs.length ≤ 10 := by
  rw [D.length, List.length_map]
  have : ∀ l : List Stp, (locs l).length ≤ l.length := fun l => by
    induction l with
    | nil => exact Nat.le_refl _
    | cons s l ih =>
      have e : locs (s :: l) = s.loc ++ locs l := by simp [locs]
      rw [e, List.length_append, List.length_cons]
      have : s.loc.length ≤ 1 := by cases s <;> simp [Stp.loc]
      omega
  exact Nat.le_trans (this _) hf
def lrow (l : Int) (c : Str) : Dat := row (.tuple [.int l, .tuple []]) (Str.ofString "drop") (Str.ofString "write") c
section
theorem w16 : True := by
  k_with "call ref" => ((k_here; (with_reducible show wpAny _ _ (call (Value.ref 42) _) _ _ _); k_dflt (refine' ofrv_ok ?kB ?kF ?kX ?kN ?kT ?kk ?kd ?ku ?ks ?kD ?kf ?_; (case kB => k_asm); (case kF => k_asm); (case kX => k_asm); (case kN => k_asm); (case kT => k_asm); (case kk => first | exact rfl | assumption); (case kd => ktr_room); (case ku => ktr_units); (case kD => with_reducible assumption); (case kf => with_reducible assumption); (case ks => k_extra "the subset")); intro l9 vs9 k9 tl9 h9 tk9 F9 N9 ab9 hm9 D9; (try simp only [List.cons_append] at N9); (have le9 := rv_len D9 (by with_reducible assumption)); (try k_sweep)))
  k_with "call ref" => ((k_here; (with_reducible show wpAny _ _ (call (Value.ref 47) _) _ _ _); k_dflt (refine' ofidx_ok ?kB ?kF ?kX ?kN ?kT ?kk ?kd ?ku ?ks ?kD ?kf ?_; (case kB => k_asm); (case kF => k_asm); (case kX => k_asm); (case kN => k_asm); (case kT => k_asm); (case kk => first | exact rfl | assumption); (case kd => ktr_room); (case ku => ktr_units); (case kD => with_reducible assumption); (case kf => with_reducible assumption); (case ks => k_extra "the subset")); intro l9 vs9 k9 tl9 h9 tk9 F9 N9 ab9 hm9 D9; (try simp only [List.cons_append] at N9); (have le9 := idx_len D9 (by with_reducible assumption)); (try k_sweep)))
  trivial
set_option maxRecDepth 100000 in
set_option maxHeartbeats 2000000 in
theorem ofst_assign {prog : Program} {w : World} {mean : ExcName → Option Value} {mg mb : Str → Option Value} {dp un : Nat} {gd : Option (List Code)} {cn : Str} {cs : Scope} {a : Addr} {ccd : Value} {cl : List (Str × Addr)} {outer : List Env} {A₀ : Around} {base h₀ : Heap} {L : Addr} {m : Str → Option Value} {news im : List (Addr × Obj)} {s : Shared}
   {Q E : Value → Shared → Prop} {t : Addr} {kt t0 : Nat} {vg vr : Value} {p : Plc} {rv : Rv}
   (B : Below A₀ base outer h₀) (F : Fr h₀ L s.heap m) (X : (hd.heap_39 w.params).In h₀) (N : News h₀ L s.heap news) (T : Top view (looseW view []) mean mg mb h₀) (hk : cs.kind = .function)
   (hd : dp + 100 < recursionLimit) (hu : un + 1000 < cLine) (sub : ∀ p ∈ im, p ∈ news) (ht : (t, tupOf [.str (Str.ofString "assign") t0, vg, vr].toArray kt) ∈ news) (Dg : DatIn im vg p.dat) (Dr : DatIn im vr rv.dat) (hfew : rv.few) (hlen : p.steps.length ≤ 10)
   (ret : ∀ l vs k tl h' tk', Fr h₀ L h' m → News h₀ L h' (news ++ tl) → Abw news tl → (l, (listOf vs.toArray k : Obj)) ∈ tl → DatAll (im ++ tl) vs ((rv.rows ++ p.locals.map irow) ++ [row p.dat (Str.ofString "shallow") (Str.ofString "write") (Str.ofString "assign")]) → Q (.ref l) { s with heap := h', toks := tk' }) :
   wpAny (model prog w) (ktrTop dp un gd cn cs L a ccd cl outer) (call (.ref 54) [.ref t]) Q E s := by
  refine wpAny_call ?_
  k_dflt ktr_enter
  k_steps
  (rename Fr _ _ _ _ => F3)
  (rename News _ _ _ _ => N3)
  exact ret _ _ _ _ _ _ F3 (fin_cut0 N3 (by k_extra "the cut")) (by k_extra "all off") (by k_mem) (by kqd_all)
set_option maxRecDepth 100000 in
set_option maxHeartbeats 2000000 in
theorem ofst_print {prog : Program} {w : World} {mean : ExcName → Option Value} {mg mb : Str → Option Value} {dp un : Nat} {gd : Option (List Code)} {cn : Str} {cs : Scope} {a : Addr} {ccd : Value} {cl : List (Str × Addr)} {outer : List Env} {A₀ : Around} {base h₀ : Heap} {L : Addr} {m : Str → Option Value} {news im : List (Addr × Obj)} {s : Shared}
   {Q E : Value → Shared → Prop} {t : Addr} {kt t0 : Nat} {v : Value} {o : Opd}
   (B : Below A₀ base outer h₀) (F : Fr h₀ L s.heap m) (X : (hd.heap_39 w.params).In h₀) (N : News h₀ L s.heap news) (T : Top view (looseW view []) mean mg mb h₀) (hk : cs.kind = .function)
   (hd : dp + 100 < recursionLimit) (hu : un + 1000 < cLine) (sub : ∀ p ∈ im, p ∈ news) (ht : (t, tupOf [.str (Str.ofString "print") t0, v].toArray kt) ∈ news) (Do : DatIn im v o.dat)
   (ret : ∀ l vs k tl h' tk', Fr h₀ L h' m → News h₀ L h' (news ++ tl) → Abw news tl → (l, (listOf vs.toArray k : Obj)) ∈ tl → DatAll (im ++ tl) vs (o.rows) → Q (.ref l) { s with heap := h', toks := tk' }) :
   wpAny (model prog w) (ktrTop dp un gd cn cs L a ccd cl outer) (call (.ref 54) [.ref t]) Q E s := by
  refine wpAny_call ?_
  k_dflt ktr_enter
  k_steps
  (rename Fr _ _ _ _ => F3)
  (rename News _ _ _ _ => N3)
  exact ret _ _ _ _ _ _ F3 (fin_cut0 N3 (by k_extra "the cut")) (by k_extra "all off") (by k_mem) (by kqd_all)
set_option maxRecDepth 100000 in
set_option maxHeartbeats 2000000 in
theorem ofst_live {prog : Program} {w : World} {mean : ExcName → Option Value} {mg mb : Str → Option Value} {dp un : Nat} {gd : Option (List Code)} {cn : Str} {cs : Scope} {a : Addr} {ccd : Value} {cl : List (Str × Addr)} {outer : List Env} {A₀ : Around} {base h₀ : Heap} {L : Addr} {m : Str → Option Value} {news im : List (Addr × Obj)} {s : Shared}
   {Q E : Value → Shared → Prop} {t : Addr} {kt t0 : Nat} {li : Int} {t1 : Nat}
   (B : Below A₀ base outer h₀) (F : Fr h₀ L s.heap m) (X : (hd.heap_39 w.params).In h₀) (N : News h₀ L s.heap news) (T : Top view (looseW view []) mean mg mb h₀) (hk : cs.kind = .function)
   (hd : dp + 100 < recursionLimit) (hu : un + 1000 < cLine) (sub : ∀ p ∈ im, p ∈ news) (ht : (t, tupOf [.str (Str.ofString "live") t0, .int li t1].toArray kt) ∈ news)
   (ret : ∀ l vs k tl h' tk', Fr h₀ L h' m → News h₀ L h' (news ++ tl) → Abw news tl → (l, (listOf vs.toArray k : Obj)) ∈ tl → DatAll (im ++ tl) vs ([]) → Q (.ref l) { s with heap := h', toks := tk' }) :
   wpAny (model prog w) (ktrTop dp un gd cn cs L a ccd cl outer) (call (.ref 54) [.ref t]) Q E s := by
  refine wpAny_call ?_
  k_dflt ktr_enter
  k_steps
  (rename Fr _ _ _ _ => F3)
  (rename News _ _ _ _ => N3)
  exact ret _ _ _ _ _ _ F3 (fin_cut0 N3 (by k_extra "the cut")) (by k_extra "all off") (by k_mem) (by kqd_all)
set_option maxRecDepth 100000 in
set_option maxHeartbeats 2000000 in
theorem ofst_nop {prog : Program} {w : World} {mean : ExcName → Option Value} {mg mb : Str → Option Value} {dp un : Nat} {gd : Option (List Code)} {cn : Str} {cs : Scope} {a : Addr} {ccd : Value} {cl : List (Str × Addr)} {outer : List Env} {A₀ : Around} {base h₀ : Heap} {L : Addr} {m : Str → Option Value} {news im : List (Addr × Obj)} {s : Shared}
   {Q E : Value → Shared → Prop} {t : Addr} {kt t0 : Nat} 
   (B : Below A₀ base outer h₀) (F : Fr h₀ L s.heap m) (X : (hd.heap_39 w.params).In h₀) (N : News h₀ L s.heap news) (T : Top view (looseW view []) mean mg mb h₀) (hk : cs.kind = .function)
   (hd : dp + 100 < recursionLimit) (hu : un + 1000 < cLine) (sub : ∀ p ∈ im, p ∈ news) (ht : (t, tupOf [.str (Str.ofString "nop") t0].toArray kt) ∈ news)
   (ret : ∀ l vs k tl h' tk', Fr h₀ L h' m → News h₀ L h' (news ++ tl) → Abw news tl → (l, (listOf vs.toArray k : Obj)) ∈ tl → DatAll (im ++ tl) vs ([]) → Q (.ref l) { s with heap := h', toks := tk' }) :
   wpAny (model prog w) (ktrTop dp un gd cn cs L a ccd cl outer) (call (.ref 54) [.ref t]) Q E s := by
  refine wpAny_call ?_
  k_dflt ktr_enter
  k_steps
  (rename Fr _ _ _ _ => F3)
  (rename News _ _ _ _ => N3)
  exact ret _ _ _ _ _ _ F3 (fin_cut0 N3 (by k_extra "the cut")) (by k_extra "all off") (by k_mem) (by kqd_all)
set_option maxRecDepth 100000 in
set_option maxHeartbeats 2000000 in
theorem ofst_dead {prog : Program} {w : World} {mean : ExcName → Option Value} {mg mb : Str → Option Value} {dp un : Nat} {gd : Option (List Code)} {cn : Str} {cs : Scope} {a : Addr} {ccd : Value} {cl : List (Str × Addr)} {outer : List Env} {A₀ : Around} {base h₀ : Heap} {L : Addr} {m : Str → Option Value} {news im : List (Addr × Obj)} {s : Shared}
   {Q E : Value → Shared → Prop} {t : Addr} {kt t0 : Nat} {li : Int} {t1 : Nat}
   (B : Below A₀ base outer h₀) (F : Fr h₀ L s.heap m) (X : (hd.heap_39 w.params).In h₀) (N : News h₀ L s.heap news) (T : Top view (looseW view []) mean mg mb h₀) (hk : cs.kind = .function)
   (hd : dp + 100 < recursionLimit) (hu : un + 1000 < cLine) (sub : ∀ p ∈ im, p ∈ news) (ht : (t, tupOf [.str (Str.ofString "dead") t0, .int li t1].toArray kt) ∈ news)
   (ret : ∀ l vs k tl h' tk', Fr h₀ L h' m → News h₀ L h' (news ++ tl) → Abw news tl → (l, (listOf vs.toArray k : Obj)) ∈ tl → DatAll (im ++ tl) vs ([lrow li (Str.ofString "dead")]) → Q (.ref l) { s with heap := h', toks := tk' }) :
   wpAny (model prog w) (ktrTop dp un gd cn cs L a ccd cl outer) (call (.ref 54) [.ref t]) Q E s := by
  refine wpAny_call ?_
  k_dflt ktr_enter
  k_steps
  (rename Fr _ _ _ _ => F3)
  (rename News _ _ _ _ => N3)
  exact ret _ _ _ _ _ _ F3 (fin_cut0 N3 (by k_extra "the cut")) (by k_extra "all off") (by k_mem) (by kqd_all)
end
end
-- Oft
section
local macro_rules | `(tactic| k_lt $h:ident) => `(tactic| ((have raw9 := $h); clear $h))
def retrows (n : Nat) : List Dat := (List.range n).map fun (i : Nat) => lrow (1 + (i : Int)) (Str.ofString "return")
def RtJ (news : List (Addr × Obj)) (i : Nat) (ys : List Value) (nx : List (Addr × Obj)) : Prop := ∃ tl, nx = news ++ tl ∧ Abw news tl ∧ DatAll tl ys (retrows i)
theorem w17 : True := by
  k_with_none
  k_with "all" => (assumption)
  k_with "mem0" => (assumption)
  k_with "mem" => (first | with_reducible exact List.mem_cons_self | ((with_reducible refine List.mem_cons_of_mem _ ?_); k_extra "mem") | with_reducible assumption | ((with_reducible refine List.mem_append_left _ ?_); k_extra "mem") | ((with_reducible refine List.mem_append_right _ ?_); k_extra "mem") | fail "no member")
  k_with "sub0" => (first | with_reducible exact sub_refl | with_reducible exact sub_nil | ((with_reducible refine sub_app ?_ ?_); (k_extra "sub0"); (k_extra "sub0")) | ((with_reducible refine sub_consS ?_ ?_); (k_extra "mem"); (k_extra "sub0")) | ((with_reducible refine sub_cons ?_); (k_extra "sub0")) | ((with_reducible refine sub_appR ?_); with_reducible exact sub_refl) | ((with_reducible refine sub_appL ?_); (k_extra "sub0")) | ((with_reducible refine sub_appR ?_); (k_extra "sub0")) | fail "no subset")
  k_with "datin" => (first | with_reducible exact DatIn.none | with_reducible exact DatIn.int _ _ | with_reducible exact DatIn.bool _ | with_reducible exact DatIn.str _ _ | ((with_reducible refine' DatIn.mono ?s9 ?d9); (case d9 => with_reducible assumption); (case s9 => k_extra "the subset")) | (refine' DatIn.tuple ?m9 ?r9; (case m9 => k_extra "mem"); (case r9 => k_extra "datall")) | (refine' DatIn.list ?m9 ?r9; (case m9 => k_extra "mem"); (case r9 => k_extra "datall")) | exact DatIn.int _ _ | exact DatIn.str _ _ | fail "no datum")
  k_with "datall" => (first | with_reducible exact DatAll.nil | ((with_reducible refine' DatAll.mono ?s9 ?d9); (case d9 => with_reducible assumption); (case s9 => k_extra "the subset")) | ((with_reducible refine DatAll.append ?_ ?_); (k_extra "datall"); (k_extra "datall")) | (refine' DatAll.cons ?_ ?_; (k_extra "datin"); (k_extra "datall")) | exact DatAll.nil | fail "no data")
  k_with "the pick" => (first | exact Pick.here | ((with_reducible refine' Pick.skip ?p8); (case p8 => k_extra "the pick")) | fail "no pick")
  k_with "the news" => (first | k_asm | (refine' news_pick ?n9 ?p9; (case n9 => k_asm); (case p9 => k_extra "the pick")) | fail "no news")
  k_with "call ref" => ((k_here; (with_reducible show wpAny _ _ (call (Value.ref 73) _) _ _ _); k_dflt (refine' take_ok ?kB ?kF ?kX ?kN ?kS ?kT ?kk ?kd ?ku ?kx ?ky ?kt ?_; (case kB => k_asm); (case kF => k_asm); (case kX => k_asm); (case kN => k_extra "the news"); (case kS => k_all); (case kT => k_asm); (case kk => first | exact rfl | assumption); (case kd => ktr_room); (case ku => ktr_units); (case kx => first | assumption | omega); (case ky => assumption); (case kt => first | assumption | decide | omega)); intro r9 tr9 x9 y9 tx9 ty9 n9 h9 tk9 F9 N9 rlo9 rhi9 hx9 hy9; (try k_sweep)))
  k_with "call ref" => ((k_here; (with_reducible show wpAny _ _ (call (Value.ref 80) _) _ _ _); k_dflt (refine' one_ok ?kB ?kF ?kX ?kN ?kS ?kT ?kk ?kd ?ku ?kx ?ky ?kt ?kl ?_; (case kB => k_asm); (case kF => k_asm); (case kX => k_asm); (case kN => k_extra "the news"); (case kS => k_all); (case kT => k_asm); (case kk => first | exact rfl | assumption); (case kd => first | exact room_le (a := 21) (by with_reducible assumption) rfl rfl | ktr_room); (case ku => first | exact room_le (a := 203) (by with_reducible assumption) rfl rfl | ktr_units); (case kx => first | assumption | omega); (case ky => assumption); (case kt => k_extra "mem"); (case kl => first | assumption | exact ⟨by decide, by decide⟩ | exact ⟨Nat.lt_of_sub_eq_succ rfl, Nat.le_of_ble_eq_true rfl⟩)); intro i9 hi9 x9 y9 tx9 ty9 n9 h9 tk9 F9 N9 hx9 hy9; (try k_sweep); (first | (rcases four hi9 with e9 | e9 | e9 | e9 <;> (subst e9; (try dsimp only [List.getElem_cons_zero, List.getElem_cons_succ]))) | (rcases three hi9 with e9 | e9 | e9 <;> (subst e9; (try dsimp only [List.getElem_cons_zero, List.getElem_cons_succ]))) | (rcases two hi9 with e9 | e9 <;> (subst e9; (try dsimp only [List.getElem_cons_zero, List.getElem_cons_succ]))))))
  k_with "the subset" => (first | (k_extra "sub0") | ((refine sub_trans (by with_reducible assumption) ?_); (k_extra "sub0")) | fail "no subset")
  k_with "binaryOp Add ref ref" => ((k_here; (with_reducible show wpAny _ _ (binaryOp _ (Value.ref _) (Value.ref _)) _ _ _); k_dflt (refine' add_dl ?k1 ?k2 ?k3 ?k4 ?k5 ?_; (case k1 => k_asm); (case k2 => k_asm); (case k3 => k_extra "mem"); (case k4 => k_extra "mem"); (case k5 => k_extra "the sizes"); k_whole); intro D' h' F' N' l1; (try k_lt l1); (try k_sweep)))
  k_with "binaryOp Add ref ref" => ((k_here; (with_reducible show wpAny _ _ (binaryOp _ (Value.ref _) (Value.ref _)) _ _ _); k_dflt (refine' add_dt ?k1 ?k2 ?k3 ?k4 ?k5 ?k6 ?_ ?_; (case k1 => k_asm); (case k2 => k_asm); (case k3 => k_extra "mem"); (case k4 => k_extra "mem"); (case k5 => k_extra "the sizes"); (case k6 => exact List.cons_ne_nil _ _)); (all_goals k_whole); (iterate 1 (intro nl9)); rotate_left; (intro nl9 D' h' F' N' l1; (try k_lt l1); (try k_sweep))))
  k_with "the sizes" => (((try simp only [List.length_cons, List.length_nil]); first | omega | (simp only [List.length_append, List.length_cons, List.length_nil]; omega)))
  k_with "TbPost" => ((refine Held.mk ?_))
  k_with "mem0" => (first | ((with_reducible refine List.mem_append_left _ ?_); k_mem) | ((with_reducible refine List.mem_append_right _ ?_); k_mem) | ((with_reducible refine memL ?_); k_mem) | ((with_reducible refine memR ?_); k_mem))
  k_with "mem0" => (assumption)
  k_with "above" => (first | (refine' Abv1.ofNe ?a1 ?a2 ?a3; (case a1 => with_reducible assumption); (case a2 => k_extra "mem"); (case a3 => k_extra "the subset")) | (refine' Abv1.of ?a1 ?a2 ?a3; (case a1 => with_reducible assumption); (case a2 => k_extra "mem"); (case a3 => k_extra "the subset")) | fail "not above")
  k_with "the cut" => (first | exact Cut.here | ((with_reducible refine' Cut.cons ?c8); (case c8 => k_extra "the cut")) | ((with_reducible refine' Cut.app ?c8); (case c8 => k_extra "the cut")) | fail "no cut")
  k_with "all above" => (first |  exact Abv.nil | with_reducible assumption | ((with_reducible refine Abv.cons1 ?_ ?_); (k_extra "above"); (k_extra "all above")) | ((with_reducible refine Abv.app ?_ ?_); (k_extra "all above"); (k_extra "all above")) | ((with_reducible refine' Abv.mono ?a9 ?b9); (case a9 => with_reducible assumption); (case b9 => k_extra "the subset")) | ((with_reducible refine' Abv.ofW ?a9 ?b9 ?c9); (case a9 => with_reducible assumption); (case b9 => k_extra "mem"); (case c9 => k_extra "the subset")) | fail "not all above")
  k_with "kin" => (first | ((with_reducible refine' DatIn.mono ?s9 ?d9); (case d9 => with_reducible assumption); (case s9 => k_extra "the subset")) | fail "no datum")
  k_with "kall" => (first | ((with_reducible refine' DatAll.mono ?s9 ?d9); (case d9 => with_reducible assumption); (case s9 => k_extra "the subset")) | ((with_reducible refine DatAll.append ?_ ?_); (kqd_all); (kqd_all)) | fail "no data")
  k_with "all off" => (first | exact Abw.nil | with_reducible assumption | ((with_reducible refine' Abw.cons ?a9 ?b9 ?c9); (case a9 => with_reducible assumption); (case b9 => k_extra "the subset"); (case c9 => k_extra "all off")) | ((with_reducible refine' Abw.consNe ?a9 ?b9 ?c9); (case a9 => with_reducible assumption); (case b9 => k_extra "the subset"); (case c9 => k_extra "all off")) | ((with_reducible refine Abw.app ?_ ?_); (k_extra "all off"); (k_extra "all off")) | ((with_reducible refine' Abw.mono ?a9 ?b9); (case a9 => with_reducible assumption); (case b9 => k_extra "the subset")) | fail "not all off")
  k_with "all" => ((fail_if_success (with_reducible refine List.forall_mem_cons.mpr ⟨?_, ?_⟩)); first | ((with_reducible refine ne_app ?_ ?_); (k_all); (k_all)) | ((with_reducible refine' Abw.ne ?a9 ?b9); (case a9 => with_reducible assumption); (case b9 => k_extra "mem")) | ((with_reducible refine Abv.ne ?_); with_reducible assumption) | fail "k_all: none")
  k_with "all" => (with_reducible assumption)
  k_with "nesi" => (first | with_reducible exact nes_base (by with_reducible assumption) (by with_reducible assumption) | ((with_reducible refine nes_step (by with_reducible assumption) ?_); k_extra "nesi") | fail "nesi")
  k_with "all" => (((with_reducible refine nes_end ?_); k_extra "nesi"))
  k_with "call ref" => ((k_here; (with_reducible show wpAny _ _ (call (Value.ref 87) _) _ _ _); k_dflt (refine' place_use ?kB ?kF ?kX ?kN ?kS ?kT ?kk ?kd ?ku ?kx ?ky ?_; (case kB => k_asm); (case kF => k_asm); (case kX => k_asm); (case kN => k_extra "the news"); (case kS => k_all); (case kT => k_asm); (case kk => first | exact rfl | assumption); (case kd => first | exact room_le (a := 31) (by with_reducible assumption) rfl rfl | ktr_room); (case ku => first | exact room_le (a := 303) (by with_reducible assumption) rfl rfl | ktr_units); (case kx => first | assumption | omega); (case ky => assumption)); intro p9 v9 w9 a9 k9 tl9 x9 y9 tx9 ty9 n9 h9 tk9 F9 N9 hS9 ab9 hx9 hy9 hlp9 hm9 Dv9 Dw9; (try k_sweep)))
  k_with "subscriptTail Call Name cons nil Constant ref int" => ((k_here; k_dflt (refine' sub_tup ?k1 ?k2 ?k3 ?k7 ?k4 ?k5 ?_ ?k6; (case k1 => k_asm); (case k2 => k_extra "mem"); (case k3 => decide); (case k7 => first | decide | exact (by simp only [List.length_cons, List.length_nil]; omega)); (case k4 => decide); (case k5 => exact rfl); (case k6 => with_unfolding_all rfl); k_whole)))
  k_with "subscriptTail Name Constant ref int" => ((k_here; k_dflt (refine' sub_tup ?k1 ?k2 ?k3 ?k7 ?k4 ?k5 ?_ ?k6; (case k1 => k_asm); (case k2 => k_extra "mem"); (case k3 => decide); (case k7 => first | decide | exact (by simp only [List.length_cons, List.length_nil]; omega)); (case k4 => decide); (case k5 => exact rfl); (case k6 => with_unfolding_all rfl); k_whole)))
  k_with "call ref" => ((k_here; (with_reducible show wpAny _ _ (call (Value.ref 21) _) _ _ _); k_dflt (refine' ofopd_ok ?kB ?kF ?kX ?kN ?kT ?kk ?kd ?ku ?ks ?kD ?_; (case kB => k_asm); (case kF => k_asm); (case kX => k_asm); (case kN => k_asm); (case kT => k_asm); (case kk => first | exact rfl | assumption); (case kd => ktr_room); (case ku => ktr_units); (case kD => with_reducible assumption); (case ks => k_extra "the subset")); intro l9 vs9 k9 tl9 h9 tk9 F9 N9 ab9 hm9 D9; (try simp only [List.cons_append] at N9); (have le9 := opd_len D9); (try k_sweep)))
  k_with "call ref" => ((k_here; (with_reducible show wpAny _ _ (call (Value.ref 28) _) _ _ _); k_dflt (refine' ofopds_ok ?kB ?kF ?kX ?kN ?kT ?kk ?kd ?ku ?ks ?kD ?kl ?_; (case kB => k_asm); (case kF => k_asm); (case kX => k_asm); (case kN => k_asm); (case kT => k_asm); (case kk => first | exact rfl | assumption); (case kd => ktr_room); (case ku => ktr_units); (case kD => with_reducible assumption); (case kl => with_reducible assumption); (case ks => k_extra "the subset")); intro l9 vs9 k9 tl9 h9 tk9 F9 N9 ab9 hm9 D9; (try simp only [List.cons_append] at N9); (have le9 := opds_len D9); (try k_sweep)))
  k_with "call ref" => ((k_here; (with_reducible show wpAny _ _ (call (Value.ref 35) _) _ _ _); k_dflt (refine' ofbor_mut ?kB ?kF ?kX ?kN ?kT ?kk ?kd ?ku ?ks ?kD ?_; (case kB => k_asm); (case kF => k_asm); (case kX => k_asm); (case kN => k_asm); (case kT => k_asm); (case kk => first | exact rfl | assumption); (case kd => first | exact room_le (a := 21) (by with_reducible assumption) rfl rfl | ktr_room); (case ku => first | exact room_le (a := 203) (by with_reducible assumption) rfl rfl | ktr_units); (case kD => with_reducible assumption); (case ks => k_extra "the subset")); intro l9 vs9 k9 tl9 h9 tk9 F9 N9 ab9 hm9 D9; (try simp only [List.cons_append] at N9); (try k_sweep)))
  k_with "call ref" => ((k_here; (with_reducible show wpAny _ _ (call (Value.ref 35) _) _ _ _); k_dflt (refine' ofbor_ref ?kB ?kF ?kX ?kN ?kT ?kk ?kd ?ku ?ks ?kD ?km ?_; (case km => with_reducible assumption); (case kB => k_asm); (case kF => k_asm); (case kX => k_asm); (case kN => k_asm); (case kT => k_asm); (case kk => first | exact rfl | assumption); (case kd => first | exact room_le (a := 21) (by with_reducible assumption) rfl rfl | ktr_room); (case ku => first | exact room_le (a := 203) (by with_reducible assumption) rfl rfl | ktr_units); (case kD => with_reducible assumption); (case ks => k_extra "the subset")); intro l9 vs9 k9 tl9 h9 tk9 F9 N9 ab9 hm9 D9; (try simp only [List.cons_append] at N9); (try k_sweep)))
  trivial
theorem rt_end {h₀ h' : Heap} {L I C D : Addr} {m : Str → Option Value} {s₁ : Shared} {oI oC oD : Obj} {rest : Value → List (Addr × Obj) → Prop} {y : Value} {news tl add all : List (Addr × Obj)} {tk : Nat}
    (F : Fr h₀ L h' m) (N : News h₀ L h' all) (Cu : Cut ((I, oI) :: (C, oC) :: (D, oD) :: (news ++ tl)) add all) (off : LCg.Off3 I C D (news ++ tl)) (aw : Abw ((I, oI) :: (C, oC) :: (D, oD) :: (news ++ tl)) add)
    (hab : Abw news tl) (hr : Abw news (tl ++ add) → rest y (news ++ (tl ++ add))) :
    LCg.CompEnd h₀ L m s₁ I oI C oC D oD (fun _ => True) rest y { s₁ with heap := h', toks := tk } := by
  refine LCg.CompEnd.intro F N (news ++ (tl ++ add)) ?_ (.of ?_) trivial (hr (hab.app (aw.mono fun p hp => .tail _ (.tail _ (.tail _ (List.mem_append_left _ hp))))))
  · intro p hp
    refine Cu.sub p ?_
    simp only [List.mem_cons, List.mem_append] at hp ⊢
    rcases hp with hp | hp | hp | hp | hp | hp <;> simp only [hp, true_or, or_true]
  · intro p hp
    rw [← List.append_assoc] at hp
    rcases List.mem_append.mp hp with hp | hp
    · exact off.mem p hp
    · exact ⟨aw p hp _ (.head _), aw p hp _ (.tail _ (.head _)), aw p hp _ (.tail _ (.tail _ (.head _)))⟩
section
set_option maxRecDepth 100000 in
set_option maxHeartbeats 2000000 in
theorem oftm_switch {prog : Program} {w : World} {mean : ExcName → Option Value} {mg mb : Str → Option Value} {dp un : Nat} {gd : Option (List Code)} {cn : Str} {cs : Scope} {a : Addr} {ccd : Value} {cl : List (Str × Addr)} {outer : List Env} {A₀ : Around} {base h₀ : Heap} {L : Addr} {m : Str → Option Value} {news im : List (Addr × Obj)} {s : Shared}
   {Q E : Value → Shared → Prop} {t : Addr} {kt t0 : Nat} {vm : Value} {vo r2 r3 : Value} {o : Opd}
   (B : Below A₀ base outer h₀) (F : Fr h₀ L s.heap m) (X : (hd.heap_39 w.params).In h₀) (N : News h₀ L s.heap news) (T : Top view (looseW view []) mean mg mb h₀) (hk : cs.kind = .function)
   (hd : dp + 100 < recursionLimit) (hu : un + 1000 < cLine) (sub : ∀ p ∈ im, p ∈ news) (ht : (t, tupOf [.str (Str.ofString "switch") t0, vo, r2, r3].toArray kt) ∈ news) (Do : DatIn im vo o.dat)
   (ret : ∀ l vs k tl h' tk', Fr h₀ L h' m → News h₀ L h' (news ++ tl) → Abw news tl → (l, (listOf vs.toArray k : Obj)) ∈ tl → DatAll (im ++ tl) vs (o.rows) → Q (.ref l) { s with heap := h', toks := tk' }) :
   wpAny (model prog w) (ktrTop dp un gd cn cs L a ccd cl outer) (call (.ref 59) [.ref t, vm]) Q E s := by
  refine wpAny_call ?_
  k_dflt ktr_enter
  k_steps
  (rename Fr _ _ _ _ => F3)
  (rename News _ _ _ _ => N3)
  exact ret _ _ _ _ _ _ F3 (fin_cut0 N3 (by k_extra "the cut")) (by k_extra "all off") (by k_mem) (by kqd_all)
set_option maxRecDepth 100000 in
set_option maxHeartbeats 2000000 in
theorem oftm_assert {prog : Program} {w : World} {mean : ExcName → Option Value} {mg mb : Str → Option Value} {dp un : Nat} {gd : Option (List Code)} {cn : Str} {cs : Scope} {a : Addr} {ccd : Value} {cl : List (Str × Addr)} {outer : List Env} {A₀ : Around} {base h₀ : Heap} {L : Addr} {m : Str → Option Value} {news im : List (Addr × Obj)} {s : Shared}
   {Q E : Value → Shared → Prop} {t : Addr} {kt t0 : Nat} {vm : Value} {vo r2 r3 r4 : Value} {o : Opd}
   (B : Below A₀ base outer h₀) (F : Fr h₀ L s.heap m) (X : (hd.heap_39 w.params).In h₀) (N : News h₀ L s.heap news) (T : Top view (looseW view []) mean mg mb h₀) (hk : cs.kind = .function)
   (hd : dp + 100 < recursionLimit) (hu : un + 1000 < cLine) (sub : ∀ p ∈ im, p ∈ news) (ht : (t, tupOf [.str (Str.ofString "assert") t0, vo, r2, r3, r4].toArray kt) ∈ news) (Do : DatIn im vo o.dat)
   (ret : ∀ l vs k tl h' tk', Fr h₀ L h' m → News h₀ L h' (news ++ tl) → Abw news tl → (l, (listOf vs.toArray k : Obj)) ∈ tl → DatAll (im ++ tl) vs (o.rows) → Q (.ref l) { s with heap := h', toks := tk' }) :
   wpAny (model prog w) (ktrTop dp un gd cn cs L a ccd cl outer) (call (.ref 59) [.ref t, vm]) Q E s := by
  refine wpAny_call ?_
  k_dflt ktr_enter
  k_steps
  (rename Fr _ _ _ _ => F3)
  (rename News _ _ _ _ => N3)
  exact ret _ _ _ _ _ _ F3 (fin_cut0 N3 (by k_extra "the cut")) (by k_extra "all off") (by k_mem) (by kqd_all)
set_option maxRecDepth 100000 in
set_option maxHeartbeats 2000000 in
theorem oftm_call {prog : Program} {w : World} {mean : ExcName → Option Value} {mg mb : Str → Option Value} {dp un : Nat} {gd : Option (List Code)} {cn : Str} {cs : Scope} {a : Addr} {ccd : Value} {cl : List (Str × Addr)} {outer : List Env} {A₀ : Around} {base h₀ : Heap} {L : Addr} {m : Str → Option Value} {news im : List (Addr × Obj)} {s : Shared}
   {Q E : Value → Shared → Prop} {t : Addr} {kt t0 : Nat} {vm : Value} {v1 : Addr} {r1 vo vg r4 : Value} {os : List Opd} {p : Plc}
   (B : Below A₀ base outer h₀) (F : Fr h₀ L s.heap m) (X : (hd.heap_39 w.params).In h₀) (N : News h₀ L s.heap news) (T : Top view (looseW view []) mean mg mb h₀) (hk : cs.kind = .function)
   (hd : dp + 100 < recursionLimit) (hu : un + 1000 < cLine) (sub : ∀ p ∈ im, p ∈ news) (ht : (t, tupOf [.str (Str.ofString "call") t0, r1, .ref v1, vg, r4].toArray kt) ∈ news) (Do : DatIn im (.ref v1) (.tuple (os.map Opd.dat))) (hos : os.length ≤ 10) (Dg : DatIn im vg p.dat)
   (ret : ∀ l vs k tl h' tk', Fr h₀ L h' m → News h₀ L h' (news ++ tl) → Abw news tl → (l, (listOf vs.toArray k : Obj)) ∈ tl → DatAll (im ++ tl) vs (os.flatMap Opd.rows ++ [row p.dat (Str.ofString "shallow") (Str.ofString "write") (Str.ofString "assign")]) → Q (.ref l) { s with heap := h', toks := tk' }) :
   wpAny (model prog w) (ktrTop dp un gd cn cs L a ccd cl outer) (call (.ref 59) [.ref t, vm]) Q E s := by
  refine wpAny_call ?_
  k_dflt ktr_enter
  k_steps
  (rename Fr _ _ _ _ => F3)
  (rename News _ _ _ _ => N3)
  exact ret _ _ _ _ _ _ F3 (fin_cut0 N3 (by k_extra "the cut")) (by k_extra "all off") (by k_mem) (by kqd_all)
set_option maxRecDepth 100000 in
set_option maxHeartbeats 2000000 in
theorem oftm_drop {prog : Program} {w : World} {mean : ExcName → Option Value} {mg mb : Str → Option Value} {dp un : Nat} {gd : Option (List Code)} {cn : Str} {cs : Scope} {a : Addr} {ccd : Value} {cl : List (Str × Addr)} {outer : List Env} {A₀ : Around} {base h₀ : Heap} {L : Addr} {m : Str → Option Value} {news im : List (Addr × Obj)} {s : Shared}
   {Q E : Value → Shared → Prop} {t : Addr} {kt t0 : Nat} {vm : Value} {vg r2 : Value} {p : Plc}
   (B : Below A₀ base outer h₀) (F : Fr h₀ L s.heap m) (X : (hd.heap_39 w.params).In h₀) (N : News h₀ L s.heap news) (T : Top view (looseW view []) mean mg mb h₀) (hk : cs.kind = .function)
   (hd : dp + 100 < recursionLimit) (hu : un + 1000 < cLine) (sub : ∀ p ∈ im, p ∈ news) (ht : (t, tupOf [.str (Str.ofString "drop") t0, vg, r2].toArray kt) ∈ news) (Dg : DatIn im vg p.dat)
   (ret : ∀ l vs k tl h' tk', Fr h₀ L h' m → News h₀ L h' (news ++ tl) → Abw news tl → (l, (listOf vs.toArray k : Obj)) ∈ tl → DatAll (im ++ tl) vs ([row p.dat (Str.ofString "drop") (Str.ofString "write") (Str.ofString "drop")]) → Q (.ref l) { s with heap := h', toks := tk' }) :
   wpAny (model prog w) (ktrTop dp un gd cn cs L a ccd cl outer) (call (.ref 59) [.ref t, vm]) Q E s := by
  refine wpAny_call ?_
  k_dflt ktr_enter
  k_steps
  (rename Fr _ _ _ _ => F3)
  (rename News _ _ _ _ => N3)
  exact ret _ _ _ _ _ _ F3 (fin_cut0 N3 (by k_extra "the cut")) (by k_extra "all off") (by k_mem) (by kqd_all)
set_option maxRecDepth 100000 in
set_option maxHeartbeats 2000000 in
theorem oftm_goto {prog : Program} {w : World} {mean : ExcName → Option Value} {mg mb : Str → Option Value} {dp un : Nat} {gd : Option (List Code)} {cn : Str} {cs : Scope} {a : Addr} {ccd : Value} {cl : List (Str × Addr)} {outer : List Env} {A₀ : Around} {base h₀ : Heap} {L : Addr} {m : Str → Option Value} {news im : List (Addr × Obj)} {s : Shared}
   {Q E : Value → Shared → Prop} {t : Addr} {kt t0 : Nat} {vm : Value} {r1 : Value}
   (B : Below A₀ base outer h₀) (F : Fr h₀ L s.heap m) (X : (hd.heap_39 w.params).In h₀) (N : News h₀ L s.heap news) (T : Top view (looseW view []) mean mg mb h₀) (hk : cs.kind = .function)
   (hd : dp + 100 < recursionLimit) (hu : un + 1000 < cLine) (sub : ∀ p ∈ im, p ∈ news) (ht : (t, tupOf [.str (Str.ofString "goto") t0, r1].toArray kt) ∈ news)
   (ret : ∀ l vs k tl h' tk', Fr h₀ L h' m → News h₀ L h' (news ++ tl) → Abw news tl → (l, (listOf vs.toArray k : Obj)) ∈ tl → DatAll (im ++ tl) vs ([]) → Q (.ref l) { s with heap := h', toks := tk' }) :
   wpAny (model prog w) (ktrTop dp un gd cn cs L a ccd cl outer) (call (.ref 59) [.ref t, vm]) Q E s := by
  refine wpAny_call ?_
  k_dflt ktr_enter
  k_steps
  (rename Fr _ _ _ _ => F3)
  (rename News _ _ _ _ => N3)
  exact ret _ _ _ _ _ _ F3 (fin_cut0 N3 (by k_extra "the cut")) (by k_extra "all off") (by k_mem) (by kqd_all)
set_option maxRecDepth 100000 in
set_option maxHeartbeats 2000000 in
theorem oftm_panic {prog : Program} {w : World} {mean : ExcName → Option Value} {mg mb : Str → Option Value} {dp un : Nat} {gd : Option (List Code)} {cn : Str} {cs : Scope} {a : Addr} {ccd : Value} {cl : List (Str × Addr)} {outer : List Env} {A₀ : Around} {base h₀ : Heap} {L : Addr} {m : Str → Option Value} {news im : List (Addr × Obj)} {s : Shared}
   {Q E : Value → Shared → Prop} {t : Addr} {kt t0 : Nat} {vm : Value} {r1 : Value}
   (B : Below A₀ base outer h₀) (F : Fr h₀ L s.heap m) (X : (hd.heap_39 w.params).In h₀) (N : News h₀ L s.heap news) (T : Top view (looseW view []) mean mg mb h₀) (hk : cs.kind = .function)
   (hd : dp + 100 < recursionLimit) (hu : un + 1000 < cLine) (sub : ∀ p ∈ im, p ∈ news) (ht : (t, tupOf [.str (Str.ofString "panic") t0, r1].toArray kt) ∈ news)
   (ret : ∀ l vs k tl h' tk', Fr h₀ L h' m → News h₀ L h' (news ++ tl) → Abw news tl → (l, (listOf vs.toArray k : Obj)) ∈ tl → DatAll (im ++ tl) vs ([]) → Q (.ref l) { s with heap := h', toks := tk' }) :
   wpAny (model prog w) (ktrTop dp un gd cn cs L a ccd cl outer) (call (.ref 59) [.ref t, vm]) Q E s := by
  refine wpAny_call ?_
  k_dflt ktr_enter
  k_steps
  (rename Fr _ _ _ _ => F3)
  (rename News _ _ _ _ => N3)
  exact ret _ _ _ _ _ _ F3 (fin_cut0 N3 (by k_extra "the cut")) (by k_extra "all off") (by k_mem) (by kqd_all)
set_option maxRecDepth 100000 in
set_option maxHeartbeats 2000000 in
theorem oftm_unr {prog : Program} {w : World} {mean : ExcName → Option Value} {mg mb : Str → Option Value} {dp un : Nat} {gd : Option (List Code)} {cn : Str} {cs : Scope} {a : Addr} {ccd : Value} {cl : List (Str × Addr)} {outer : List Env} {A₀ : Around} {base h₀ : Heap} {L : Addr} {m : Str → Option Value} {news im : List (Addr × Obj)} {s : Shared}
   {Q E : Value → Shared → Prop} {t : Addr} {kt t0 : Nat} {vm : Value} 
   (B : Below A₀ base outer h₀) (F : Fr h₀ L s.heap m) (X : (hd.heap_39 w.params).In h₀) (N : News h₀ L s.heap news) (T : Top view (looseW view []) mean mg mb h₀) (hk : cs.kind = .function)
   (hd : dp + 100 < recursionLimit) (hu : un + 1000 < cLine) (sub : ∀ p ∈ im, p ∈ news) (ht : (t, tupOf [.str (Str.ofString "unreachable") t0].toArray kt) ∈ news)
   (ret : ∀ l vs k tl h' tk', Fr h₀ L h' m → News h₀ L h' (news ++ tl) → Abw news tl → (l, (listOf vs.toArray k : Obj)) ∈ tl → DatAll (im ++ tl) vs ([]) → Q (.ref l) { s with heap := h', toks := tk' }) :
   wpAny (model prog w) (ktrTop dp un gd cn cs L a ccd cl outer) (call (.ref 59) [.ref t, vm]) Q E s := by
  refine wpAny_call ?_
  k_dflt ktr_enter
  k_steps
  (rename Fr _ _ _ _ => F3)
  (rename News _ _ _ _ => N3)
  exact ret _ _ _ _ _ _ F3 (fin_cut0 N3 (by k_extra "the cut")) (by k_extra "all off") (by k_mem) (by kqd_all)
theorem w18 : True := by
  k_with "eval ListComp" => ((k_here; (with_reducible show wpAny _ _ (eval (PySem.Expr.ListComp _ [_] _ _) _) _ _ _); k_dflt (refine LCg.ListComp_U (F₀ := by k_asm) (by rfl) (by decide) (by rfl) (by decide) (by rfl) ?_)))
  k_with "CompSrc" => ((refine Held.mk ?_))
  k_with "CompEnd" => ((refine Held.mk ?_))
  trivial
set_option maxRecDepth 100000 in
set_option maxHeartbeats 2000000 in
theorem oftm_ret {prog : Program} {w : World} {mean : ExcName → Option Value} {mg mb : Str → Option Value} {dp un : Nat} {gd : Option (List Code)} {cn : Str} {cs : Scope} {a : Addr} {ccd : Value} {cl : List (Str × Addr)} {outer : List Env} {A₀ : Around} {base h₀ : Heap} {L : Addr} {m : Str → Option Value} {news im : List (Addr × Obj)} {s : Shared}
   {Q E : Value → Shared → Prop} {t : Addr} {kt t0 : Nat} {n tm : Nat}
   (B : Below A₀ base outer h₀) (F : Fr h₀ L s.heap m) (X : (hd.heap_39 w.params).In h₀) (N : News h₀ L s.heap news) (T : Top view (looseW view []) mean mg mb h₀) (hk : cs.kind = .function)
   (hd : dp + 100 < recursionLimit) (hu : un + 1000 < cLine) (sub : ∀ p ∈ im, p ∈ news) (ht : (t, tupOf [.str (Str.ofString "return") t0].toArray kt) ∈ news) (hn : n ≤ 10)
   (ret : ∀ l vs k tl h' tk', Fr h₀ L h' m → News h₀ L h' (news ++ tl) → Abw news tl → (l, (listOf vs.toArray k : Obj)) ∈ tl → DatAll (im ++ tl) vs (retrows n) → Q (.ref l) { s with heap := h', toks := tk' }) :
   wpAny (model prog w) (ktrTop dp un gd cn cs L a ccd cl outer) (call (.ref 59) [.ref t, .int (1 + (n : Int)) tm]) Q E s := by
  refine wpAny_call ?_
  k_dflt ktr_enter
  k_steps
  refine Held.out ?_
  (rename Fr _ _ _ _ => F1)
  (rename News _ _ _ _ => N1)
  (rename IsRange _ _ _ _ _ _ _ _ => R1)
  have N1' : News _ _ _ (news ++ []) := fun p hp => N1 p (by simp only [List.append_nil] at hp; simp only [List.mem_cons, hp, or_true])
  refine LCg.CompSrc.range (n := n) rfl F1 N1' R1 (small_one (by omega) (by omega) (by omega) (by omega)) (by rw [rangeSize_nat]; omega) (by rw [sizeLine_eq]; omega) ?_
  clear N1 N1' F1 R1
  intro g
  refine restU (RtJ news) _ ?_ ?_ _ 0 [] _ (Nat.zero_add _) ⟨[], rfl, Abw.nil, .nil⟩
  · rintro ys nx ⟨tl, rfl, hab, hD⟩
    intro D h tk F2 N2 off
    have o1 := off1_mem off
    k_steps
    (rename Fr _ _ _ _ => F3)
    (rename News _ _ _ _ => N3)
    exact ret D ys _ ((D, LCg.lst ys) :: tl) _ _ F3 (fin_cut0 N3 (Cut.cons Cut.app0)) (Abw.consNe o1 (fun p hp => List.mem_append_left _ hp) hab) (.head _) (hD.mono (by k_extra "the subset"))
  · rintro k i ys nx hik ⟨tl, rfl, hab, hD⟩ IH
    refine LCg.CompRest.succ ?_
    intro v I oI C oC D m₂ h tk E' hv hC hx1 F2 N2 off ne
    obtain ⟨tv, rfl⟩ := hv
    have hrr : retrows (i + 1) = retrows i ++ [lrow (1 + (i : Int)) (Str.ofString "return")] := by simp [retrows, List.range_succ]
    k_steps
    refine Held.out ?_
    (rename Fr _ _ _ _ => F3)
    (rename News _ _ _ _ => N3)
    exact rt_end F3 N3 (by k_extra "the cut") off (by k_extra "all off") hab (fun hab2 => IH _ _ ⟨_, rfl, hab2, (by rw [hrr]; exact (hD.mono fun p hp => List.mem_append_left _ hp).append (by kqd_all))⟩)
end
end
-- Opq
def Sm (s s' : Shared) : Prop := s' = { s with heap := s'.heap, toks := s'.toks }
theorem Sm.one {s : Shared} : Sm s s := rfl
theorem Sm.step {s s' : Shared} {h : Heap} {tk : Nat} (k : Sm s s') : Sm s { s' with heap := h, toks := tk } := by
  have k2 : s' = { s with heap := s'.heap, toks := s'.toks } := k
  show _ = _
  rw [k2]
theorem Sm.fin {s s' : Shared} {h : Heap} {tk : Nat} {Q : Value → Shared → Prop} {v : Value} (k : Sm s s') (q : Q v { s with heap := h, toks := tk }) : Q v { s' with heap := h, toks := tk } := by
  have k2 : s' = { s with heap := s'.heap, toks := s'.toks } := k
  rw [k2]
  exact q
theorem sealN {prog : Program} {w : World} {A : Around} {α : Type} {t : Sem α} {Q : α → Shared → Prop} {E : Value → Shared → Prop} {s s0 : Shared} {h₀ : Heap} {L S : Addr} {o : Obj} {m : Str → Option Value} {rest : List (Addr × Obj)} {e1 e2 e3 e4 e5 e6 : Addr × Obj} {r : List (Addr × Obj)}
    (G : News h₀ L s.heap (e1 :: e2 :: e3 :: e4 :: e5 :: e6 :: r)) (hb : Sm s0 s) (F : Fr h₀ L s.heap m) (N : News h₀ L s.heap ((S, o) :: rest)) (hS : ∀ p ∈ rest, p.1 ≠ S)
    (k : ∀ s' im, Sm s0 s' → (∀ p ∈ rest, p ∈ im) → (∀ p ∈ im, p.1 ≠ S) → Fr h₀ L s'.heap m → News h₀ L s'.heap ((S, o) :: im) → wpAny (model prog w) A t Q E s') : wpAny (model prog w) A t Q E s := k s rest hb (fun _ h => h) hS F N
theorem sub_up {α : Type} {a b c : List α} (k : ∀ p ∈ b, p ∈ c) (h : ∀ p ∈ a, p ∈ b) : ∀ p ∈ a, p ∈ c := fun p hp => k p (h p hp)
theorem list_open {tl : List (Addr × Obj)} {v : Value} {ds : List Dat} (D : DatIn tl v (.list ds)) : ∃ l vs k, v = .ref l ∧ (l, (listOf vs.toArray k : Obj)) ∈ tl ∧ DatAll tl vs ds ∧ vs.length = ds.length := by
  cases D with
  | list hm r => exact ⟨_, _, _, rfl, hm, r, r.length⟩
theorem opd_rows1 (o : Opd) : o.rows.length ≤ 1 := by cases o <;> simp [Opd.rows]
theorem kind_of {a b i : Nat} (h : i < [Value.str (Str.ofString "shared") a, Value.str (Str.ofString "two-phase") b].length) :
    ∃ kd t, [Value.str (Str.ofString "shared") a, Value.str (Str.ofString "two-phase") b][i] = Value.str kd t ∧ kd ≠ Str.ofString "mut" ∧ PyData.strOk kd = true := by
  rcases two h with rfl | rfl
  · exact ⟨_, _, rfl, by decide, by decide +kernel⟩
  · exact ⟨_, _, rfl, by decide, by decide +kernel⟩
theorem operand_q {prog : Program} {w : World} {mean : ExcName → Option Value} {mg mb : Str → Option Value} {dp un : Nat} {gd : Option (List Code)} {cn : Str} {cs : Scope} {a : Addr} {ccd : Value} {cl : List (Str × Addr)} {outer : List Env} {A₀ : Around} {base h₀ : Heap} {L S : Addr} {m : Str → Option Value} {imm : List (Addr × Obj)} {s s0 : Shared}
   {x y : Int} {tx ty n : Nat} {Q E : Value → Shared → Prop}
   (B : Below A₀ base outer h₀) (F : Fr h₀ L s.heap m) (X : (hd.heap_39 w.params).In h₀) (N : News h₀ L s.heap ((S, listOf #[.int x tx, .int y ty] n) :: imm)) (hS : ∀ p ∈ imm, p.1 ≠ S) (T : Top view (looseW view []) mean mg mb h₀) (hk : cs.kind = .function)
   (hd : dp + 40 < recursionLimit) (hu : un + 400 < cLine) (hx : 0 ≤ x) (hy : 0 ≤ y ∧ y < 2147483647) (hb : Sm s0 s)
   (ret : ∀ p v l vs kl a k imm' x' y' tx' ty' n' s', Sm s0 s' → Fr h₀ L s'.heap m → News h₀ L s'.heap ((S, listOf #[.int x' tx', .int y' ty'] n') :: imm') → (∀ p ∈ imm, p ∈ imm') → (∀ p ∈ imm', p.1 ≠ S) → 0 ≤ x' → (0 ≤ y' ∧ y' < 2147483647) → (a, tupOf [v, .ref l].toArray k) ∈ imm' → DatIn imm' v (Opd.dat p) → (l, (listOf vs.toArray kl : Obj)) ∈ imm' → DatAll imm' vs p.rows → vs.length ≤ 1 → Q (.ref a) s') :
   wpAny (model prog w) (ktrTop dp un gd cn cs L a ccd cl outer) (call (.ref 94) [.ref S]) Q E s :=
  operand_use B F X N hS T hk hd hu hx hy fun p v v' a k tl x' y' tx' ty' n' h' tk' F' N' hS' ab hx' hy' hm D1 D2 => by
    obtain ⟨l, vs, kl, e, hml, Dl, le⟩ := list_open D2
    subst e
    have sb : ∀ p ∈ tl, p ∈ imm ++ tl := fun p hp => List.mem_append_right _ hp
    exact ret p v l vs kl a k _ x' y' tx' ty' n' { s with heap := h', toks := tk' } hb.step F' N' (fun p hp => List.mem_append_left _ hp) hS' hx' hy' (sb _ hm) (D1.mono sb) (sb _ hml) (Dl.mono sb) (by have := opd_rows1 p; omega)
theorem some_q {prog : Program} {w : World} {mean : ExcName → Option Value} {mg mb : Str → Option Value} {dp un : Nat} {gd : Option (List Code)} {cn : Str} {cs : Scope} {a : Addr} {ccd : Value} {cl : List (Str × Addr)} {outer : List Env} {A₀ : Around} {base h₀ : Heap} {L S : Addr} {m : Str → Option Value} {imm : List (Addr × Obj)} {s s0 : Shared}
   {x y : Int} {tx ty n : Nat} {Q E : Value → Shared → Prop}
   (B : Below A₀ base outer h₀) (F : Fr h₀ L s.heap m) (X : (hd.heap_39 w.params).In h₀) (N : News h₀ L s.heap ((S, listOf #[.int x tx, .int y ty] n) :: imm)) (hS : ∀ p ∈ imm, p.1 ≠ S) (T : Top view (looseW view []) mean mg mb h₀) (hk : cs.kind = .function)
   (hd : dp + 50 < recursionLimit) (hu : un + 500 < cLine) (hx : 0 ≤ x) (hy : 0 ≤ y ∧ y < 2147483647) (hb : Sm s0 s)
   (ret : ∀ (os : List Opd) b l vs kl v k imm' x' y' tx' ty' n' s', Sm s0 s' → Fr h₀ L s'.heap m → News h₀ L s'.heap ((S, listOf #[.int x' tx', .int y' ty'] n') :: imm') → (∀ p ∈ imm, p ∈ imm') → (∀ p ∈ imm', p.1 ≠ S) → 0 ≤ x' → (0 ≤ y' ∧ y' < 2147483647) → os.length ≤ 3 → (v, tupOf [.ref b, .ref l].toArray k) ∈ imm' → DatIn imm' (.ref b) (.tuple (os.map Opd.dat)) → (l, (listOf vs.toArray kl : Obj)) ∈ imm' → DatAll imm' vs (os.flatMap Opd.rows) → vs.length ≤ 3 → Q (.ref v) s') :
   wpAny (model prog w) (ktrTop dp un gd cn cs L a ccd cl outer) (call (.ref 99) [.ref S]) Q E s :=
  some_use B F X N hS T hk hd hu hx hy fun os b c v k tl x' y' tx' ty' n' h' tk' F' N' hS' ab hx' hy' hos hm D1 D2 => by
    obtain ⟨l, vs, kl, e, hml, Dl, le⟩ := list_open D2
    cases e
    have sb : ∀ p ∈ tl, p ∈ imm ++ tl := fun p hp => List.mem_append_right _ hp
    exact ret os b _ vs kl v k _ x' y' tx' ty' n' { s with heap := h', toks := tk' } hb.step F' N' (fun p hp => List.mem_append_left _ hp) hS' hx' hy' hos (sb _ hm) (D1.mono sb) (sb _ hml) (Dl.mono sb) (by have := rows_le os; omega)
theorem place_q {prog : Program} {w : World} {mean : ExcName → Option Value} {mg mb : Str → Option Value} {dp un : Nat} {gd : Option (List Code)} {cn : Str} {cs : Scope} {a : Addr} {ccd : Value} {cl : List (Str × Addr)} {outer : List Env} {A₀ : Around} {base h₀ : Heap} {L S : Addr} {m : Str → Option Value} {imm : List (Addr × Obj)} {s s0 : Shared}
   {x y : Int} {tx ty n : Nat} {Q E : Value → Shared → Prop}
   (B : Below A₀ base outer h₀) (F : Fr h₀ L s.heap m) (X : (hd.heap_39 w.params).In h₀) (N : News h₀ L s.heap ((S, listOf #[.int x tx, .int y ty] n) :: imm)) (hS : ∀ p ∈ imm, p.1 ≠ S) (T : Top view (looseW view []) mean mg mb h₀) (hk : cs.kind = .function)
   (hd : dp + 30 < recursionLimit) (hu : un + 300 < cLine) (hx : 0 ≤ x) (hy : 0 ≤ y ∧ y < 2147483647) (hb : Sm s0 s)
   (ret : ∀ p v l vs kl a k imm' x' y' tx' ty' n' s', Sm s0 s' → Fr h₀ L s'.heap m → News h₀ L s'.heap ((S, listOf #[.int x' tx', .int y' ty'] n') :: imm') → (∀ p ∈ imm, p ∈ imm') → (∀ p ∈ imm', p.1 ≠ S) → 0 ≤ x' → (0 ≤ y' ∧ y' < 2147483647) → p.steps.length ≤ 10 → (a, tupOf [v, .ref l].toArray k) ∈ imm' → DatIn imm' v (Plc.dat p) → (l, (listOf vs.toArray kl : Obj)) ∈ imm' → DatAll imm' vs (p.locals.map .int) → Q (.ref a) s') :
   wpAny (model prog w) (ktrTop dp un gd cn cs L a ccd cl outer) (call (.ref 87) [.ref S]) Q E s :=
  place_use B F X N hS T hk hd hu hx hy fun p v v' a k tl x' y' tx' ty' n' h' tk' F' N' hS' ab hx' hy' hlp hm D1 D2 => by
    obtain ⟨l, vs, kl, e, hml, Dl, le⟩ := list_open D2
    subst e
    have sb : ∀ p ∈ tl, p ∈ imm ++ tl := fun p hp => List.mem_append_right _ hp
    exact ret p v l vs kl a k _ x' y' tx' ty' n' { s with heap := h', toks := tk' } hb.step F' N' (fun p hp => List.mem_append_left _ hp) hS' hx' hy' hlp (sb _ hm) (D1.mono sb) (sb _ hml) (Dl.mono sb)
theorem one_q {prog : Program} {w : World} {mean : ExcName → Option Value} {mg mb : Str → Option Value} {dp un : Nat} {gd : Option (List Code)} {cn : Str} {cs : Scope} {a : Addr} {ccd : Value} {cl : List (Str × Addr)} {outer : List Env} {A₀ : Around} {base h₀ : Heap} {L S t : Addr} {m : Str → Option Value} {imm : List (Addr × Obj)} {s s0 : Shared}
   {x y : Int} {tx ty n k : Nat} {vs : List Value} {Q E : Value → Shared → Prop}
   (B : Below A₀ base outer h₀) (F : Fr h₀ L s.heap m) (X : (hd.heap_39 w.params).In h₀) (N : News h₀ L s.heap ((S, listOf #[.int x tx, .int y ty] n) :: imm)) (hS : ∀ p ∈ imm, p.1 ≠ S) (T : Top view (looseW view []) mean mg mb h₀) (hk : cs.kind = .function)
   (hd : dp + 20 < recursionLimit) (hu : un + 200 < cLine) (hx : 0 ≤ x) (hy : 0 ≤ y ∧ y < 2147483647) (ht : (t, listOf vs.toArray k) ∈ imm) (hl : 0 < vs.length ∧ vs.length ≤ 256) (hb : Sm s0 s)
   (ret : ∀ i (hi : i < vs.length) imm' x' y' tx' ty' n' s', Sm s0 s' → Fr h₀ L s'.heap m → News h₀ L s'.heap ((S, listOf #[.int x' tx', .int y' ty'] n') :: imm') → (∀ p ∈ imm, p ∈ imm') → (∀ p ∈ imm', p.1 ≠ S) → 0 ≤ x' → (0 ≤ y' ∧ y' < 2147483647) → Q vs[i] s') :
   wpAny (model prog w) (ktrTop dp un gd cn cs L a ccd cl outer) (call (.ref 80) [.ref S, .ref t]) Q E s :=
  one_ok B F X N hS T hk hd hu hx hy ht hl fun i hi x' y' tx' ty' n' h' tk' F' N' hx' hy' => ret i hi _ x' y' tx' ty' n' { s with heap := h', toks := tk' } hb.step F' N' (fun _ h => h) hS hx' hy'
-- Rvs
section
local macro_rules | `(tactic| k_lt $h:ident) => `(tactic| ((have raw9 := $h); clear $h))
def rvp (rv : Rv) : Dat := .tuple [rv.dat, .list rv.rows]
section
theorem w19 : True := by
  k_with_none
  k_with "all" => (assumption)
  k_with "mem0" => (assumption)
  k_with "mem" => (first | with_reducible exact List.mem_cons_self | ((with_reducible refine List.mem_cons_of_mem _ ?_); k_extra "mem") | with_reducible assumption | ((with_reducible refine List.mem_append_left _ ?_); k_extra "mem") | ((with_reducible refine List.mem_append_right _ ?_); k_extra "mem") | ((refine mem_up (by with_reducible assumption) ?_); k_extra "mem") | fail "no member")
  k_with "sub0" => (first | with_reducible exact sub_refl | with_reducible exact sub_nil | ((with_reducible refine sub_app ?_ ?_); (k_extra "sub0"); (k_extra "sub0")) | ((with_reducible refine sub_consS ?_ ?_); (k_extra "mem"); (k_extra "sub0")) | ((with_reducible refine sub_cons ?_); (k_extra "sub0")) | ((with_reducible refine sub_appR ?_); with_reducible exact sub_refl) | ((with_reducible refine sub_appL ?_); (k_extra "sub0")) | ((with_reducible refine sub_appR ?_); (k_extra "sub0")) | fail "no subset")
  k_with "datin" => (first | with_reducible exact DatIn.none | with_reducible exact DatIn.int _ _ | with_reducible exact DatIn.bool _ | with_reducible exact DatIn.str _ _ | ((with_reducible refine' DatIn.mono ?s9 ?d9); (case d9 => with_reducible assumption); (case s9 => k_extra "the subset")) | (refine' DatIn.tuple ?m9 ?r9; (case m9 => k_extra "mem"); (case r9 => k_extra "datall")) | (refine' DatIn.list ?m9 ?r9; (case m9 => k_extra "mem"); (case r9 => k_extra "datall")) | exact DatIn.int _ _ | exact DatIn.str _ _ | fail "no datum")
  k_with "datall" => (first | with_reducible exact DatAll.nil | ((with_reducible refine' DatAll.mono ?s9 ?d9); (case d9 => with_reducible assumption); (case s9 => k_extra "the subset")) | ((with_reducible refine DatAll.append ?_ ?_); (k_extra "datall"); (k_extra "datall")) | (refine' DatAll.cons ?_ ?_; (k_extra "datin"); (k_extra "datall")) | exact DatAll.nil | fail "no data")
  k_with "the pick" => (first | exact Pick.here | ((with_reducible refine' Pick.skip ?p8); (case p8 => k_extra "the pick")) | fail "no pick")
  k_with "the news" => (first | k_asm | (refine' news_pick ?n9 ?p9; (case n9 => k_asm); (case p9 => k_extra "the pick")) | fail "no news")
  k_with "call ref" => ((k_here; (with_reducible show wpAny _ _ (call (Value.ref 73) _) _ _ _); k_dflt (refine' take_ok ?kB ?kF ?kX ?kN ?kS ?kT ?kk ?kd ?ku ?kx ?ky ?kt ?_; (case kB => k_asm); (case kF => k_asm); (case kX => k_asm); (case kN => k_extra "the news"); (case kS => k_all); (case kT => k_asm); (case kk => first | exact rfl | assumption); (case kd => ktr_room); (case ku => ktr_units); (case kx => first | assumption | omega); (case ky => assumption); (case kt => first | assumption | decide | omega)); intro r9 tr9 x9 y9 tx9 ty9 n9 h9 tk9 F9 N9 rlo9 rhi9 hx9 hy9; (try k_sweep)))
  k_with "call ref" => ((k_here; (with_reducible show wpAny _ _ (call (Value.ref 80) _) _ _ _); k_dflt (refine' one_ok ?kB ?kF ?kX ?kN ?kS ?kT ?kk ?kd ?ku ?kx ?ky ?kt ?kl ?_; (case kB => k_asm); (case kF => k_asm); (case kX => k_asm); (case kN => k_extra "the news"); (case kS => k_all); (case kT => k_asm); (case kk => first | exact rfl | assumption); (case kd => first | exact room_le (a := 21) (by with_reducible assumption) rfl rfl | ktr_room); (case ku => first | exact room_le (a := 203) (by with_reducible assumption) rfl rfl | ktr_units); (case kx => first | assumption | omega); (case ky => assumption); (case kt => k_extra "mem"); (case kl => first | assumption | exact ⟨by decide, by decide⟩ | exact ⟨Nat.lt_of_sub_eq_succ rfl, Nat.le_of_ble_eq_true rfl⟩)); intro i9 hi9 x9 y9 tx9 ty9 n9 h9 tk9 F9 N9 hx9 hy9; (try k_sweep); (first | (rcases four hi9 with e9 | e9 | e9 | e9 <;> (subst e9; (try dsimp only [List.getElem_cons_zero, List.getElem_cons_succ]))) | (rcases three hi9 with e9 | e9 | e9 <;> (subst e9; (try dsimp only [List.getElem_cons_zero, List.getElem_cons_succ]))) | (rcases two hi9 with e9 | e9 <;> (subst e9; (try dsimp only [List.getElem_cons_zero, List.getElem_cons_succ]))))))
  k_with "the subset" => (first | (k_extra "sub0") | ((refine sub_trans (by with_reducible assumption) ?_); (k_extra "sub0")) | fail "no subset")
  k_with "binaryOp Add ref ref" => ((k_here; (with_reducible show wpAny _ _ (binaryOp _ (Value.ref _) (Value.ref _)) _ _ _); k_dflt (refine' add_dl ?k1 ?k2 ?k3 ?k4 ?k5 ?_; (case k1 => k_asm); (case k2 => k_asm); (case k3 => k_extra "mem"); (case k4 => k_extra "mem"); (case k5 => k_extra "the sizes"); k_whole); intro D' h' F' N' l1; (try k_lt l1); (try k_sweep)))
  k_with "binaryOp Add ref ref" => ((k_here; (with_reducible show wpAny _ _ (binaryOp _ (Value.ref _) (Value.ref _)) _ _ _); k_dflt (refine' add_dt ?k1 ?k2 ?k3 ?k4 ?k5 ?k6 ?_ ?_; (case k1 => k_asm); (case k2 => k_asm); (case k3 => k_extra "mem"); (case k4 => k_extra "mem"); (case k5 => k_extra "the sizes"); (case k6 => exact List.cons_ne_nil _ _)); (all_goals k_whole); (iterate 1 (intro nl9)); rotate_left; (intro nl9 D' h' F' N' l1; (try k_lt l1); (try k_sweep))))
  k_with "the sizes" => (((try simp only [List.length_cons, List.length_nil]); first | omega | (simp only [List.length_append, List.length_cons, List.length_nil]; omega)))
  k_with "TbPost" => ((refine Held.mk ?_))
  k_with "mem0" => (first | ((with_reducible refine List.mem_append_left _ ?_); k_mem) | ((with_reducible refine List.mem_append_right _ ?_); k_mem) | ((with_reducible refine memL ?_); k_mem) | ((with_reducible refine memR ?_); k_mem))
  k_with "mem0" => (assumption)
  k_with "above" => (first | (refine' Abv1.ofNe ?a1 ?a2 ?a3; (case a1 => with_reducible assumption); (case a2 => k_extra "mem"); (case a3 => k_extra "the subset")) | (refine' Abv1.of ?a1 ?a2 ?a3; (case a1 => with_reducible assumption); (case a2 => k_extra "mem"); (case a3 => k_extra "the subset")) | fail "not above")
  k_with "the cut" => (first | exact Cut.here | ((with_reducible refine' Cut.cons ?c8); (case c8 => k_extra "the cut")) | ((with_reducible refine' Cut.app ?c8); (case c8 => k_extra "the cut")) | fail "no cut")
  k_with "all above" => (first |  exact Abv.nil | with_reducible assumption | ((with_reducible refine Abv.cons1 ?_ ?_); (k_extra "above"); (k_extra "all above")) | ((with_reducible refine Abv.app ?_ ?_); (k_extra "all above"); (k_extra "all above")) | ((with_reducible refine' Abv.mono ?a9 ?b9); (case a9 => with_reducible assumption); (case b9 => k_extra "the subset")) | ((with_reducible refine' Abv.ofW ?a9 ?b9 ?c9); (case a9 => with_reducible assumption); (case b9 => k_extra "mem"); (case c9 => k_extra "the subset")) | fail "not all above")
  k_with "kin" => (first | ((with_reducible refine' DatIn.mono ?s9 ?d9); (case d9 => with_reducible assumption); (case s9 => k_extra "the subset")) | fail "no datum")
  k_with "kall" => (first | ((with_reducible refine' DatAll.mono ?s9 ?d9); (case d9 => with_reducible assumption); (case s9 => k_extra "the subset")) | ((with_reducible refine DatAll.append ?_ ?_); (kqd_all); (kqd_all)) | fail "no data")
  k_with "all off" => (first | exact Abw.nil | with_reducible assumption | ((with_reducible refine' Abw.cons ?a9 ?b9 ?c9); (case a9 => with_reducible assumption); (case b9 => k_extra "the subset"); (case c9 => k_extra "all off")) | ((with_reducible refine' Abw.consNe ?a9 ?b9 ?c9); (case a9 => with_reducible assumption); (case b9 => k_extra "the subset"); (case c9 => k_extra "all off")) | ((with_reducible refine Abw.app ?_ ?_); (k_extra "all off"); (k_extra "all off")) | ((with_reducible refine' Abw.mono ?a9 ?b9); (case a9 => with_reducible assumption); (case b9 => k_extra "the subset")) | fail "not all off")
  k_with "all" => ((fail_if_success (with_reducible refine List.forall_mem_cons.mpr ⟨?_, ?_⟩)); first | ((with_reducible refine ne_app ?_ ?_); (k_all); (k_all)) | ((with_reducible refine' Abw.ne ?a9 ?b9); (case a9 => with_reducible assumption); (case b9 => k_extra "mem")) | ((with_reducible refine Abv.ne ?_); with_reducible assumption) | fail "k_all: none")
  k_with "all" => (with_reducible assumption)
  k_with "nesi" => (first | with_reducible exact nes_base (by with_reducible assumption) (by with_reducible assumption) | ((with_reducible refine nes_step (by with_reducible assumption) ?_); k_extra "nesi") | fail "nesi")
  k_with "all" => (((with_reducible refine nes_end ?_); k_extra "nesi"))
  k_with "call ref" => ((k_here; (with_reducible show wpAny _ _ (call (Value.ref 87) _) _ _ _); k_dflt (refine' place_use ?kB ?kF ?kX ?kN ?kS ?kT ?kk ?kd ?ku ?kx ?ky ?_; (case kB => k_asm); (case kF => k_asm); (case kX => k_asm); (case kN => k_extra "the news"); (case kS => k_all); (case kT => k_asm); (case kk => first | exact rfl | assumption); (case kd => first | exact room_le (a := 31) (by with_reducible assumption) rfl rfl | ktr_room); (case ku => first | exact room_le (a := 303) (by with_reducible assumption) rfl rfl | ktr_units); (case kx => first | assumption | omega); (case ky => assumption)); intro p9 v9 w9 a9 k9 tl9 x9 y9 tx9 ty9 n9 h9 tk9 F9 N9 hS9 ab9 hx9 hy9 hlp9 hm9 Dv9 Dw9; (try k_sweep)))
  k_with "subscriptTail Call Name cons nil Constant ref int" => ((k_here; k_dflt (refine' sub_tup ?k1 ?k2 ?k3 ?k7 ?k4 ?k5 ?_ ?k6; (case k1 => k_asm); (case k2 => k_extra "mem"); (case k3 => decide); (case k7 => first | decide | exact (by simp only [List.length_cons, List.length_nil]; omega)); (case k4 => decide); (case k5 => exact rfl); (case k6 => with_unfolding_all rfl); k_whole)))
  k_with "subscriptTail Name Constant ref int" => ((k_here; k_dflt (refine' sub_tup ?k1 ?k2 ?k3 ?k7 ?k4 ?k5 ?_ ?k6; (case k1 => k_asm); (case k2 => k_extra "mem"); (case k3 => decide); (case k7 => first | decide | exact (by simp only [List.length_cons, List.length_nil]; omega)); (case k4 => decide); (case k5 => exact rfl); (case k6 => with_unfolding_all rfl); k_whole)))
  k_with "subc" => (first | with_reducible exact sub_refl | ((with_reducible refine sub_cons ?_); k_extra "subc") | ((with_reducible refine sub_up (by with_reducible assumption) ?_); k_extra "subc") | fail "no chain")
  k_with "the subset" => (first | (k_extra "subc") | (k_extra "sub0") | fail "no subset")
  k_with "sm" => (first | with_reducible assumption | exact Sm.step (by with_reducible assumption) | exact Sm.step (Sm.step (by with_reducible assumption)) | fail "no sm")
  k_with "mem0" => (k_extra "mem")
  k_with "subscriptTail Call Name cons nil Constant ref int" => ((k_here; k_dflt (refine' sub_tup ?k1 ?k2 ?k3 ?k7 ?k4 ?k5 ?_ ?k6; (case k1 => k_asm); (case k2 => k_extra "mem"); (case k3 => decide); (case k7 => first | decide | exact (by simp only [List.length_cons, List.length_nil]; omega)); (case k4 => decide); (case k5 => exact rfl); (case k6 => with_unfolding_all rfl); k_whole)))
  k_with "nesi" => (first | with_reducible exact nes_base (by with_reducible assumption) (by with_reducible assumption) | ((with_reducible refine nes_step (by with_reducible assumption) ?_); k_extra "nesi") | fail "nesi")
  k_with "nes" => (first | with_reducible assumption | exact List.forall_mem_nil _ | ((with_reducible refine nes_end ?_); k_extra "nesi") | fail "nes")
  k_with "call ref" => ((k_here; (with_reducible show wpAny _ _ (call (Value.ref 94) _) _ _ _); k_dflt (refine' operand_q ?kB ?kF ?kX ?kN ?kS ?kT ?kk ?kd ?ku ?kx ?ky ?kb ?_; (case kB => k_asm); (case kF => k_asm); (case kX => k_asm); (case kN => k_extra "the news"); (case kS => k_extra "nes"); (case kT => k_asm); (case kk => first | exact rfl | assumption); (case kd => ktr_room); (case ku => ktr_units); (case kx => first | assumption | omega); (case ky => assumption); (case kb => k_extra "sm")); intro p9 v9 l9 vs9 kl9 a9 k9 im9 x9 y9 tx9 ty9 n9 s9 sm9 F9 N9 up9 hS9 hx9 hy9 hm9 Dv9 hml9 Dl9 le9; (try k_sweep)))
  k_with "call ref" => ((k_here; (with_reducible show wpAny _ _ (call (Value.ref 99) _) _ _ _); k_dflt (refine' some_q ?kB ?kF ?kX ?kN ?kS ?kT ?kk ?kd ?ku ?kx ?ky ?kb ?_; (case kB => k_asm); (case kF => k_asm); (case kX => k_asm); (case kN => k_extra "the news"); (case kS => k_extra "nes"); (case kT => k_asm); (case kk => first | exact rfl | assumption); (case kd => first | exact room_le (a := 51) (by with_reducible assumption) rfl rfl | ktr_room); (case ku => first | exact room_le (a := 503) (by with_reducible assumption) rfl rfl | ktr_units); (case kx => first | assumption | omega); (case ky => assumption); (case kb => k_extra "sm")); intro os9 b9 l9 vs9 kl9 v9 k9 im9 x9 y9 tx9 ty9 n9 s9 sm9 F9 N9 up9 hS9 hx9 hy9 lo9 hm9 Dv9 hml9 Dl9 le9; (try k_sweep)))
  k_with "call ref" => ((k_here; (with_reducible show wpAny _ _ (call (Value.ref 87) _) _ _ _); k_dflt (refine' place_q ?kB ?kF ?kX ?kN ?kS ?kT ?kk ?kd ?ku ?kx ?ky ?kb ?_; (case kB => k_asm); (case kF => k_asm); (case kX => k_asm); (case kN => k_extra "the news"); (case kS => k_extra "nes"); (case kT => k_asm); (case kk => first | exact rfl | assumption); (case kd => first | exact room_le (a := 31) (by with_reducible assumption) rfl rfl | ktr_room); (case ku => first | exact room_le (a := 303) (by with_reducible assumption) rfl rfl | ktr_units); (case kx => first | assumption | omega); (case ky => assumption); (case kb => k_extra "sm")); intro p9 v9 l9 vs9 kl9 a9 k9 im9 x9 y9 tx9 ty9 n9 s9 sm9 F9 N9 up9 hS9 hx9 hy9 hlp9 hm9 Dv9 hml9 Dl9; (try k_sweep)))
  k_with "call ref" => ((k_here; (with_reducible show wpAny _ _ (call (Value.ref 80) _) _ _ _); k_dflt (refine' one_q (vs := [Value.str (Str.ofString "shared") _, Value.str (Str.ofString "two-phase") _]) ?kB ?kF ?kX ?kN ?kS ?kT ?kk ?kd ?ku ?kx ?ky ?kt ?kl ?kb ?_; (case kB => k_asm); (case kF => k_asm); (case kX => k_asm); (case kN => k_extra "the news"); (case kS => k_extra "nes"); (case kT => k_asm); (case kk => first | exact rfl | assumption); (case kd => first | exact room_le (a := 21) (by with_reducible assumption) rfl rfl | ktr_room); (case ku => first | exact room_le (a := 203) (by with_reducible assumption) rfl rfl | ktr_units); (case kx => first | assumption | omega); (case ky => assumption);(case kt => first | exact List.mem_cons_self | k_mem); (case kl => exact ⟨Nat.lt_of_sub_eq_succ rfl, Nat.le_of_ble_eq_true rfl⟩);  (case kb => k_extra "sm")); intro i9 hi9 im9 x9 y9 tx9 ty9 n9 s9 sm9 F9 N9 up9 hS9 hx9 hy9; (obtain ⟨kd9, kt9, hv9, hkm9, hko9⟩ := kind_of hi9); rw [hv9]; (try k_sweep)))
  trivial
set_option maxRecDepth 100000 in
set_option maxHeartbeats 4000000 in
theorem rvalues_ok {prog : Program} {w : World} {mean : ExcName → Option Value} {mg mb : Str → Option Value} {dp un : Nat} {gd : Option (List Code)} {cn : Str} {cs : Scope} {a : Addr} {ccd : Value} {cl : List (Str × Addr)} {outer : List Env} {A₀ : Around} {base h₀ : Heap} {L S : Addr} {m : Str → Option Value} {imm : List (Addr × Obj)} {s : Shared}
   {x y : Int} {tx ty n : Nat} {Q E : Value → Shared → Prop}
   (B : Below A₀ base outer h₀) (F : Fr h₀ L s.heap m) (X : (hd.heap_39 w.params).In h₀) (N : News h₀ L s.heap ((S, listOf #[.int x tx, .int y ty] n) :: imm)) (hS : ∀ p ∈ imm, p.1 ≠ S) (T : Top view (looseW view []) mean mg mb h₀) (hk : cs.kind = .function)
   (hd : dp + 70 < recursionLimit) (hu : un + 700 < cLine) (hx : 0 ≤ x) (hy : 0 ≤ y ∧ y < 2147483647)
   (ret : ∀ (rvs : List Rv) l vs k imm' x' y' tx' ty' n' h' tk', Fr h₀ L h' m → News h₀ L h' ((S, listOf #[.int x' tx', .int y' ty'] n') :: imm') → (∀ p ∈ imm', p.1 ≠ S) → 0 ≤ x' → (0 ≤ y' ∧ y' < 2147483647) →
     (l, (listOf vs.toArray k : Obj)) ∈ imm' → DatAll imm' vs (rvs.map rvp) → (∀ rv ∈ rvs, rv.few) → rvs.length ≤ 20 → Q (.ref l) { s with heap := h', toks := tk' }) :
   wpAny (model prog w) (ktrTop dp un gd cn cs L a ccd cl outer) (call (.ref 106) [.ref S]) Q E s := by
  refine wpAny_call ?_
  k_dflt ktr_enter
  have sm0 : Sm s s := Sm.one
  k_steps
  all_goals (
    (rename Fr _ _ _ _ => F3)
    (rename News _ _ _ _ => N3)
    refine Sm.fin (by with_reducible assumption) ?_
    refine' ret [.use _, .box _, .cast _, .binary _ _, .checked _ _, .unary _, .tuple _, .array _, .adt _, .refm _, .ref _ ?gk ?gj _, .disc _] _ _ _ _ _ _ _ _ _ _ _ F3 ?gN ?gS ?gx ?gy ?gm ?gD ?gf ?gl
    (case gN => k_extra "the news")
    (case gS => k_extra "nes")
    (case gx => assumption)
    (case gy => assumption)
    (case gm => k_extra "mem")
    (case gD =>
      refine' DatAll.cons ?_ (DatAll.cons ?_ (DatAll.cons ?_ (DatAll.cons ?_ (DatAll.cons ?_ (DatAll.cons ?_ (DatAll.cons ?_ (DatAll.cons ?_ (DatAll.cons ?_ (DatAll.cons ?_ (DatAll.cons ?_ (DatAll.cons ?_ DatAll.nil)))))))))))
      all_goals (dsimp only [rvp, Rv.dat, Rv.rows, numd]; k_extra "datin"))
    (case gk => first | assumption | decide)
    (case gj => first | assumption | decide +kernel)
    (case gf =>
      (repeat' (refine List.forall_mem_cons.mpr ⟨?_, ?_⟩))
      all_goals first | exact trivial | exact List.forall_mem_nil _ | (show _ ≤ 10; omega))
    (case gl => exact (by decide : 12 ≤ 20)))
end
end
-- Asg0
section
variable {prog : Program} {w : World} {A : Around} {E : Value → Shared → Prop} {s : Shared} {env : Env} {h₀ : Heap} {target : PySem.Expr} {body : List Stmt} {Q : Flow → Shared → Prop}
def LpEnd (h₀ : Heap) (L : Addr) (J : (Str → Option Value) → List (Addr × Obj) → Prop) (own : List (Addr × Obj)) (s₁ : Shared) (f : Flow) (s₂ : Shared) : Prop := f = .next ∧ TbEnd h₀ L J own s₁ s₂
theorem go_list {elts : List PySem.Expr} {k : Nat} {tp : Pos} {I l : Addr} {i : Nat} {v : Value} {Q : Unit → Shared → Prop} (hit : s.heap.IsListIter I l i) (h : Q () s) : wpAny (model prog w) A (letOwnedTupleGo (.Tuple elts k tp) (.ref I) v) Q E s := by
  cases v with
  | ref T => exact wpAny_letOwnedTupleGo_listiter hit h
  | _ => exact wpAny_pure h
theorem pair_iter {elts : List PySem.Expr} {kk : Nat} {tp : Pos} {a : Addr} {vs : List Value} {k : Nat} {m₀ : Str → Option Value} {news : List (Addr × Obj)} (J : Nat → (Str → Option Value) → List (Addr × Obj) → Prop)
    (hh : A.handled = none) (hl : (a, (listOf vs.toArray k : Obj)) ∈ news) (F : Fr h₀ env.locals s.heap m₀) (N : News h₀ env.locals s.heap news) (hj : J 0 m₀ news)
    (turn : ∀ i v m₁ nx (s₁ : Shared) own, vs[i]? = some v → TbOff own nx → (a, (listOf vs.toArray k : Obj)) ∈ nx → J i m₁ nx → Fr h₀ env.locals s₁.heap m₁ → News h₀ env.locals s₁.heap (nx ++ own) →
      wpAny (model prog w) A (assign (.Tuple elts kk tp) env v) (fun _ s₃ => wpAny (model prog w) A (execs body env) (LpEnd h₀ env.locals (fun m' nx => (a, (listOf vs.toArray k : Obj)) ∈ nx ∧ J (i + 1) m' nx) own s₁) E s₃) E s₁)
    (done : ∀ m₁ nx h tk, J vs.length m₁ nx → Fr h₀ env.locals h m₁ → News h₀ env.locals h nx → Q .next { s with heap := h, toks := tk }) :
    wpAny (model prog w) A (pyIter (.ref a)) (fun it s₂ => LoopAtT prog w A h₀ env (.Tuple elts kk tp) body Q E it s₂) E s := by
  have ha : s.heap.get? a = some (listOf vs.toArray k) := (N _ hl).1
  have hne : a ≠ s.heap.objs.size := Nat.ne_of_lt (Heap.lt_size ha)
  refine wpAny_pyIter_list ⟨_, ha, rfl, k, rfl⟩ ?_
  have W := Walks.list (prog := prog) (w := w) hh s.heap.objs.size a hne vs.toArray
  have hlen : vs.toArray.size = vs.length := by simp
  rw [hlen] at W
  refine ⟨_, _, _, vs.length, _, _, m₀, news, (fun i m nx => (a, (listOf vs.toArray k : Obj)) ∈ nx ∧ J i m nx), rfl, W, ?_, ?_, ?_, ⟨⟨_, Heap.get?_push_size _ rfl, rfl, rfl⟩, ?_⟩, F.push _, (fun p hp => ⟨Heap.get?_push_of_some _ (N p hp).1, (N p hp).2⟩), (fun i s' v Q' st hq => go_list st.1 hq), ⟨hl, hj⟩, ?_, ?_⟩
  · intro hm
    rcases List.mem_cons.mp hm with e | hm
    · exact absurd F.ns.lt (e ▸ Nat.lt_irrefl _)
    · exact (N _ hl).2.1 ((List.mem_singleton.mp hm).symm)
  · intro b hb
    rw [List.mem_singleton.mp hb]
    exact next_is_new F
  · intro p hp hI
    exact absurd (Heap.lt_size (N p hp).1) ((List.mem_singleton.mp hI) ▸ Nat.lt_irrefl _)
  · exact ⟨_, Heap.get?_push_of_some _ ha, rfl, k, rfl⟩
  · rintro i v m₁ nx s₁ own hin hP ⟨hl₁, hJ⟩ hoff hown hget hfp hst F₁ N₁
    have hP' : vs[i]? = some v := by simpa using hP
    have hI0 : h₀.get? s.heap.objs.size = none := next_is_new F
    obtain ⟨⟨oI, hoI, _⟩, _⟩ := id hst
    have hIown : (s.heap.objs.size, oI) ∈ own := hfp _ (List.mem_cons.mpr (.inl rfl)) hI0 _ hoI
    have hsep : TbOff [(s.heap.objs.size, oI)] nx := by
      intro p hp q hq e
      rw [List.mem_singleton.mp hp] at e
      exact hoff q hq (List.mem_singleton.mpr e.symm)
    have N₂ : News h₀ env.locals s₁.heap (nx ++ [(s.heap.objs.size, oI)]) := fun p hp => N₁ p ((List.mem_append.mp hp).elim (fun h => List.mem_append.mpr (.inr h)) fun h => List.mem_append.mpr (.inl (List.mem_singleton.mp h ▸ hIown)))
    have hao : s₁.heap.get? a = some (listOf vs.toArray k) := (N₁ _ (List.mem_append.mpr (.inr hl₁))).1
    refine wpAny_mono (turn i v m₁ nx s₁ _ hP' hsep hl₁ hJ F₁ N₂) (fun _ s₃ p3 => wpAny_mono p3 (fun f s₂ p => ?_) fun _ _ e => e) fun _ _ e => e
    obtain ⟨rfl, h', tk, m', news', nx', e, F', N', hn, ho, hx, hm⟩ := p
    refine ⟨rfl, h', tk, m', nx', e, F', fun p hp => ?_, fun p hp hq => hx _ (List.mem_singleton.mpr rfl) p hp (List.mem_singleton.mp hq).symm, hm⟩
    rcases List.mem_append.mp hp with h | h
    · have q := hget p h
      rcases List.mem_cons.mp (hown p h) with h2 | h2
      · have e2 : p = (s.heap.objs.size, oI) := by
          have hoI' : s₁.heap.get? s.heap.objs.size = some oI := hoI
          rw [show p.1 = s.heap.objs.size from h2, hoI'] at q
          exact Prod.ext h2 (Option.some.inj q).symm
        rw [e2]
        exact N' _ (ho _ (List.mem_singleton.mpr rfl))
      · have h1 : p.1 = a := List.mem_singleton.mp h2
        rw [h1, hao] at q
        have h3 : p = (a, listOf vs.toArray k) := Prod.ext h1 (Option.some.inj q).symm
        rw [h3]
        exact N' _ (hn _ hm.1)
    · exact N' p (hn p h)
  · rintro h' tk m' news' F' N' _ ⟨_, hJ⟩
    exact done m' news' h' tk hJ F' N'
end
section
variable {prog : Program} {w : World} {A : Around} {E : Value → Shared → Prop} {s : Shared} {h₀ : Heap} {L : Addr} {news n₁ n₂ : List (Addr × Obj)}
theorem ne_same {a b : Addr} {xs ys : List Value} {ka kb : Nat} {ds : List Dat} {Q : Value → Shared → Prop} (N : News h₀ L s.heap news) (ma : (a, (listOf xs.toArray ka : Obj)) ∈ news) (Da : DatAll n₁ xs ds) (sa : ∀ p ∈ n₁, p ∈ news)
    (mb : (b, (listOf ys.toArray kb : Obj)) ∈ news) (Db : DatAll news ys ds) (ok : ∀ d ∈ ds, kqdOk 8 d = true) (hu : A.units + 64 < cLine) (h : Q (.bool false) s) : wpAny (model prog w) A (compareOp .NotEq (.ref a) (.ref b)) Q E s :=
  kqd_ne N ma rfl rfl Da sa mb rfl rfl Db (fun _ h => h) ok ok hu (by simpa using h)
end
theorem str_ok {x : Str} (h : PyData.strOk x = true) (n : Nat) : kqdOk n (.str x) = true := by cases n <;> exact h
theorem stp_ok (st : Stp) (n : Nat) : kqdOk (n + 1) st.dat = true := by
  cases st <;> simp only [Stp.dat, kqdOk, List.all_cons, List.all_nil, Bool.and_true] <;> decide +kernel
theorem plc_ok (p : Plc) (n : Nat) : kqdOk (n + 3) p.dat = true := by
  simp only [Plc.dat, kqdOk, List.all_cons, List.all_nil, Bool.and_true, Bool.true_and]
  rw [List.all_eq_true]
  intro d hd
  obtain ⟨st, _, rfl⟩ := List.mem_map.mp hd
  exact stp_ok st n
theorem row_ok {p : Dat} {a b c : Str} {n : Nat} (hp : kqdOk n p = true) (ha : PyData.strOk a = true) (hb : PyData.strOk b = true) (hc : PyData.strOk c = true) : kqdOk (n + 1) (row p a b c) = true := by
  simp only [row, kqdOk, List.all_cons, List.all_nil, Bool.and_true, Bool.and_eq_true]
  exact ⟨hp, ha, hb, hc⟩
theorem opdr_ok (o : Opd) : ∀ d ∈ o.rows, kqdOk 8 d = true := by
  cases o with
  | copy p => intro d hd; rw [List.mem_singleton.mp hd]; exact row_ok (plc_ok p 4) (by decide +kernel) (by decide +kernel) (by decide +kernel)
  | move p => intro d hd; rw [List.mem_singleton.mp hd]; exact row_ok (plc_ok p 4) (by decide +kernel) (by decide +kernel) (by decide +kernel)
  | const n => intro d hd; cases hd
theorem opdsr_ok (os : List Opd) : ∀ d ∈ os.flatMap Opd.rows, kqdOk 8 d = true := by
  intro d hd
  obtain ⟨o, _, h⟩ := List.mem_flatMap.mp hd
  exact opdr_ok o d h
theorem one_ok' {d e : Dat} (h : kqdOk 8 e = true) : d ∈ [e] → kqdOk 8 d = true := fun hd => by rw [List.mem_singleton.mp hd]; exact h
theorem app_ok {a b : List Dat} (h : ∀ d ∈ a, kqdOk 8 d = true) (k : ∀ d ∈ b, kqdOk 8 d = true) : ∀ d ∈ a ++ b, kqdOk 8 d = true := fun d hd => (List.mem_append.mp hd).elim (h d) (k d)
theorem rvr_ok (rv : Rv) : ∀ d ∈ rv.rows, kqdOk 8 d = true := by
  cases rv with
  | use o => exact opdr_ok o
  | box o => exact opdr_ok o
  | cast o => exact opdr_ok o
  | binary o o' => exact app_ok (opdr_ok o) (opdr_ok o')
  | checked o o' => exact app_ok (opdr_ok o) (opdr_ok o')
  | unary o => exact opdr_ok o
  | tuple os => exact opdsr_ok os
  | array os => exact opdsr_ok os
  | adt os => exact opdsr_ok os
  | refm p => exact fun d => one_ok' (row_ok (plc_ok p 4) (by decide +kernel) (by decide +kernel) (by decide +kernel))
  | ref kd hkm hko p => exact fun d => one_ok' (row_ok (plc_ok p 4) (by decide +kernel) (by decide +kernel) hko)
  | disc p => exact fun d => one_ok' (row_ok (plc_ok p 4) (by decide +kernel) (by decide +kernel) (by decide +kernel))
theorem irow_ok (l : List Int) : ∀ d ∈ l.map irow, kqdOk 8 d = true := by
  intro d hd
  obtain ⟨i, _, rfl⟩ := List.mem_map.mp hd
  exact row_ok (n := 7) (by simp [kqdOk]) (by decide +kernel) (by decide +kernel) (by decide +kernel)
-- Asg
section
local macro_rules | `(tactic| k_lt $h:ident) => `(tactic| ((have raw9 := $h); clear $h))
theorem w20 : True := by
  k_with_none
  k_with "all" => (assumption)
  k_with "mem0" => (assumption)
  k_with "mem" => (first | with_reducible exact List.mem_cons_self | ((with_reducible refine List.mem_cons_of_mem _ ?_); k_extra "mem") | with_reducible assumption | ((with_reducible refine List.mem_append_left _ ?_); k_extra "mem") | ((with_reducible refine List.mem_append_right _ ?_); k_extra "mem") | fail "no member")
  k_with "sub0" => (first | with_reducible exact sub_refl | with_reducible exact sub_nil | ((with_reducible refine sub_app ?_ ?_); (k_extra "sub0"); (k_extra "sub0")) | ((with_reducible refine sub_consS ?_ ?_); (k_extra "mem"); (k_extra "sub0")) | ((with_reducible refine sub_cons ?_); (k_extra "sub0")) | ((with_reducible refine sub_appR ?_); with_reducible exact sub_refl) | ((with_reducible refine sub_appL ?_); (k_extra "sub0")) | ((with_reducible refine sub_appR ?_); (k_extra "sub0")) | fail "no subset")
  k_with "datin" => (first | with_reducible exact DatIn.none | with_reducible exact DatIn.int _ _ | with_reducible exact DatIn.bool _ | with_reducible exact DatIn.str _ _ | ((with_reducible refine' DatIn.mono ?s9 ?d9); (case d9 => with_reducible assumption); (case s9 => k_extra "the subset")) | (refine' DatIn.tuple ?m9 ?r9; (case m9 => k_extra "mem"); (case r9 => k_extra "datall")) | (refine' DatIn.list ?m9 ?r9; (case m9 => k_extra "mem"); (case r9 => k_extra "datall")) | exact DatIn.int _ _ | exact DatIn.str _ _ | fail "no datum")
  k_with "datall" => (first | with_reducible exact DatAll.nil | ((with_reducible refine' DatAll.mono ?s9 ?d9); (case d9 => with_reducible assumption); (case s9 => k_extra "the subset")) | ((with_reducible refine DatAll.append ?_ ?_); (k_extra "datall"); (k_extra "datall")) | (refine' DatAll.cons ?_ ?_; (k_extra "datin"); (k_extra "datall")) | exact DatAll.nil | fail "no data")
  k_with "the pick" => (first | exact Pick.here | ((with_reducible refine' Pick.skip ?p8); (case p8 => k_extra "the pick")) | fail "no pick")
  k_with "the news" => (first | k_asm | (refine' news_pick ?n9 ?p9; (case n9 => k_asm); (case p9 => k_extra "the pick")) | fail "no news")
  k_with "call ref" => ((k_here; (with_reducible show wpAny _ _ (call (Value.ref 73) _) _ _ _); k_dflt (refine' take_ok ?kB ?kF ?kX ?kN ?kS ?kT ?kk ?kd ?ku ?kx ?ky ?kt ?_; (case kB => k_asm); (case kF => k_asm); (case kX => k_asm); (case kN => k_extra "the news"); (case kS => k_all); (case kT => k_asm); (case kk => first | exact rfl | assumption); (case kd => ktr_room); (case ku => ktr_units); (case kx => first | assumption | omega); (case ky => assumption); (case kt => first | assumption | decide | omega)); intro r9 tr9 x9 y9 tx9 ty9 n9 h9 tk9 F9 N9 rlo9 rhi9 hx9 hy9; (try k_sweep)))
  k_with "call ref" => ((k_here; (with_reducible show wpAny _ _ (call (Value.ref 80) _) _ _ _); k_dflt (refine' one_ok ?kB ?kF ?kX ?kN ?kS ?kT ?kk ?kd ?ku ?kx ?ky ?kt ?kl ?_; (case kB => k_asm); (case kF => k_asm); (case kX => k_asm); (case kN => k_extra "the news"); (case kS => k_all); (case kT => k_asm); (case kk => first | exact rfl | assumption); (case kd => first | exact room_le (a := 21) (by with_reducible assumption) rfl rfl | ktr_room); (case ku => first | exact room_le (a := 203) (by with_reducible assumption) rfl rfl | ktr_units); (case kx => first | assumption | omega); (case ky => assumption); (case kt => k_extra "mem"); (case kl => first | assumption | exact ⟨by decide, by decide⟩ | exact ⟨Nat.lt_of_sub_eq_succ rfl, Nat.le_of_ble_eq_true rfl⟩)); intro i9 hi9 x9 y9 tx9 ty9 n9 h9 tk9 F9 N9 hx9 hy9; (try k_sweep); (first | (rcases four hi9 with e9 | e9 | e9 | e9 <;> (subst e9; (try dsimp only [List.getElem_cons_zero, List.getElem_cons_succ]))) | (rcases three hi9 with e9 | e9 | e9 <;> (subst e9; (try dsimp only [List.getElem_cons_zero, List.getElem_cons_succ]))) | (rcases two hi9 with e9 | e9 <;> (subst e9; (try dsimp only [List.getElem_cons_zero, List.getElem_cons_succ]))))))
  k_with "the subset" => (first | (k_extra "sub0") | ((refine sub_trans (by with_reducible assumption) ?_); (k_extra "sub0")) | fail "no subset")
  k_with "binaryOp Add ref ref" => ((k_here; (with_reducible show wpAny _ _ (binaryOp _ (Value.ref _) (Value.ref _)) _ _ _); k_dflt (refine' add_dl ?k1 ?k2 ?k3 ?k4 ?k5 ?_; (case k1 => k_asm); (case k2 => k_asm); (case k3 => k_extra "mem"); (case k4 => k_extra "mem"); (case k5 => k_extra "the sizes"); k_whole); intro D' h' F' N' l1; (try k_lt l1); (try k_sweep)))
  k_with "binaryOp Add ref ref" => ((k_here; (with_reducible show wpAny _ _ (binaryOp _ (Value.ref _) (Value.ref _)) _ _ _); k_dflt (refine' add_dt ?k1 ?k2 ?k3 ?k4 ?k5 ?k6 ?_ ?_; (case k1 => k_asm); (case k2 => k_asm); (case k3 => k_extra "mem"); (case k4 => k_extra "mem"); (case k5 => k_extra "the sizes"); (case k6 => exact List.cons_ne_nil _ _)); (all_goals k_whole); (iterate 1 (intro nl9)); rotate_left; (intro nl9 D' h' F' N' l1; (try k_lt l1); (try k_sweep))))
  k_with "the sizes" => (((try simp only [List.length_cons, List.length_nil]); first | omega | (simp only [List.length_append, List.length_cons, List.length_nil]; omega)))
  k_with "TbPost" => ((refine Held.mk ?_))
  k_with "mem0" => (first | ((with_reducible refine List.mem_append_left _ ?_); k_mem) | ((with_reducible refine List.mem_append_right _ ?_); k_mem) | ((with_reducible refine memL ?_); k_mem) | ((with_reducible refine memR ?_); k_mem))
  k_with "mem0" => (assumption)
  k_with "above" => (first | (refine' Abv1.ofNe ?a1 ?a2 ?a3; (case a1 => with_reducible assumption); (case a2 => k_extra "mem"); (case a3 => k_extra "the subset")) | (refine' Abv1.of ?a1 ?a2 ?a3; (case a1 => with_reducible assumption); (case a2 => k_extra "mem"); (case a3 => k_extra "the subset")) | fail "not above")
  k_with "the cut" => (first | exact Cut.here | ((with_reducible refine' Cut.cons ?c8); (case c8 => k_extra "the cut")) | ((with_reducible refine' Cut.app ?c8); (case c8 => k_extra "the cut")) | fail "no cut")
  k_with "all above" => (first |  exact Abv.nil | with_reducible assumption | ((with_reducible refine Abv.cons1 ?_ ?_); (k_extra "above"); (k_extra "all above")) | ((with_reducible refine Abv.app ?_ ?_); (k_extra "all above"); (k_extra "all above")) | ((with_reducible refine' Abv.mono ?a9 ?b9); (case a9 => with_reducible assumption); (case b9 => k_extra "the subset")) | ((with_reducible refine' Abv.ofW ?a9 ?b9 ?c9); (case a9 => with_reducible assumption); (case b9 => k_extra "mem"); (case c9 => k_extra "the subset")) | fail "not all above")
  k_with "kin" => (first | ((with_reducible refine' DatIn.mono ?s9 ?d9); (case d9 => with_reducible assumption); (case s9 => k_extra "the subset")) | fail "no datum")
  k_with "kall" => (first | ((with_reducible refine' DatAll.mono ?s9 ?d9); (case d9 => with_reducible assumption); (case s9 => k_extra "the subset")) | ((with_reducible refine DatAll.append ?_ ?_); (kqd_all); (kqd_all)) | fail "no data")
  k_with "all off" => (first | exact Abw.nil | with_reducible assumption | ((with_reducible refine' Abw.cons ?a9 ?b9 ?c9); (case a9 => with_reducible assumption); (case b9 => k_extra "the subset"); (case c9 => k_extra "all off")) | ((with_reducible refine' Abw.consNe ?a9 ?b9 ?c9); (case a9 => with_reducible assumption); (case b9 => k_extra "the subset"); (case c9 => k_extra "all off")) | ((with_reducible refine Abw.app ?_ ?_); (k_extra "all off"); (k_extra "all off")) | ((with_reducible refine' Abw.mono ?a9 ?b9); (case a9 => with_reducible assumption); (case b9 => k_extra "the subset")) | fail "not all off")
  k_with "all" => ((fail_if_success (with_reducible refine List.forall_mem_cons.mpr ⟨?_, ?_⟩)); first | ((with_reducible refine ne_app ?_ ?_); (k_all); (k_all)) | ((with_reducible refine' Abw.ne ?a9 ?b9); (case a9 => with_reducible assumption); (case b9 => k_extra "mem")) | ((with_reducible refine Abv.ne ?_); with_reducible assumption) | fail "k_all: none")
  k_with "all" => (with_reducible assumption)
  k_with "nesi" => (first | with_reducible exact nes_base (by with_reducible assumption) (by with_reducible assumption) | ((with_reducible refine nes_step (by with_reducible assumption) ?_); k_extra "nesi") | fail "nesi")
  k_with "all" => (((with_reducible refine nes_end ?_); k_extra "nesi"))
  k_with "call ref" => ((k_here; (with_reducible show wpAny _ _ (call (Value.ref 87) _) _ _ _); k_dflt (refine' place_use ?kB ?kF ?kX ?kN ?kS ?kT ?kk ?kd ?ku ?kx ?ky ?_; (case kB => k_asm); (case kF => k_asm); (case kX => k_asm); (case kN => k_extra "the news"); (case kS => k_all); (case kT => k_asm); (case kk => first | exact rfl | assumption); (case kd => first | exact room_le (a := 31) (by with_reducible assumption) rfl rfl | ktr_room); (case ku => first | exact room_le (a := 303) (by with_reducible assumption) rfl rfl | ktr_units); (case kx => first | assumption | omega); (case ky => assumption)); intro p9 v9 w9 a9 k9 tl9 x9 y9 tx9 ty9 n9 h9 tk9 F9 N9 hS9 ab9 hx9 hy9 hlp9 hm9 Dv9 Dw9; (try k_sweep)))
  k_with "subscriptTail Call Name cons nil Constant ref int" => ((k_here; k_dflt (refine' sub_tup ?k1 ?k2 ?k3 ?k7 ?k4 ?k5 ?_ ?k6; (case k1 => k_asm); (case k2 => k_extra "mem"); (case k3 => decide); (case k7 => first | decide | exact (by simp only [List.length_cons, List.length_nil]; omega)); (case k4 => decide); (case k5 => exact rfl); (case k6 => with_unfolding_all rfl); k_whole)))
  k_with "subscriptTail Name Constant ref int" => ((k_here; k_dflt (refine' sub_tup ?k1 ?k2 ?k3 ?k7 ?k4 ?k5 ?_ ?k6; (case k1 => k_asm); (case k2 => k_extra "mem"); (case k3 => decide); (case k7 => first | decide | exact (by simp only [List.length_cons, List.length_nil]; omega)); (case k4 => decide); (case k5 => exact rfl); (case k6 => with_unfolding_all rfl); k_whole)))
  k_with "call ref" => ((k_here; (with_reducible show wpAny _ _ (call (Value.ref 21) _) _ _ _); k_dflt (refine' ofopd_ok ?kB ?kF ?kX ?kN ?kT ?kk ?kd ?ku ?ks ?kD ?_; (case kB => k_asm); (case kF => k_asm); (case kX => k_asm); (case kN => k_asm); (case kT => k_asm); (case kk => first | exact rfl | assumption); (case kd => ktr_room); (case ku => ktr_units); (case kD => with_reducible assumption); (case ks => k_extra "the subset")); intro l9 vs9 k9 tl9 h9 tk9 F9 N9 ab9 hm9 D9; (try simp only [List.cons_append] at N9); (have le9 := opd_len D9); (try k_sweep)))
  k_with "call ref" => ((k_here; (with_reducible show wpAny _ _ (call (Value.ref 28) _) _ _ _); k_dflt (refine' ofopds_ok ?kB ?kF ?kX ?kN ?kT ?kk ?kd ?ku ?ks ?kD ?kl ?_; (case kB => k_asm); (case kF => k_asm); (case kX => k_asm); (case kN => k_asm); (case kT => k_asm); (case kk => first | exact rfl | assumption); (case kd => ktr_room); (case ku => ktr_units); (case kD => with_reducible assumption); (case kl => with_reducible assumption); (case ks => k_extra "the subset")); intro l9 vs9 k9 tl9 h9 tk9 F9 N9 ab9 hm9 D9; (try simp only [List.cons_append] at N9); (have le9 := opds_len D9); (try k_sweep)))
  k_with "call ref" => ((k_here; (with_reducible show wpAny _ _ (call (Value.ref 35) _) _ _ _); k_dflt (refine' ofbor_mut ?kB ?kF ?kX ?kN ?kT ?kk ?kd ?ku ?ks ?kD ?_; (case kB => k_asm); (case kF => k_asm); (case kX => k_asm); (case kN => k_asm); (case kT => k_asm); (case kk => first | exact rfl | assumption); (case kd => first | exact room_le (a := 21) (by with_reducible assumption) rfl rfl | ktr_room); (case ku => first | exact room_le (a := 203) (by with_reducible assumption) rfl rfl | ktr_units); (case kD => with_reducible assumption); (case ks => k_extra "the subset")); intro l9 vs9 k9 tl9 h9 tk9 F9 N9 ab9 hm9 D9; (try simp only [List.cons_append] at N9); (try k_sweep)))
  k_with "call ref" => ((k_here; (with_reducible show wpAny _ _ (call (Value.ref 35) _) _ _ _); k_dflt (refine' ofbor_ref ?kB ?kF ?kX ?kN ?kT ?kk ?kd ?ku ?ks ?kD ?km ?_; (case km => with_reducible assumption); (case kB => k_asm); (case kF => k_asm); (case kX => k_asm); (case kN => k_asm); (case kT => k_asm); (case kk => first | exact rfl | assumption); (case kd => first | exact room_le (a := 21) (by with_reducible assumption) rfl rfl | ktr_room); (case ku => first | exact room_le (a := 203) (by with_reducible assumption) rfl rfl | ktr_units); (case kD => with_reducible assumption); (case ks => k_extra "the subset")); intro l9 vs9 k9 tl9 h9 tk9 F9 N9 ab9 hm9 D9; (try simp only [List.cons_append] at N9); (try k_sweep)))
  k_with "call ref" => ((k_here; (with_reducible show wpAny _ _ (call (Value.ref 42) _) _ _ _); k_dflt (refine' ofrv_ok ?kB ?kF ?kX ?kN ?kT ?kk ?kd ?ku ?ks ?kD ?kf ?_; (case kB => k_asm); (case kF => k_asm); (case kX => k_asm); (case kN => k_asm); (case kT => k_asm); (case kk => first | exact rfl | assumption); (case kd => ktr_room); (case ku => ktr_units); (case kD => with_reducible assumption); (case kf => with_reducible assumption); (case ks => k_extra "the subset")); intro l9 vs9 k9 tl9 h9 tk9 F9 N9 ab9 hm9 D9; (try simp only [List.cons_append] at N9); (have le9 := rv_len D9 (by with_reducible assumption)); (try k_sweep)))
  k_with "call ref" => ((k_here; (with_reducible show wpAny _ _ (call (Value.ref 47) _) _ _ _); k_dflt (refine' ofidx_ok ?kB ?kF ?kX ?kN ?kT ?kk ?kd ?ku ?ks ?kD ?kf ?_; (case kB => k_asm); (case kF => k_asm); (case kX => k_asm); (case kN => k_asm); (case kT => k_asm); (case kk => first | exact rfl | assumption); (case kd => ktr_room); (case ku => ktr_units); (case kD => with_reducible assumption); (case kf => with_reducible assumption); (case ks => k_extra "the subset")); intro l9 vs9 k9 tl9 h9 tk9 F9 N9 ab9 hm9 D9; (try simp only [List.cons_append] at N9); (have le9 := idx_len D9 (by with_reducible assumption)); (try k_sweep)))
  k_with "call ref" => ((k_here; (with_reducible show wpAny _ _ (call (Value.ref 94) _) _ _ _); k_dflt (refine' operand_use ?kB ?kF ?kX ?kN ?kS ?kT ?kk ?kd ?ku ?kx ?ky ?_; (case kB => k_asm); (case kF => k_asm); (case kX => k_asm); (case kN => k_extra "the news"); (case kS => k_all); (case kT => k_asm); (case kk => first | exact rfl | assumption); (case kd => first | exact room_le (a := 41) (by with_reducible assumption) rfl rfl | ktr_room); (case ku => first | exact room_le (a := 403) (by with_reducible assumption) rfl rfl | ktr_units); (case kx => first | assumption | omega); (case ky => assumption)); intro p9 v9 w9 a9 k9 tl9 x9 y9 tx9 ty9 n9 h9 tk9 F9 N9 hS9 ab9 hx9 hy9 hm9 Dv9 Dw9; (obtain ⟨l9, vs9, kl9, e9, hml9, Dl9, le9⟩ := list_open Dw9); subst e9; (have lr9 := opd_rows1 p9); (try simp only [List.cons_append] at N9); (try k_sweep)))
  k_with "call ref" => ((k_here; (with_reducible show wpAny _ _ (call (Value.ref 99) _) _ _ _); k_dflt (refine' some_use ?kB ?kF ?kX ?kN ?kS ?kT ?kk ?kd ?ku ?kx ?ky ?_; (case kB => k_asm); (case kF => k_asm); (case kX => k_asm); (case kN => k_extra "the news"); (case kS => k_all); (case kT => k_asm); (case kk => first | exact rfl | assumption); (case kd => first | exact room_le (a := 51) (by with_reducible assumption) rfl rfl | ktr_room); (case ku => first | exact room_le (a := 503) (by with_reducible assumption) rfl rfl | ktr_units); (case kx => first | assumption | omega); (case ky => assumption)); intro os9 b9 c9 v9 k9 tl9 x9 y9 tx9 ty9 n9 h9 tk9 F9 N9 hS9 ab9 hx9 hy9 lo9 hm9 Dv9 Dw9; (obtain ⟨l9, vs9, kl9, e9, hml9, Dl9, le9⟩ := list_open Dw9); cases e9; (have lr9 := rows_le os9); (try simp only [List.cons_append] at N9); (try k_sweep)))
  k_with "call ref" => ((k_here; (with_reducible show wpAny _ _ (call (Value.ref 80) _) _ _ _); k_dflt (refine' one_ok (vs := [Value.str (Str.ofString "shared") _, Value.str (Str.ofString "two-phase") _]) ?kB ?kF ?kX ?kN ?kS ?kT ?kk ?kd ?ku ?kx ?ky ?kt ?kl ?_; (case kB => k_asm); (case kF => k_asm); (case kX => k_asm); (case kN => k_extra "the news"); (case kt => k_mem); (case kS => k_all); (case kT => k_asm); (case kk => first | exact rfl | assumption); (case kd => first | exact room_le (a := 21) (by with_reducible assumption) rfl rfl | ktr_room); (case ku => first | exact room_le (a := 203) (by with_reducible assumption) rfl rfl | ktr_units); (case kx => first | assumption | omega); (case ky => assumption); (case kl => exact ⟨by decide, by decide⟩)); intro i9 hi9 x9 y9 tx9 ty9 n9 h9 tk9 F9 N9 hx9 hy9; (obtain ⟨kd9, kt9, hv9, hkm9⟩ := kind_of hi9); rw [hv9]; (try k_sweep)))
  trivial
theorem name_p {tl : List (Addr × Obj)} {vs : List Value} {p : Plc} (_D : DatAll tl vs (p.locals.map Dat.int)) : ∃ q, q = p := ⟨p, rfl⟩
theorem news_nil {h₀ h : Heap} {L : Addr} {n : List (Addr × Obj)} (N : News h₀ L h n) : News h₀ L h (n ++ []) := by rw [List.append_nil]; exact N
theorem int_at {im : List (Addr × Obj)} {ns : List Int} {vs : List Value} (D : DatAll im vs (ns.map Dat.int)) {i : Nat} {v : Value} (h : vs[i]? = some v) : ∃ n t, ns[i]? = some n ∧ v = Value.int n t := by
  obtain ⟨x, hx, Dd⟩ := map_at D h
  obtain ⟨t, rfl⟩ := inv_int Dd
  exact ⟨x, t, hx, rfl⟩
theorem rv_at {im : List (Addr × Obj)} {rvs : List Rv} {vs : List Value} (D : DatAll im vs (rvs.map rvp)) {i : Nat} {v : Value} (h : vs[i]? = some v) :
    ∃ rv t vr w ws kt kw, rv ∈ rvs ∧ v = Value.ref t ∧ (t, tupOf [vr, Value.ref w].toArray kt) ∈ im ∧ DatIn im vr rv.dat ∧ (w, (listOf ws.toArray kw : Obj)) ∈ im ∧ DatAll im ws rv.rows := by
  obtain ⟨x, hx, Dd⟩ := map_at D h
  obtain ⟨t, vr, w, ws, kt, kw, p⟩ := pair_open Dd
  exact ⟨x, t, vr, w, ws, kt, kw, List.mem_of_getElem? hx, p⟩
theorem gen_end {h₀ h' : Heap} {L I C D : Addr} {m : Str → Option Value} {s₁ : Shared} {oI oC oD : Obj} {Sp : List (Addr × Obj) → Prop} {rest : Value → List (Addr × Obj) → Prop} {y : Value} {news tl add all : List (Addr × Obj)} {tk : Nat}
    (F : Fr h₀ L h' m) (N : News h₀ L h' all) (Cu : Cut ((I, oI) :: (C, oC) :: (D, oD) :: (news ++ tl)) add all) (off : LCg.Off3 I C D (news ++ tl)) (aw : Abw ((I, oI) :: (C, oC) :: (D, oD) :: (news ++ tl)) add)
    (hab : Abw news tl) (hSp : Sp (news ++ (tl ++ add))) (hr : Abw news (tl ++ add) → rest y (news ++ (tl ++ add))) :
    LCg.CompEnd h₀ L m s₁ I oI C oC D oD Sp rest y { s₁ with heap := h', toks := tk } := by
  refine LCg.CompEnd.intro F N (news ++ (tl ++ add)) ?_ (.of ?_) hSp (hr (hab.app (aw.mono fun p hp => .tail _ (.tail _ (.tail _ (List.mem_append_left _ hp))))))
  · intro p hp
    refine Cu.sub p ?_
    simp only [List.mem_cons, List.mem_append] at hp ⊢
    rcases hp with hp | hp | hp | hp | hp | hp <;> simp only [hp, true_or, or_true]
  · intro p hp
    rw [← List.append_assoc] at hp
    rcases List.mem_append.mp hp with hp | hp
    · exact off.mem p hp
    · exact ⟨aw p hp _ (.head _), aw p hp _ (.tail _ (.head _)), aw p hp _ (.tail _ (.tail _ (.head _)))⟩
def NxJ (news : List (Addr × Obj)) (ns : List Int) (i : Nat) (ys : List Value) (nx : List (Addr × Obj)) : Prop := ∃ tl, nx = news ++ tl ∧ Abw news tl ∧ DatAll tl ys ((ns.take i).map irow)
def AsJ (S : Addr) (imm : List (Addr × Obj)) (_i : Nat) (m : Str → Option Value) (nx : List (Addr × Obj)) : Prop :=
  ∃ (x y : Int) (tx ty n : Nat), nx = (S, listOf #[.int x tx, .int y ty] n) :: imm ∧ 0 ≤ x ∧ (0 ≤ y ∧ y < 2147483647) ∧ m (Str.ofString "source") = some (.ref S)
theorem locals_le {p : Plc} (h : p.steps.length ≤ 10) : p.locals.length ≤ 10 := by
  have : ∀ l : List Stp, (locs l).length ≤ l.length := fun l => by
    induction l with
    | nil => exact Nat.le_refl _
    | cons s l ih =>
      have e : locs (s :: l) = s.loc ++ locs l := by simp [locs]
      rw [e, List.length_append, List.length_cons]
      have : s.loc.length ≤ 1 := by cases s <;> simp [Stp.loc]
      omega
  exact Nat.le_trans (this _) h
theorem as_end {h₀ h' : Heap} {L S t : Addr} {vs : List Value} {k i tk n : Nat} {m : Str → Option Value} {imm own all : List (Addr × Obj)} {o : Obj} {x y : Int} {tx ty : Nat} {s₁ : Shared} (F : Fr h₀ L h' m) (N : News h₀ L h' all)
    (hs : (S, (listOf #[.int x tx, .int y ty] n : Obj)) ∈ all) (hi : ∀ p ∈ imm ++ own, p ∈ all) (hoff : TbOff own ((S, o) :: imm)) (hm : (t, (listOf vs.toArray k : Obj)) ∈ imm) (e1 : m (Str.ofString "source") = some (.ref S)) (hx : 0 ≤ x) (hy : 0 ≤ y ∧ y < 2147483647) :
    LpEnd h₀ L (fun m' nx => (t, (listOf vs.toArray k : Obj)) ∈ nx ∧ AsJ S imm (i + 1) m' nx) own s₁ .next { s₁ with heap := h', toks := tk } := by
  refine ⟨rfl, h', tk, m, all, (S, listOf #[.int x tx, .int y ty] n) :: imm, rfl, F, N, ?_, fun p hp => hi p (List.mem_append_right _ hp), ?_, .tail _ hm, x, y, tx, ty, n, rfl, hx, hy, e1⟩
  · intro p hp
    rcases List.mem_cons.mp hp with rfl | hp
    · exact hs
    · exact hi p (List.mem_append_left _ hp)
  · intro p hp q hq
    rcases List.mem_cons.mp hq with rfl | hq
    · exact hoff p hp (S, o) (.head _)
    · exact hoff p hp q (.tail _ hq)
section
theorem w21 : True := by
  k_with "call ref" => ((k_here; (with_reducible show wpAny _ _ (call (Value.ref 87) _) _ _ _); k_dflt (refine' place_use ?kB ?kF ?kX ?kN ?kS ?kT ?kk ?kd ?ku ?kx ?ky ?_; (case kB => k_asm); (case kF => k_asm); (case kX => k_asm); (case kN => k_extra "the news"); (case kS => k_all); (case kT => k_asm); (case kk => first | exact rfl | assumption); (case kd => first | exact room_le (a := 31) (by with_reducible assumption) rfl rfl | ktr_room); (case ku => first | exact room_le (a := 303) (by with_reducible assumption) rfl rfl | ktr_units); (case kx => first | assumption | omega); (case ky => assumption)); intro p9 v9 w9 a9 k9 tl9 x9 y9 tx9 ty9 n9 h9 tk9 F9 N9 hS9 ab9 hx9 hy9 hlp9 hm9 Dv9 Dw9; (obtain ⟨l9, vs9, kl9, e9, hml9, Dl9, le9⟩ := list_open Dw9); subst e9; (try simp only [List.cons_append] at N9); (try k_sweep)))
  k_with "call ref" => ((k_here; (with_reducible show wpAny _ _ (call (Value.ref 54) _) _ _ _); k_dflt (refine' ofst_assign ?kB ?kF ?kX ?kN ?kT ?kk ?kd ?ku ?ks ?kt ?kD ?kE ?kf ?kl ?_; (case kB => k_asm); (case kF => k_asm); (case kX => k_asm); (case kN => k_asm); (case kT => k_asm); (case kk => first | exact rfl | assumption); (case kd => ktr_room); (case ku => ktr_units); (case kt => k_mem); (case ks => exact sub_refl); (case kD => k_extra "datin"); (case kE => k_extra "datin"); (case kf => with_reducible assumption); (case kl => with_reducible assumption)); intro l9 vs9 k9 tl9 h9 tk9 F9 N9 ab9 hm9 D9; (try simp only [List.cons_append] at N9); (try k_sweep)))
  k_with "compareOp NotEq ref ref" => ((k_here; (with_reducible show wpAny _ _ (compareOp CmpOp.NotEq (Value.ref _) (Value.ref _)) _ _ _); k_dflt (refine' ne_same ?N ?a ?Da ?sa ?b ?Db ?ok ?u ?_; (case N => k_asm); (case a => k_extra "mem"); (case Da => with_reducible assumption); (case sa => k_extra "the subset"); (case b => k_extra "mem"); (case Db => k_extra "datall"); (case ok => k_extra "oks"); (case u => ktr_units))))
  k_with "oks" => (first | with_reducible exact rvr_ok _ | with_reducible exact irow_ok _ | with_reducible exact opdr_ok _ | with_reducible exact opdsr_ok _ | exact (fun _ => one_ok' (row_ok (plc_ok _ 4) (by decide +kernel) (by decide +kernel) (by decide +kernel))) | ((with_reducible refine app_ok ?_ ?_); (k_extra "oks"); (k_extra "oks")) | fail "oks")
  k_with "eval ListComp" => ((k_here; (with_reducible show wpAny _ _ (eval (PySem.Expr.ListComp _ [_] _ _) _) _ _ _); k_dflt (refine LCg.ListComp_U (F₀ := by k_asm) (by rfl) (by decide) (by rfl) (by decide) (by rfl) ?_)))
  k_with "CompSrc" => ((refine Held.mk ?_))
  k_with "CompEnd" => ((refine Held.mk ?_))
  k_with "LpEnd" => ((refine Held.mk ?_))
  k_with "pyIter ref" => ((refine Held.mk ?_))
  k_with "exec For Tuple Name cons nil" => ((k_here; (rename Fr _ _ _ _ => lF'); (with_unfolding_all refine' For_invTF lF' ?_ ?k2; (case k2 => intro _; rfl))))
  trivial
set_option maxRecDepth 100000 in
set_option maxHeartbeats 4000000 in
theorem asg_ok {prog : Program} {w : World} {mean : ExcName → Option Value} {mg mb : Str → Option Value} {dp un : Nat} {gd : Option (List Code)} {cn : Str} {cs : Scope} {a : Addr} {ccd : Value} {cl : List (Str × Addr)} {outer : List Env} {A₀ : Around} {base h₀ : Heap} {L S t : Addr} {m : Str → Option Value} {imm : List (Addr × Obj)} {s : Shared}
   {x y : Int} {tx ty n k : Nat} {vs : List Value} {rvs : List Rv} {Q E : Value → Shared → Prop}
   (B : Below A₀ base outer h₀) (F : Fr h₀ L s.heap m) (X : (hd.heap_39 w.params).In h₀) (N : News h₀ L s.heap ((S, listOf #[.int x tx, .int y ty] n) :: imm)) (hS : ∀ p ∈ imm, p.1 ≠ S) (T : Top view (looseW view []) mean mg mb h₀) (hk : cs.kind = .function)
   (hd : dp + 150 < recursionLimit) (hu : un + 1500 < cLine) (hx : 0 ≤ x) (hy : 0 ≤ y ∧ y < 2147483647)
   (hm : (t, (listOf vs.toArray k : Obj)) ∈ imm) (D : DatAll imm vs (rvs.map rvp)) (hfew : ∀ rv ∈ rvs, rv.few)
   (ret : ∀ x' y' tx' ty' n' h' tk', Fr h₀ L h' m → News h₀ L h' ((S, listOf #[.int x' tx', .int y' ty'] n') :: imm) → 0 ≤ x' → (0 ≤ y' ∧ y' < 2147483647) → Q (.bool true) { s with heap := h', toks := tk' }) :
   wpAny (model prog w) (ktrTop dp un gd cn cs L a ccd cl outer) (call (.ref 111) [.ref S, .ref t]) Q E s := by
  refine wpAny_call ?_
  k_dflt ktr_enter
  k_steps
  refine Held.out ?_
  (rename Fr _ _ _ _ => F1)
  (rename News _ _ _ _ => N1)
  refine pair_iter (AsJ S imm) rfl (by k_mem) F1 N1 ⟨x, y, tx, ty, n, rfl, hx, hy, by exact rfl⟩ ?_ ?_
  · clear F1 N1
    rintro i v m₁ nx s₁ own hv hoff hmn ⟨x, y, tx, ty, n, rfl, hx, hy, e1⟩ F2 N2
    rw [map2' e1] at F2
    simp only [List.cons_append] at N2
    obtain ⟨rv, t1, vr, w1, ws, kt, kw, hrv, rfl, hmt, Dr, hmw, Dw⟩ := rv_at D hv
    have hfw := hfew rv hrv
    have hrl := rv_len Dw hfw
    have hS2 : ∀ p ∈ imm ++ own, p.1 ≠ S := ne_app hS fun p hp => hoff p hp _ (.head _)
    k_steps
    refine Held.out ?_
    (rename Fr _ _ _ _ => F3)
    (rename News _ _ _ _ => N3)
    (rename DatAll _ _ (List.map Dat.int _) => Dl3)
    obtain ⟨p3, hp3⟩ := name_p Dl3
    subst hp3
    have hll := locals_le (by with_reducible assumption)
    have hvl3 := Dl3.length
    rw [List.length_map] at hvl3
    have N3' := news_nil N3
    refine LCg.CompSrc.ledger rfl F3 N3' (List.mem_append_left _ (by k_extra "mem")) (by rw [sizeLine_eq, List.size_toArray]; omega) ?_
    clear F3 N3 N3'
    intro g
    refine restU (NxJ _ p3.locals) _ ?_ ?_ _ 0 [] _ (Nat.zero_add _) ⟨[], rfl, Abw.nil, .nil⟩
    · rintro ys nx ⟨tl, rfl, hab, hD⟩
      intro D h tk F4 N4 off
      have o1 := off1_mem off
      simp only [List.cons_append] at N4 hab
      rw [List.take_of_length_le (by simp only [List.size_toArray]; omega)] at hD
      have hyl := hD.length
      rw [List.length_map] at hyl
      k_steps
      (rename Fr _ _ _ _ => F5)
      (rename News _ _ _ _ => N5)
      exact Held.out (as_end F5 N5 (by k_extra "mem") (by k_extra "the subset") hoff hm (by exact rfl) (by assumption) (by assumption))
    · rintro k i ys nx hik ⟨tl, rfl, hab, hD⟩ IH
      refine LCg.CompRest.succ ?_
      intro v I oI C oC D m₂ h tk E' hv hC hx1 F4 N4 off ne
      obtain ⟨n3, t3, hn3, rfl⟩ := int_at Dl3 (by simpa using hv)
      have hloc : (p3.locals.take (i + 1)).map irow = (p3.locals.take i).map irow ++ [irow n3] := by rw [take_snoc1 hn3, List.map_append]; rfl
      k_steps
      (rename Fr _ _ _ _ => F5)
      (rename News _ _ _ _ => N5)
      exact Held.out (gen_end F5 N5 (by k_extra "the cut") off (by k_extra "all off") hab (.inr ⟨_, List.mem_append_left _ (by k_extra "mem"), rfl, _, rfl⟩) (fun hab2 => IH _ _ ⟨_, rfl, hab2, (by rw [hloc]; exact (hD.mono fun p hp => List.mem_append_left _ hp).append (by k_extra "datall"))⟩))
  · clear F1 N1
    rintro m₁ nx h tk ⟨x, y, tx, ty, n, rfl, hx, hy, e1⟩ F2 N2
    rw [map2' e1] at F2
    k_steps
    exact ret _ _ _ _ _ _ _ (by k_asm) (by k_asm) hx hy
end
end
-- End
section
local macro_rules | `(tactic| k_lt $h:ident) => `(tactic| ((have raw9 := $h); clear $h))
inductive Tm where
  | switch (o : Opd)
  | assert (o : Opd)
  | call (os : List Opd) (p : Plc) (d : Dat)
  | drop (p : Plc)
  | ret
  | goto
  | panic
  | unr
def Tm.dat : Tm → Dat
  | .switch o => .tuple [.str (Str.ofString "switch"), o.dat, .tuple [.tuple [.int 0, .int 1]], .int 2]
  | .assert o => .tuple [.str (Str.ofString "assert"), o.dat, .bool true, .str (Str.ofString "text"), .int 1]
  | .call os p d => .tuple [.str (Str.ofString "call"), .tuple [.str (Str.ofString "fn"), .str (Str.ofString "f"), .tuple []], .tuple (os.map Opd.dat), p.dat, d]
  | .drop p => .tuple [.str (Str.ofString "drop"), p.dat, .int 1]
  | .ret => .tuple [.str (Str.ofString "return")]
  | .goto => .tuple [.str (Str.ofString "goto"), .int 1]
  | .panic => .tuple [.str (Str.ofString "panic"), .str (Str.ofString "text")]
  | .unr => .tuple [.str (Str.ofString "unreachable")]
def Tm.rows (n : Nat) : Tm → List Dat
  | .switch o => o.rows
  | .assert o => o.rows
  | .call os p _ => os.flatMap Opd.rows ++ [row p.dat (Str.ofString "shallow") (Str.ofString "write") (Str.ofString "assign")]
  | .drop p => [row p.dat (Str.ofString "drop") (Str.ofString "write") (Str.ofString "drop")]
  | .ret => retrows n
  | _ => []
def Tm.few : Tm → Prop
  | .call os _ _ => os.length ≤ 10
  | _ => True
def tmp (n : Nat) (tm : Tm) : Dat := .tuple [tm.dat, .list (tm.rows n)]
def RtJ2 (news : List (Addr × Obj)) (i : Nat) (ys : List Value) (nx : List (Addr × Obj)) : Prop := ∃ tl, nx = news ++ tl ∧ Abw news tl ∧ DatAll tl ys (retrows (i - 1))
theorem w22 : True := by
  k_with_none
  k_with "all" => (assumption)
  k_with "mem0" => (assumption)
  k_with "mem" => (first | with_reducible exact List.mem_cons_self | ((with_reducible refine List.mem_cons_of_mem _ ?_); k_extra "mem") | with_reducible assumption | ((with_reducible refine List.mem_append_left _ ?_); k_extra "mem") | ((with_reducible refine List.mem_append_right _ ?_); k_extra "mem") | ((refine mem_up (by with_reducible assumption) ?_); k_extra "mem") | fail "no member")
  k_with "sub0" => (first | with_reducible exact sub_refl | with_reducible exact sub_nil | ((with_reducible refine sub_app ?_ ?_); (k_extra "sub0"); (k_extra "sub0")) | ((with_reducible refine sub_consS ?_ ?_); (k_extra "mem"); (k_extra "sub0")) | ((with_reducible refine sub_cons ?_); (k_extra "sub0")) | ((with_reducible refine sub_appR ?_); with_reducible exact sub_refl) | ((with_reducible refine sub_appL ?_); (k_extra "sub0")) | ((with_reducible refine sub_appR ?_); (k_extra "sub0")) | fail "no subset")
  k_with "datin" => (first | with_reducible exact DatIn.none | with_reducible exact DatIn.int _ _ | with_reducible exact DatIn.bool _ | with_reducible exact DatIn.str _ _ | ((with_reducible refine' DatIn.mono ?s9 ?d9); (case d9 => with_reducible assumption); (case s9 => k_extra "the subset")) | (refine' DatIn.tuple ?m9 ?r9; (case m9 => k_extra "mem"); (case r9 => k_extra "datall")) | (refine' DatIn.list ?m9 ?r9; (case m9 => k_extra "mem"); (case r9 => k_extra "datall")) | exact DatIn.int _ _ | exact DatIn.str _ _ | fail "no datum")
  k_with "datall" => (first | with_reducible exact DatAll.nil | ((with_reducible refine' DatAll.mono ?s9 ?d9); (case d9 => with_reducible assumption); (case s9 => k_extra "the subset")) | ((with_reducible refine DatAll.append ?_ ?_); (k_extra "datall"); (k_extra "datall")) | (refine' DatAll.cons ?_ ?_; (k_extra "datin"); (k_extra "datall")) | exact DatAll.nil | fail "no data")
  k_with "the pick" => (first | exact Pick.here | ((with_reducible refine' Pick.skip ?p8); (case p8 => k_extra "the pick")) | fail "no pick")
  k_with "the news" => (first | k_asm | (refine' news_pick ?n9 ?p9; (case n9 => k_asm); (case p9 => k_extra "the pick")) | fail "no news")
  k_with "call ref" => ((k_here; (with_reducible show wpAny _ _ (call (Value.ref 73) _) _ _ _); k_dflt (refine' take_ok ?kB ?kF ?kX ?kN ?kS ?kT ?kk ?kd ?ku ?kx ?ky ?kt ?_; (case kB => k_asm); (case kF => k_asm); (case kX => k_asm); (case kN => k_extra "the news"); (case kS => k_all); (case kT => k_asm); (case kk => first | exact rfl | assumption); (case kd => ktr_room); (case ku => ktr_units); (case kx => first | assumption | omega); (case ky => assumption); (case kt => first | assumption | decide | omega)); intro r9 tr9 x9 y9 tx9 ty9 n9 h9 tk9 F9 N9 rlo9 rhi9 hx9 hy9; (try k_sweep)))
  k_with "call ref" => ((k_here; (with_reducible show wpAny _ _ (call (Value.ref 80) _) _ _ _); k_dflt (refine' one_ok ?kB ?kF ?kX ?kN ?kS ?kT ?kk ?kd ?ku ?kx ?ky ?kt ?kl ?_; (case kB => k_asm); (case kF => k_asm); (case kX => k_asm); (case kN => k_extra "the news"); (case kS => k_all); (case kT => k_asm); (case kk => first | exact rfl | assumption); (case kd => first | exact room_le (a := 21) (by with_reducible assumption) rfl rfl | ktr_room); (case ku => first | exact room_le (a := 203) (by with_reducible assumption) rfl rfl | ktr_units); (case kx => first | assumption | omega); (case ky => assumption); (case kt => k_extra "mem"); (case kl => first | assumption | exact ⟨by decide, by decide⟩ | exact ⟨Nat.lt_of_sub_eq_succ rfl, Nat.le_of_ble_eq_true rfl⟩)); intro i9 hi9 x9 y9 tx9 ty9 n9 h9 tk9 F9 N9 hx9 hy9; (try k_sweep); (first | (rcases four hi9 with e9 | e9 | e9 | e9 <;> (subst e9; (try dsimp only [List.getElem_cons_zero, List.getElem_cons_succ]))) | (rcases three hi9 with e9 | e9 | e9 <;> (subst e9; (try dsimp only [List.getElem_cons_zero, List.getElem_cons_succ]))) | (rcases two hi9 with e9 | e9 <;> (subst e9; (try dsimp only [List.getElem_cons_zero, List.getElem_cons_succ]))))))
  k_with "the subset" => (first | (k_extra "sub0") | ((refine sub_trans (by with_reducible assumption) ?_); (k_extra "sub0")) | fail "no subset")
  k_with "binaryOp Add ref ref" => ((k_here; (with_reducible show wpAny _ _ (binaryOp _ (Value.ref _) (Value.ref _)) _ _ _); k_dflt (refine' add_dl ?k1 ?k2 ?k3 ?k4 ?k5 ?_; (case k1 => k_asm); (case k2 => k_asm); (case k3 => k_extra "mem"); (case k4 => k_extra "mem"); (case k5 => k_extra "the sizes"); k_whole); intro D' h' F' N' l1; (try k_lt l1); (try k_sweep)))
  k_with "binaryOp Add ref ref" => ((k_here; (with_reducible show wpAny _ _ (binaryOp _ (Value.ref _) (Value.ref _)) _ _ _); k_dflt (refine' add_dt ?k1 ?k2 ?k3 ?k4 ?k5 ?k6 ?_ ?_; (case k1 => k_asm); (case k2 => k_asm); (case k3 => k_extra "mem"); (case k4 => k_extra "mem"); (case k5 => k_extra "the sizes"); (case k6 => exact List.cons_ne_nil _ _)); (all_goals k_whole); (iterate 1 (intro nl9)); rotate_left; (intro nl9 D' h' F' N' l1; (try k_lt l1); (try k_sweep))))
  k_with "the sizes" => (((try simp only [List.length_cons, List.length_nil]); first | omega | (simp only [List.length_append, List.length_cons, List.length_nil]; omega)))
  k_with "TbPost" => ((refine Held.mk ?_))
  k_with "mem0" => (first | ((with_reducible refine List.mem_append_left _ ?_); k_mem) | ((with_reducible refine List.mem_append_right _ ?_); k_mem) | ((with_reducible refine memL ?_); k_mem) | ((with_reducible refine memR ?_); k_mem))
  k_with "mem0" => (assumption)
  k_with "above" => (first | (refine' Abv1.ofNe ?a1 ?a2 ?a3; (case a1 => with_reducible assumption); (case a2 => k_extra "mem"); (case a3 => k_extra "the subset")) | (refine' Abv1.of ?a1 ?a2 ?a3; (case a1 => with_reducible assumption); (case a2 => k_extra "mem"); (case a3 => k_extra "the subset")) | fail "not above")
  k_with "the cut" => (first | exact Cut.here | ((with_reducible refine' Cut.cons ?c8); (case c8 => k_extra "the cut")) | ((with_reducible refine' Cut.app ?c8); (case c8 => k_extra "the cut")) | fail "no cut")
  k_with "all above" => (first |  exact Abv.nil | with_reducible assumption | ((with_reducible refine Abv.cons1 ?_ ?_); (k_extra "above"); (k_extra "all above")) | ((with_reducible refine Abv.app ?_ ?_); (k_extra "all above"); (k_extra "all above")) | ((with_reducible refine' Abv.mono ?a9 ?b9); (case a9 => with_reducible assumption); (case b9 => k_extra "the subset")) | ((with_reducible refine' Abv.ofW ?a9 ?b9 ?c9); (case a9 => with_reducible assumption); (case b9 => k_extra "mem"); (case c9 => k_extra "the subset")) | fail "not all above")
  k_with "kin" => (first | ((with_reducible refine' DatIn.mono ?s9 ?d9); (case d9 => with_reducible assumption); (case s9 => k_extra "the subset")) | fail "no datum")
  k_with "kall" => (first | ((with_reducible refine' DatAll.mono ?s9 ?d9); (case d9 => with_reducible assumption); (case s9 => k_extra "the subset")) | ((with_reducible refine DatAll.append ?_ ?_); (kqd_all); (kqd_all)) | fail "no data")
  k_with "all off" => (first | exact Abw.nil | with_reducible assumption | ((with_reducible refine' Abw.cons ?a9 ?b9 ?c9); (case a9 => with_reducible assumption); (case b9 => k_extra "the subset"); (case c9 => k_extra "all off")) | ((with_reducible refine' Abw.consNe ?a9 ?b9 ?c9); (case a9 => with_reducible assumption); (case b9 => k_extra "the subset"); (case c9 => k_extra "all off")) | ((with_reducible refine Abw.app ?_ ?_); (k_extra "all off"); (k_extra "all off")) | ((with_reducible refine' Abw.mono ?a9 ?b9); (case a9 => with_reducible assumption); (case b9 => k_extra "the subset")) | fail "not all off")
  k_with "all" => ((fail_if_success (with_reducible refine List.forall_mem_cons.mpr ⟨?_, ?_⟩)); first | ((with_reducible refine ne_app ?_ ?_); (k_all); (k_all)) | ((with_reducible refine' Abw.ne ?a9 ?b9); (case a9 => with_reducible assumption); (case b9 => k_extra "mem")) | ((with_reducible refine Abv.ne ?_); with_reducible assumption) | fail "k_all: none")
  k_with "all" => (with_reducible assumption)
  k_with "nesi" => (first | with_reducible exact nes_base (by with_reducible assumption) (by with_reducible assumption) | ((with_reducible refine nes_step (by with_reducible assumption) ?_); k_extra "nesi") | fail "nesi")
  k_with "all" => (((with_reducible refine nes_end ?_); k_extra "nesi"))
  k_with "call ref" => ((k_here; (with_reducible show wpAny _ _ (call (Value.ref 87) _) _ _ _); k_dflt (refine' place_use ?kB ?kF ?kX ?kN ?kS ?kT ?kk ?kd ?ku ?kx ?ky ?_; (case kB => k_asm); (case kF => k_asm); (case kX => k_asm); (case kN => k_extra "the news"); (case kS => k_all); (case kT => k_asm); (case kk => first | exact rfl | assumption); (case kd => first | exact room_le (a := 31) (by with_reducible assumption) rfl rfl | ktr_room); (case ku => first | exact room_le (a := 303) (by with_reducible assumption) rfl rfl | ktr_units); (case kx => first | assumption | omega); (case ky => assumption)); intro p9 v9 w9 a9 k9 tl9 x9 y9 tx9 ty9 n9 h9 tk9 F9 N9 hS9 ab9 hx9 hy9 hlp9 hm9 Dv9 Dw9; (try k_sweep)))
  k_with "subscriptTail Call Name cons nil Constant ref int" => ((k_here; k_dflt (refine' sub_tup ?k1 ?k2 ?k3 ?k7 ?k4 ?k5 ?_ ?k6; (case k1 => k_asm); (case k2 => k_extra "mem"); (case k3 => decide); (case k7 => first | decide | exact (by simp only [List.length_cons, List.length_nil]; omega)); (case k4 => decide); (case k5 => exact rfl); (case k6 => with_unfolding_all rfl); k_whole)))
  k_with "subscriptTail Name Constant ref int" => ((k_here; k_dflt (refine' sub_tup ?k1 ?k2 ?k3 ?k7 ?k4 ?k5 ?_ ?k6; (case k1 => k_asm); (case k2 => k_extra "mem"); (case k3 => decide); (case k7 => first | decide | exact (by simp only [List.length_cons, List.length_nil]; omega)); (case k4 => decide); (case k5 => exact rfl); (case k6 => with_unfolding_all rfl); k_whole)))
  k_with "subc" => (first | with_reducible exact sub_refl | ((with_reducible refine sub_cons ?_); k_extra "subc") | ((with_reducible refine sub_up (by with_reducible assumption) ?_); k_extra "subc") | fail "no chain")
  k_with "the subset" => (first | (k_extra "subc") | (k_extra "sub0") | fail "no subset")
  k_with "sm" => (first | with_reducible assumption | exact Sm.step (by with_reducible assumption) | exact Sm.step (Sm.step (by with_reducible assumption)) | fail "no sm")
  k_with "mem0" => (k_extra "mem")
  k_with "subscriptTail Call Name cons nil Constant ref int" => ((k_here; k_dflt (refine' sub_tup ?k1 ?k2 ?k3 ?k7 ?k4 ?k5 ?_ ?k6; (case k1 => k_asm); (case k2 => k_extra "mem"); (case k3 => decide); (case k7 => first | decide | exact (by simp only [List.length_cons, List.length_nil]; omega)); (case k4 => decide); (case k5 => exact rfl); (case k6 => with_unfolding_all rfl); k_whole)))
  k_with "nesi" => (first | with_reducible exact nes_base (by with_reducible assumption) (by with_reducible assumption) | ((with_reducible refine nes_step (by with_reducible assumption) ?_); k_extra "nesi") | fail "nesi")
  k_with "nes" => (first | with_reducible assumption | exact List.forall_mem_nil _ | ((with_reducible refine nes_end ?_); k_extra "nesi") | fail "nes")
  k_with "call ref" => ((k_here; (with_reducible show wpAny _ _ (call (Value.ref 94) _) _ _ _); k_dflt (refine' operand_q ?kB ?kF ?kX ?kN ?kS ?kT ?kk ?kd ?ku ?kx ?ky ?kb ?_; (case kB => k_asm); (case kF => k_asm); (case kX => k_asm); (case kN => k_extra "the news"); (case kS => k_extra "nes"); (case kT => k_asm); (case kk => first | exact rfl | assumption); (case kd => ktr_room); (case ku => ktr_units); (case kx => first | assumption | omega); (case ky => assumption); (case kb => k_extra "sm")); intro p9 v9 l9 vs9 kl9 a9 k9 im9 x9 y9 tx9 ty9 n9 s9 sm9 F9 N9 up9 hS9 hx9 hy9 hm9 Dv9 hml9 Dl9 le9; (try k_sweep)))
  k_with "call ref" => ((k_here; (with_reducible show wpAny _ _ (call (Value.ref 99) _) _ _ _); k_dflt (refine' some_q ?kB ?kF ?kX ?kN ?kS ?kT ?kk ?kd ?ku ?kx ?ky ?kb ?_; (case kB => k_asm); (case kF => k_asm); (case kX => k_asm); (case kN => k_extra "the news"); (case kS => k_extra "nes"); (case kT => k_asm); (case kk => first | exact rfl | assumption); (case kd => first | exact room_le (a := 51) (by with_reducible assumption) rfl rfl | ktr_room); (case ku => first | exact room_le (a := 503) (by with_reducible assumption) rfl rfl | ktr_units); (case kx => first | assumption | omega); (case ky => assumption); (case kb => k_extra "sm")); intro os9 b9 l9 vs9 kl9 v9 k9 im9 x9 y9 tx9 ty9 n9 s9 sm9 F9 N9 up9 hS9 hx9 hy9 lo9 hm9 Dv9 hml9 Dl9 le9; (try k_sweep)))
  k_with "call ref" => ((k_here; (with_reducible show wpAny _ _ (call (Value.ref 87) _) _ _ _); k_dflt (refine' place_q ?kB ?kF ?kX ?kN ?kS ?kT ?kk ?kd ?ku ?kx ?ky ?kb ?_; (case kB => k_asm); (case kF => k_asm); (case kX => k_asm); (case kN => k_extra "the news"); (case kS => k_extra "nes"); (case kT => k_asm); (case kk => first | exact rfl | assumption); (case kd => first | exact room_le (a := 31) (by with_reducible assumption) rfl rfl | ktr_room); (case ku => first | exact room_le (a := 303) (by with_reducible assumption) rfl rfl | ktr_units); (case kx => first | assumption | omega); (case ky => assumption); (case kb => k_extra "sm")); intro p9 v9 l9 vs9 kl9 a9 k9 im9 x9 y9 tx9 ty9 n9 s9 sm9 F9 N9 up9 hS9 hx9 hy9 hlp9 hm9 Dv9 hml9 Dl9; (try k_sweep)))
  trivial
theorem nil_one {b i : Nat} (h : i < [Value.none, Value.int 1 b].length) : ∃ v d, [Value.none, Value.int 1 b][i] = v ∧ DatIn [] v d := by
  rcases two h with rfl | rfl
  · exact ⟨_, _, rfl, .none⟩
  · exact ⟨_, _, rfl, .int _ _⟩
theorem seal0 {h₀ h : Heap} {L S : Addr} {o : Obj} {rest : List (Addr × Obj)} (N : News h₀ L h ((S, o) :: rest)) (hS : ∀ p ∈ rest, p.1 ≠ S) : ∃ im, (∀ p ∈ rest, p ∈ im) ∧ (∀ p ∈ im, p.1 ≠ S) ∧ News h₀ L h ((S, o) :: im) := ⟨rest, fun _ h => h, hS, N⟩
theorem seal1 {h₀ h : Heap} {L S D : Addr} {o d : Obj} {im tl : List (Addr × Obj)} (N : News h₀ L h ((D, d) :: (S, o) :: (im ++ tl))) (hD : S ≠ D) (hS : ∀ p ∈ im, p.1 ≠ S) (hab : Abw ((S, o) :: im) tl) :
    ∃ im', (∀ p ∈ im, p ∈ im') ∧ (∀ p ∈ tl, p ∈ im') ∧ (D, d) ∈ im' ∧ (∀ p ∈ im', p.1 ≠ S) ∧ News h₀ L h ((S, o) :: im') := by
  refine ⟨(D, d) :: (im ++ tl), fun p hp => .tail _ (List.mem_append_left _ hp), fun p hp => .tail _ (List.mem_append_right _ hp), .head _, ?_, ?_⟩
  · intro p hp
    rcases List.mem_cons.mp hp with rfl | hp
    · exact fun e => hD e.symm
    · exact (List.mem_append.mp hp).elim (hS p) fun hp => hab p hp _ (.head _)
  · intro p hp
    rcases List.mem_cons.mp hp with rfl | hp
    · exact N _ (.tail _ (.head _))
    · rcases List.mem_cons.mp hp with rfl | hp
      · exact N _ (.head _)
      · exact N _ (.tail _ (.tail _ hp))
section
theorem w23 : True := by
  k_with "call ref" => ((k_here; (with_reducible show wpAny _ _ (call (Value.ref 80) _) _ _ _); k_dflt (refine' one_q (vs := [Value.none, Value.int 1 _]) ?kB ?kF ?kX ?kN ?kS ?kT ?kk ?kd ?ku ?kx ?ky ?kt ?kl ?kb ?_; (case kB => k_asm); (case kF => k_asm); (case kX => k_asm); (case kN => k_extra "the news"); (case kS => k_extra "nes"); (case kT => k_asm); (case kk => first | exact rfl | assumption); (case kd => first | exact room_le (a := 21) (by with_reducible assumption) rfl rfl | ktr_room); (case ku => first | exact room_le (a := 203) (by with_reducible assumption) rfl rfl | ktr_units); (case kx => first | assumption | omega); (case ky => assumption); (case kt => first | exact List.mem_cons_self | k_mem); (case kl => exact ⟨Nat.lt_of_sub_eq_succ rfl, Nat.le_of_ble_eq_true rfl⟩); (case kb => k_extra "sm")); intro i9 hi9 im9 x9 y9 tx9 ty9 n9 s9 sm9 F9 N9 up9 hS9 hx9 hy9; (obtain ⟨kv9, dv9, hv9, Dn9⟩ := nil_one hi9); rw [hv9]; (try k_sweep)))
  k_with "eval ListComp" => ((k_here; (with_reducible show wpAny _ _ (eval (PySem.Expr.ListComp _ [_] _ _) _) _ _ _); k_dflt (refine LCt.ListComp_T (F₀ := by k_asm) (by with_unfolding_all rfl) (by decide) (by rfl) (by decide) (by rfl) ?_)))
  k_with "CompSrcT" => ((refine Held.mk ?_))
  k_with "CompEnd" => ((refine Held.mk ?_))
  trivial
set_option maxRecDepth 100000 in
set_option maxHeartbeats 4000000 in
theorem ends_ok {prog : Program} {w : World} {mean : ExcName → Option Value} {mg mb : Str → Option Value} {dp un : Nat} {gd : Option (List Code)} {cn : Str} {cs : Scope} {a : Addr} {ccd : Value} {cl : List (Str × Addr)} {outer : List Env} {A₀ : Around} {base h₀ : Heap} {L S : Addr} {m : Str → Option Value} {imm : List (Addr × Obj)} {s : Shared}
   {x y : Int} {tx ty n nm tm : Nat} {Q E : Value → Shared → Prop}
   (B : Below A₀ base outer h₀) (F : Fr h₀ L s.heap m) (X : (hd.heap_39 w.params).In h₀) (N : News h₀ L s.heap ((S, listOf #[.int x tx, .int y ty] n) :: imm)) (hS : ∀ p ∈ imm, p.1 ≠ S) (T : Top view (looseW view []) mean mg mb h₀) (hk : cs.kind = .function)
   (hd : dp + 70 < recursionLimit) (hu : un + 700 < cLine) (hx : 0 ≤ x) (hy : 0 ≤ y ∧ y < 2147483647)
   (hnm : nm ≤ 10)
   (ret : ∀ (tms : List Tm) l vs k imm' x' y' tx' ty' n' h' tk', Fr h₀ L h' m → News h₀ L h' ((S, listOf #[.int x' tx', .int y' ty'] n') :: imm') → 0 ≤ x' → (0 ≤ y' ∧ y' < 2147483647) →
     (l, (listOf vs.toArray k : Obj)) ∈ imm' → DatAll imm' vs (tms.map (tmp nm)) → (∀ tm ∈ tms, tm.few) → Q (.ref l) { s with heap := h', toks := tk' }) :
   wpAny (model prog w) (ktrTop dp un gd cn cs L a ccd cl outer) (call (.ref 116) [.ref S, .int (1 + (nm : Int)) tm]) Q E s := by
  refine wpAny_call ?_
  k_dflt ktr_enter
  have sm0 : Sm s s := Sm.one
  k_steps
  refine Held.out ?_
  (rename Fr _ _ _ _ => F1)
  (rename News _ _ _ _ => N1)
  (rename IsRange _ _ _ _ _ _ _ _ => R1)
  obtain ⟨im0, up0, hS0, N0⟩ := seal0 (S := S) (news_pick N1 (by k_extra "the pick")) (by k_extra "nes")
  clear N1
  have N1' := news_nil N0
  refine LCt.CompSrcT.range (n := nm + 1) rfl F1 N1' R1 (small_one (by omega) (by omega) (by omega) (by omega)) (by rw [rangeSize_nat]; omega) (by rw [sizeLine_eq]; omega) ?_
  clear F1 N0 N1' R1
  intro g
  refine restT (RtJ2 _) _ ?fin ?step _ 0 [] _ (Nat.zero_add _) ⟨[], rfl, Abw.nil, .nil⟩
  case step =>
    rintro k i ys nx hik ⟨tl, rfl, hab, hD⟩ IH
    refine LCt.CompRestT.succ ?_
    intro v I oI C oC D m₂ h tk E' hv hC hx1 F4 N4 off ne
    obtain ⟨tv, rfl⟩ := hv
    cases i with
    | zero =>
      k_steps
      (rename Fr _ _ _ _ => F5)
      (rename News _ _ _ _ => N5)
      exact Held.out (gen_end F5 N5 Cut.here off Abw.nil hab trivial (fun hab2 => IH _ _ ⟨_, rfl, hab2, (hD.mono fun p hp => List.mem_append_left _ hp)⟩))
    | succ j =>
      rw [show (0 + ((j + 1 : Nat) : Int)) = 1 + (j : Int) by omega] at hx1
      have hrr : retrows (j + 1) = retrows j ++ [lrow (1 + (j : Int)) (Str.ofString "return")] := by simp [retrows, List.range_succ]
      k_steps
      (rename Fr _ _ _ _ => F5)
      (rename News _ _ _ _ => N5)
      exact Held.out (gen_end F5 N5 (by k_extra "the cut") off (by k_extra "all off") hab trivial (fun hab2 => IH _ _ ⟨_, rfl, hab2, (by show DatAll _ _ (retrows (j + 1)); rw [hrr]; exact (hD.mono fun p hp => List.mem_append_left _ hp).append (by k_extra "datall"))⟩))
  case fin =>
    rintro ys nx ⟨tl, rfl, hab, hD⟩
    intro D h tk F2 N2 off
    have o1 := off1_mem off
    simp only [List.cons_append] at N2 hab o1
    have hD' : DatAll tl ys (retrows nm) := hD
    obtain ⟨im1, upA, upB, mD, hS1, N9⟩ := seal1 (S := S) N2 (o1 _ (.head _)) hS0 hab
    have hD1 := hD'.mono upB
    clear N2 o1 off hD hD' hab upB
    k_steps
    (rename Fr _ _ _ _ => F3)
    (rename News _ _ _ _ => N3)
    refine Sm.fin (by with_reducible assumption) ?_
    refine' ret [.switch _, .assert _, .call _ _ _, .drop _, .ret, .goto, .panic, .unr] _ _ _ _ _ _ _ _ _ _ _ F3 ?gN ?gx ?gy ?gm ?gD ?gf
    (case gN => k_extra "the news")
    (case gx => assumption)
    (case gy => assumption)
    (case gm => k_extra "mem")
    (case gD =>
      refine' DatAll.cons ?_ (DatAll.cons ?_ (DatAll.cons ?_ (DatAll.cons ?_ (DatAll.cons ?_ (DatAll.cons ?_ (DatAll.cons ?_ (DatAll.cons ?_ DatAll.nil)))))))
      all_goals (dsimp only [tmp, Tm.dat, Tm.rows])
      · k_extra "datin"
      · k_extra "datin"
      · refine' DatIn.tuple ?q1 ?q2
        case q1 => k_extra "mem"
        refine' DatAll.cons ?u1 ?u2
        case u1 =>
          refine' DatIn.tuple ?q3 ?q4
          case q3 => k_extra "mem"
          refine' DatAll.cons ?u3 ?u4
          case u3 => k_extra "datin"
          refine' DatAll.cons ?u5 ?u6
          case u5 => k_extra "datin"
          refine' DatAll.cons ?u7 ?u8
          case u7 => k_extra "datin"
          refine' DatAll.cons ?u9 ?u10
          case u9 => k_extra "datin"
          refine' DatAll.cons ?u11 ?u12
          case u11 => k_extra "datin"
          exact DatAll.nil
        k_extra "datall"
      · k_extra "datin"
      · k_extra "datin"
      · k_extra "datin"
      · k_extra "datin"
      · k_extra "datin")
    (case gf =>
      (repeat' (refine List.forall_mem_cons.mpr ⟨?_, ?_⟩))
      all_goals first | exact trivial | exact List.forall_mem_nil _ | (show _ ≤ 10; omega))
end
end
-- Tmk
theorem inv_switch {n : List (Addr × Obj)} {v : Value} {o : Opd} (D : DatIn n v (Tm.dat (.switch o))) : ∃ (b : Addr) (k : Nat) (t0 : Nat) (v1 : Value) (v2 : Value) (t3 : Nat), v = .ref b ∧ (b, tupOf [.str (Str.ofString "switch") t0, v1, v2, .int 2 t3].toArray k) ∈ n ∧ DatIn n v1 (o.dat) ∧ DatIn n v2 (.tuple [.tuple [.int 0, .int 1]]) := by
  obtain ⟨b, ws, k, rfl, hm, r⟩ := inv_tup D
  obtain ⟨v0, w0, rfl, d0, r0⟩ := inv_cons r
  obtain ⟨t0, rfl⟩ := inv_str d0
  obtain ⟨v1, w1, rfl, d1, r1⟩ := inv_cons r0
  obtain ⟨v2, w2, rfl, d2, r2⟩ := inv_cons r1
  obtain ⟨v3, w3, rfl, d3, r3⟩ := inv_cons r2
  obtain ⟨t3, rfl⟩ := inv_int d3
  obtain rfl := inv_nil r3
  exact ⟨_, _, _, _, _, _, rfl, hm, d1, d2⟩
theorem inv_assert {n : List (Addr × Obj)} {v : Value} {o : Opd} (D : DatIn n v (Tm.dat (.assert o))) : ∃ (b : Addr) (k : Nat) (t0 : Nat) (v1 : Value) (t3 : Nat) (t4 : Nat), v = .ref b ∧ (b, tupOf [.str (Str.ofString "assert") t0, v1, .bool true, .str (Str.ofString "text") t3, .int 1 t4].toArray k) ∈ n ∧ DatIn n v1 (o.dat) := by
  obtain ⟨b, ws, k, rfl, hm, r⟩ := inv_tup D
  obtain ⟨v0, w0, rfl, d0, r0⟩ := inv_cons r
  obtain ⟨t0, rfl⟩ := inv_str d0
  obtain ⟨v1, w1, rfl, d1, r1⟩ := inv_cons r0
  obtain ⟨v2, w2, rfl, d2, r2⟩ := inv_cons r1
  obtain rfl := inv_bool d2
  obtain ⟨v3, w3, rfl, d3, r3⟩ := inv_cons r2
  obtain ⟨t3, rfl⟩ := inv_str d3
  obtain ⟨v4, w4, rfl, d4, r4⟩ := inv_cons r3
  obtain ⟨t4, rfl⟩ := inv_int d4
  obtain rfl := inv_nil r4
  exact ⟨_, _, _, _, _, _, rfl, hm, d1⟩
theorem inv_call {n : List (Addr × Obj)} {v : Value} {os : List Opd} {p : Plc} {d : Dat} (D : DatIn n v (Tm.dat (.call os p d))) : ∃ (b : Addr) (k : Nat) (t0 : Nat) (v1 : Value) (v2 : Addr) (v3 : Value) (v4 : Value), v = .ref b ∧ (b, tupOf [.str (Str.ofString "call") t0, v1, .ref v2, v3, v4].toArray k) ∈ n ∧ DatIn n v1 (.tuple [.str (Str.ofString "fn"), .str (Str.ofString "f"), .tuple []]) ∧ DatIn n (.ref v2) (.tuple (os.map Opd.dat)) ∧ DatIn n v3 (p.dat) ∧ DatIn n v4 (d) := by
  obtain ⟨b, ws, k, rfl, hm, r⟩ := inv_tup D
  obtain ⟨v0, w0, rfl, d0, r0⟩ := inv_cons r
  obtain ⟨t0, rfl⟩ := inv_str d0
  obtain ⟨v1, w1, rfl, d1, r1⟩ := inv_cons r0
  obtain ⟨v2, w2, rfl, d2, r2⟩ := inv_cons r1
  obtain ⟨b2, rfl, h2⟩ := inv_tref d2
  obtain ⟨v3, w3, rfl, d3, r3⟩ := inv_cons r2
  obtain ⟨v4, w4, rfl, d4, r4⟩ := inv_cons r3
  obtain rfl := inv_nil r4
  exact ⟨_, _, _, _, _, _, _, rfl, hm, d1, h2, d3, d4⟩
theorem inv_drop {n : List (Addr × Obj)} {v : Value} {p : Plc} (D : DatIn n v (Tm.dat (.drop p))) : ∃ (b : Addr) (k : Nat) (t0 : Nat) (v1 : Value) (t2 : Nat), v = .ref b ∧ (b, tupOf [.str (Str.ofString "drop") t0, v1, .int 1 t2].toArray k) ∈ n ∧ DatIn n v1 (p.dat) := by
  obtain ⟨b, ws, k, rfl, hm, r⟩ := inv_tup D
  obtain ⟨v0, w0, rfl, d0, r0⟩ := inv_cons r
  obtain ⟨t0, rfl⟩ := inv_str d0
  obtain ⟨v1, w1, rfl, d1, r1⟩ := inv_cons r0
  obtain ⟨v2, w2, rfl, d2, r2⟩ := inv_cons r1
  obtain ⟨t2, rfl⟩ := inv_int d2
  obtain rfl := inv_nil r2
  exact ⟨_, _, _, _, _, rfl, hm, d1⟩
theorem inv_ret {n : List (Addr × Obj)} {v : Value}  (D : DatIn n v (Tm.dat (.ret ))) : ∃ (b : Addr) (k : Nat) (t0 : Nat), v = .ref b ∧ (b, tupOf [.str (Str.ofString "return") t0].toArray k) ∈ n := by
  obtain ⟨b, ws, k, rfl, hm, r⟩ := inv_tup D
  obtain ⟨v0, w0, rfl, d0, r0⟩ := inv_cons r
  obtain ⟨t0, rfl⟩ := inv_str d0
  obtain rfl := inv_nil r0
  exact ⟨_, _, _, rfl, hm⟩
theorem inv_goto {n : List (Addr × Obj)} {v : Value}  (D : DatIn n v (Tm.dat (.goto ))) : ∃ (b : Addr) (k : Nat) (t0 : Nat) (t1 : Nat), v = .ref b ∧ (b, tupOf [.str (Str.ofString "goto") t0, .int 1 t1].toArray k) ∈ n := by
  obtain ⟨b, ws, k, rfl, hm, r⟩ := inv_tup D
  obtain ⟨v0, w0, rfl, d0, r0⟩ := inv_cons r
  obtain ⟨t0, rfl⟩ := inv_str d0
  obtain ⟨v1, w1, rfl, d1, r1⟩ := inv_cons r0
  obtain ⟨t1, rfl⟩ := inv_int d1
  obtain rfl := inv_nil r1
  exact ⟨_, _, _, _, rfl, hm⟩
theorem inv_panic {n : List (Addr × Obj)} {v : Value}  (D : DatIn n v (Tm.dat (.panic ))) : ∃ (b : Addr) (k : Nat) (t0 : Nat) (t1 : Nat), v = .ref b ∧ (b, tupOf [.str (Str.ofString "panic") t0, .str (Str.ofString "text") t1].toArray k) ∈ n := by
  obtain ⟨b, ws, k, rfl, hm, r⟩ := inv_tup D
  obtain ⟨v0, w0, rfl, d0, r0⟩ := inv_cons r
  obtain ⟨t0, rfl⟩ := inv_str d0
  obtain ⟨v1, w1, rfl, d1, r1⟩ := inv_cons r0
  obtain ⟨t1, rfl⟩ := inv_str d1
  obtain rfl := inv_nil r1
  exact ⟨_, _, _, _, rfl, hm⟩
theorem inv_unr {n : List (Addr × Obj)} {v : Value}  (D : DatIn n v (Tm.dat (.unr ))) : ∃ (b : Addr) (k : Nat) (t0 : Nat), v = .ref b ∧ (b, tupOf [.str (Str.ofString "unreachable") t0].toArray k) ∈ n := by
  obtain ⟨b, ws, k, rfl, hm, r⟩ := inv_tup D
  obtain ⟨v0, w0, rfl, d0, r0⟩ := inv_cons r
  obtain ⟨t0, rfl⟩ := inv_str d0
  obtain rfl := inv_nil r0
  exact ⟨_, _, _, rfl, hm⟩
section
set_option maxRecDepth 100000 in
theorem oftm_ok {prog : Program} {w : World} {mean : ExcName → Option Value} {mg mb : Str → Option Value} {dp un : Nat} {gd : Option (List Code)} {cn : Str} {cs : Scope} {a : Addr} {ccd : Value} {cl : List (Str × Addr)} {outer : List Env} {A₀ : Around} {base h₀ : Heap} {L : Addr} {m : Str → Option Value} {news im : List (Addr × Obj)} {s : Shared}
   {Q E : Value → Shared → Prop} {v : Value} {t : Tm} {nm tm : Nat}
   (B : Below A₀ base outer h₀) (F : Fr h₀ L s.heap m) (X : (hd.heap_39 w.params).In h₀) (N : News h₀ L s.heap news) (T : Top view (looseW view []) mean mg mb h₀) (hk : cs.kind = .function)
   (hd : dp + 100 < recursionLimit) (hu : un + 1000 < cLine) (sub : ∀ p ∈ im, p ∈ news) (D : DatIn im v t.dat) (hfew : t.few) (hnm : nm ≤ 10)
   (ret : ∀ l vs k tl h' tk', Fr h₀ L h' m → News h₀ L h' (news ++ tl) → Abw news tl → (l, (listOf vs.toArray k : Obj)) ∈ tl → DatAll (im ++ tl) vs (t.rows nm) → Q (.ref l) { s with heap := h', toks := tk' }) :
   wpAny (model prog w) (ktrTop dp un gd cn cs L a ccd cl outer) (call (.ref 59) [v, .int (1 + (nm : Int)) tm]) Q E s := by
  cases t with
  | switch o =>
    obtain ⟨b, k, t0, v1, v2, t3, rfl, hm, e1, e2⟩ := inv_switch D
    exact oftm_switch B F X N T hk hd hu sub (sub _ hm) e1 ret
  | assert o =>
    obtain ⟨b, k, t0, v1, t3, t4, rfl, hm, e1⟩ := inv_assert D
    exact oftm_assert B F X N T hk hd hu sub (sub _ hm) e1 ret
  | call os p d =>
    obtain ⟨b, k, t0, v1, v2, v3, v4, rfl, hm, e1, e2, e3, e4⟩ := inv_call D
    exact oftm_call (vo := .int 0 0) B F X N T hk hd hu sub (sub _ hm) e2 hfew e3 ret
  | drop p =>
    obtain ⟨b, k, t0, v1, t2, rfl, hm, e1⟩ := inv_drop D
    exact oftm_drop B F X N T hk hd hu sub (sub _ hm) e1 ret
  | ret  =>
    obtain ⟨b, k, t0, rfl, hm⟩ := inv_ret D
    exact oftm_ret B F X N T hk hd hu sub (sub _ hm) hnm ret
  | goto  =>
    obtain ⟨b, k, t0, t1, rfl, hm⟩ := inv_goto D
    exact oftm_goto B F X N T hk hd hu sub (sub _ hm)  ret
  | panic  =>
    obtain ⟨b, k, t0, t1, rfl, hm⟩ := inv_panic D
    exact oftm_panic B F X N T hk hd hu sub (sub _ hm)  ret
  | unr  =>
    obtain ⟨b, k, t0, rfl, hm⟩ := inv_unr D
    exact oftm_unr B F X N T hk hd hu sub (sub _ hm)  ret
end
theorem tm_at {im : List (Addr × Obj)} {n : Nat} {tms : List Tm} {vs : List Value} (D : DatAll im vs (tms.map (tmp n))) {i : Nat} {v : Value} (h : vs[i]? = some v) :
    ∃ tm t vr w ws kt kw, tm ∈ tms ∧ v = Value.ref t ∧ (t, tupOf [vr, Value.ref w].toArray kt) ∈ im ∧ DatIn im vr (Tm.dat tm) ∧ (w, (listOf ws.toArray kw : Obj)) ∈ im ∧ DatAll im ws (Tm.rows n tm) := by
  obtain ⟨x, hx, Dd⟩ := map_at D h
  obtain ⟨t, vr, w, ws, kt, kw, p⟩ := pair_open Dd
  exact ⟨x, t, vr, w, ws, kt, kw, List.mem_of_getElem? hx, p⟩
theorem ret_ok (n : Nat) : ∀ d ∈ retrows n, kqdOk 8 d = true := by
  intro d hd
  obtain ⟨i, _, rfl⟩ := List.mem_map.mp hd
  exact row_ok (n := 7) (by simp [kqdOk]) (by decide +kernel) (by decide +kernel) (by decide +kernel)
theorem tmr_ok (n : Nat) (t : Tm) : ∀ d ∈ t.rows n, kqdOk 8 d = true := by
  cases t with
  | switch o => exact opdr_ok o
  | assert o => exact opdr_ok o
  | call os p d => exact app_ok (opdsr_ok os) fun d => one_ok' (row_ok (plc_ok p 4) (by decide +kernel) (by decide +kernel) (by decide +kernel))
  | drop p => exact fun d => one_ok' (row_ok (plc_ok p 4) (by decide +kernel) (by decide +kernel) (by decide +kernel))
  | ret => exact ret_ok n
  | goto => exact fun d hd => by cases hd
  | panic => exact fun d hd => by cases hd
  | unr => exact fun d hd => by cases hd
-- Law
section
local macro_rules | `(tactic| k_lt $h:ident) => `(tactic| ((have raw9 := $h); clear $h))
theorem w24 : True := by
  k_with_none
  k_with "all" => (assumption)
  k_with "mem0" => (assumption)
  k_with "mem" => (first | with_reducible exact List.mem_cons_self | ((with_reducible refine List.mem_cons_of_mem _ ?_); k_extra "mem") | with_reducible assumption | ((with_reducible refine List.mem_append_left _ ?_); k_extra "mem") | ((with_reducible refine List.mem_append_right _ ?_); k_extra "mem") | fail "no member")
  k_with "sub0" => (first | with_reducible exact sub_refl | with_reducible exact sub_nil | ((with_reducible refine sub_app ?_ ?_); (k_extra "sub0"); (k_extra "sub0")) | ((with_reducible refine sub_consS ?_ ?_); (k_extra "mem"); (k_extra "sub0")) | ((with_reducible refine sub_cons ?_); (k_extra "sub0")) | ((with_reducible refine sub_appR ?_); with_reducible exact sub_refl) | ((with_reducible refine sub_appL ?_); (k_extra "sub0")) | ((with_reducible refine sub_appR ?_); (k_extra "sub0")) | fail "no subset")
  k_with "datin" => (first | with_reducible exact DatIn.none | with_reducible exact DatIn.int _ _ | with_reducible exact DatIn.bool _ | with_reducible exact DatIn.str _ _ | ((with_reducible refine' DatIn.mono ?s9 ?d9); (case d9 => with_reducible assumption); (case s9 => k_extra "the subset")) | (refine' DatIn.tuple ?m9 ?r9; (case m9 => k_extra "mem"); (case r9 => k_extra "datall")) | (refine' DatIn.list ?m9 ?r9; (case m9 => k_extra "mem"); (case r9 => k_extra "datall")) | exact DatIn.int _ _ | exact DatIn.str _ _ | fail "no datum")
  k_with "datall" => (first | with_reducible exact DatAll.nil | ((with_reducible refine' DatAll.mono ?s9 ?d9); (case d9 => with_reducible assumption); (case s9 => k_extra "the subset")) | ((with_reducible refine DatAll.append ?_ ?_); (k_extra "datall"); (k_extra "datall")) | (refine' DatAll.cons ?_ ?_; (k_extra "datin"); (k_extra "datall")) | exact DatAll.nil | fail "no data")
  k_with "the pick" => (first | exact Pick.here | ((with_reducible refine' Pick.skip ?p8); (case p8 => k_extra "the pick")) | fail "no pick")
  k_with "the news" => (first | k_asm | (refine' news_pick ?n9 ?p9; (case n9 => k_asm); (case p9 => k_extra "the pick")) | fail "no news")
  k_with "call ref" => ((k_here; (with_reducible show wpAny _ _ (call (Value.ref 73) _) _ _ _); k_dflt (refine' take_ok ?kB ?kF ?kX ?kN ?kS ?kT ?kk ?kd ?ku ?kx ?ky ?kt ?_; (case kB => k_asm); (case kF => k_asm); (case kX => k_asm); (case kN => k_extra "the news"); (case kS => k_all); (case kT => k_asm); (case kk => first | exact rfl | assumption); (case kd => ktr_room); (case ku => ktr_units); (case kx => first | assumption | omega); (case ky => assumption); (case kt => first | assumption | decide | omega)); intro r9 tr9 x9 y9 tx9 ty9 n9 h9 tk9 F9 N9 rlo9 rhi9 hx9 hy9; (try k_sweep)))
  k_with "call ref" => ((k_here; (with_reducible show wpAny _ _ (call (Value.ref 80) _) _ _ _); k_dflt (refine' one_ok ?kB ?kF ?kX ?kN ?kS ?kT ?kk ?kd ?ku ?kx ?ky ?kt ?kl ?_; (case kB => k_asm); (case kF => k_asm); (case kX => k_asm); (case kN => k_extra "the news"); (case kS => k_all); (case kT => k_asm); (case kk => first | exact rfl | assumption); (case kd => first | exact room_le (a := 21) (by with_reducible assumption) rfl rfl | ktr_room); (case ku => first | exact room_le (a := 203) (by with_reducible assumption) rfl rfl | ktr_units); (case kx => first | assumption | omega); (case ky => assumption); (case kt => k_extra "mem"); (case kl => first | assumption | exact ⟨by decide, by decide⟩ | exact ⟨Nat.lt_of_sub_eq_succ rfl, Nat.le_of_ble_eq_true rfl⟩)); intro i9 hi9 x9 y9 tx9 ty9 n9 h9 tk9 F9 N9 hx9 hy9; (try k_sweep); (first | (rcases four hi9 with e9 | e9 | e9 | e9 <;> (subst e9; (try dsimp only [List.getElem_cons_zero, List.getElem_cons_succ]))) | (rcases three hi9 with e9 | e9 | e9 <;> (subst e9; (try dsimp only [List.getElem_cons_zero, List.getElem_cons_succ]))) | (rcases two hi9 with e9 | e9 <;> (subst e9; (try dsimp only [List.getElem_cons_zero, List.getElem_cons_succ]))))))
  k_with "the subset" => (first | (k_extra "sub0") | ((refine sub_trans (by with_reducible assumption) ?_); (k_extra "sub0")) | fail "no subset")
  k_with "binaryOp Add ref ref" => ((k_here; (with_reducible show wpAny _ _ (binaryOp _ (Value.ref _) (Value.ref _)) _ _ _); k_dflt (refine' add_dl ?k1 ?k2 ?k3 ?k4 ?k5 ?_; (case k1 => k_asm); (case k2 => k_asm); (case k3 => k_extra "mem"); (case k4 => k_extra "mem"); (case k5 => k_extra "the sizes"); k_whole); intro D' h' F' N' l1; (try k_lt l1); (try k_sweep)))
  k_with "binaryOp Add ref ref" => ((k_here; (with_reducible show wpAny _ _ (binaryOp _ (Value.ref _) (Value.ref _)) _ _ _); k_dflt (refine' add_dt ?k1 ?k2 ?k3 ?k4 ?k5 ?k6 ?_ ?_; (case k1 => k_asm); (case k2 => k_asm); (case k3 => k_extra "mem"); (case k4 => k_extra "mem"); (case k5 => k_extra "the sizes"); (case k6 => exact List.cons_ne_nil _ _)); (all_goals k_whole); (iterate 1 (intro nl9)); rotate_left; (intro nl9 D' h' F' N' l1; (try k_lt l1); (try k_sweep))))
  k_with "the sizes" => (((try simp only [List.length_cons, List.length_nil]); first | omega | (simp only [List.length_append, List.length_cons, List.length_nil]; omega)))
  k_with "TbPost" => ((refine Held.mk ?_))
  k_with "mem0" => (first | ((with_reducible refine List.mem_append_left _ ?_); k_mem) | ((with_reducible refine List.mem_append_right _ ?_); k_mem) | ((with_reducible refine memL ?_); k_mem) | ((with_reducible refine memR ?_); k_mem))
  k_with "mem0" => (assumption)
  k_with "above" => (first | (refine' Abv1.ofNe ?a1 ?a2 ?a3; (case a1 => with_reducible assumption); (case a2 => k_extra "mem"); (case a3 => k_extra "the subset")) | (refine' Abv1.of ?a1 ?a2 ?a3; (case a1 => with_reducible assumption); (case a2 => k_extra "mem"); (case a3 => k_extra "the subset")) | fail "not above")
  k_with "the cut" => (first | exact Cut.here | ((with_reducible refine' Cut.cons ?c8); (case c8 => k_extra "the cut")) | ((with_reducible refine' Cut.app ?c8); (case c8 => k_extra "the cut")) | fail "no cut")
  k_with "all above" => (first |  exact Abv.nil | with_reducible assumption | ((with_reducible refine Abv.cons1 ?_ ?_); (k_extra "above"); (k_extra "all above")) | ((with_reducible refine Abv.app ?_ ?_); (k_extra "all above"); (k_extra "all above")) | ((with_reducible refine' Abv.mono ?a9 ?b9); (case a9 => with_reducible assumption); (case b9 => k_extra "the subset")) | ((with_reducible refine' Abv.ofW ?a9 ?b9 ?c9); (case a9 => with_reducible assumption); (case b9 => k_extra "mem"); (case c9 => k_extra "the subset")) | fail "not all above")
  k_with "kin" => (first | ((with_reducible refine' DatIn.mono ?s9 ?d9); (case d9 => with_reducible assumption); (case s9 => k_extra "the subset")) | fail "no datum")
  k_with "kall" => (first | ((with_reducible refine' DatAll.mono ?s9 ?d9); (case d9 => with_reducible assumption); (case s9 => k_extra "the subset")) | ((with_reducible refine DatAll.append ?_ ?_); (kqd_all); (kqd_all)) | fail "no data")
  k_with "all off" => (first | exact Abw.nil | with_reducible assumption | ((with_reducible refine' Abw.cons ?a9 ?b9 ?c9); (case a9 => with_reducible assumption); (case b9 => k_extra "the subset"); (case c9 => k_extra "all off")) | ((with_reducible refine' Abw.consNe ?a9 ?b9 ?c9); (case a9 => with_reducible assumption); (case b9 => k_extra "the subset"); (case c9 => k_extra "all off")) | ((with_reducible refine Abw.app ?_ ?_); (k_extra "all off"); (k_extra "all off")) | ((with_reducible refine' Abw.mono ?a9 ?b9); (case a9 => with_reducible assumption); (case b9 => k_extra "the subset")) | fail "not all off")
  k_with "all" => ((fail_if_success (with_reducible refine List.forall_mem_cons.mpr ⟨?_, ?_⟩)); first | ((with_reducible refine ne_app ?_ ?_); (k_all); (k_all)) | ((with_reducible refine' Abw.ne ?a9 ?b9); (case a9 => with_reducible assumption); (case b9 => k_extra "mem")) | ((with_reducible refine Abv.ne ?_); with_reducible assumption) | fail "k_all: none")
  k_with "all" => (with_reducible assumption)
  k_with "nesi" => (first | with_reducible exact nes_base (by with_reducible assumption) (by with_reducible assumption) | ((with_reducible refine nes_step (by with_reducible assumption) ?_); k_extra "nesi") | fail "nesi")
  k_with "all" => (((with_reducible refine nes_end ?_); k_extra "nesi"))
  k_with "call ref" => ((k_here; (with_reducible show wpAny _ _ (call (Value.ref 87) _) _ _ _); k_dflt (refine' place_use ?kB ?kF ?kX ?kN ?kS ?kT ?kk ?kd ?ku ?kx ?ky ?_; (case kB => k_asm); (case kF => k_asm); (case kX => k_asm); (case kN => k_extra "the news"); (case kS => k_all); (case kT => k_asm); (case kk => first | exact rfl | assumption); (case kd => first | exact room_le (a := 31) (by with_reducible assumption) rfl rfl | ktr_room); (case ku => first | exact room_le (a := 303) (by with_reducible assumption) rfl rfl | ktr_units); (case kx => first | assumption | omega); (case ky => assumption)); intro p9 v9 w9 a9 k9 tl9 x9 y9 tx9 ty9 n9 h9 tk9 F9 N9 hS9 ab9 hx9 hy9 hlp9 hm9 Dv9 Dw9; (try k_sweep)))
  k_with "subscriptTail Call Name cons nil Constant ref int" => ((k_here; k_dflt (refine' sub_tup ?k1 ?k2 ?k3 ?k7 ?k4 ?k5 ?_ ?k6; (case k1 => k_asm); (case k2 => k_extra "mem"); (case k3 => decide); (case k7 => first | decide | exact (by simp only [List.length_cons, List.length_nil]; omega)); (case k4 => decide); (case k5 => exact rfl); (case k6 => with_unfolding_all rfl); k_whole)))
  k_with "subscriptTail Name Constant ref int" => ((k_here; k_dflt (refine' sub_tup ?k1 ?k2 ?k3 ?k7 ?k4 ?k5 ?_ ?k6; (case k1 => k_asm); (case k2 => k_extra "mem"); (case k3 => decide); (case k7 => first | decide | exact (by simp only [List.length_cons, List.length_nil]; omega)); (case k4 => decide); (case k5 => exact rfl); (case k6 => with_unfolding_all rfl); k_whole)))
  k_with "call ref" => ((k_here; (with_reducible show wpAny _ _ (call (Value.ref 21) _) _ _ _); k_dflt (refine' ofopd_ok ?kB ?kF ?kX ?kN ?kT ?kk ?kd ?ku ?ks ?kD ?_; (case kB => k_asm); (case kF => k_asm); (case kX => k_asm); (case kN => k_asm); (case kT => k_asm); (case kk => first | exact rfl | assumption); (case kd => ktr_room); (case ku => ktr_units); (case kD => with_reducible assumption); (case ks => k_extra "the subset")); intro l9 vs9 k9 tl9 h9 tk9 F9 N9 ab9 hm9 D9; (try simp only [List.cons_append] at N9); (have le9 := opd_len D9); (try k_sweep)))
  k_with "call ref" => ((k_here; (with_reducible show wpAny _ _ (call (Value.ref 28) _) _ _ _); k_dflt (refine' ofopds_ok ?kB ?kF ?kX ?kN ?kT ?kk ?kd ?ku ?ks ?kD ?kl ?_; (case kB => k_asm); (case kF => k_asm); (case kX => k_asm); (case kN => k_asm); (case kT => k_asm); (case kk => first | exact rfl | assumption); (case kd => ktr_room); (case ku => ktr_units); (case kD => with_reducible assumption); (case kl => with_reducible assumption); (case ks => k_extra "the subset")); intro l9 vs9 k9 tl9 h9 tk9 F9 N9 ab9 hm9 D9; (try simp only [List.cons_append] at N9); (have le9 := opds_len D9); (try k_sweep)))
  k_with "call ref" => ((k_here; (with_reducible show wpAny _ _ (call (Value.ref 35) _) _ _ _); k_dflt (refine' ofbor_mut ?kB ?kF ?kX ?kN ?kT ?kk ?kd ?ku ?ks ?kD ?_; (case kB => k_asm); (case kF => k_asm); (case kX => k_asm); (case kN => k_asm); (case kT => k_asm); (case kk => first | exact rfl | assumption); (case kd => first | exact room_le (a := 21) (by with_reducible assumption) rfl rfl | ktr_room); (case ku => first | exact room_le (a := 203) (by with_reducible assumption) rfl rfl | ktr_units); (case kD => with_reducible assumption); (case ks => k_extra "the subset")); intro l9 vs9 k9 tl9 h9 tk9 F9 N9 ab9 hm9 D9; (try simp only [List.cons_append] at N9); (try k_sweep)))
  k_with "call ref" => ((k_here; (with_reducible show wpAny _ _ (call (Value.ref 35) _) _ _ _); k_dflt (refine' ofbor_ref ?kB ?kF ?kX ?kN ?kT ?kk ?kd ?ku ?ks ?kD ?km ?_; (case km => with_reducible assumption); (case kB => k_asm); (case kF => k_asm); (case kX => k_asm); (case kN => k_asm); (case kT => k_asm); (case kk => first | exact rfl | assumption); (case kd => first | exact room_le (a := 21) (by with_reducible assumption) rfl rfl | ktr_room); (case ku => first | exact room_le (a := 203) (by with_reducible assumption) rfl rfl | ktr_units); (case kD => with_reducible assumption); (case ks => k_extra "the subset")); intro l9 vs9 k9 tl9 h9 tk9 F9 N9 ab9 hm9 D9; (try simp only [List.cons_append] at N9); (try k_sweep)))
  k_with "call ref" => ((k_here; (with_reducible show wpAny _ _ (call (Value.ref 42) _) _ _ _); k_dflt (refine' ofrv_ok ?kB ?kF ?kX ?kN ?kT ?kk ?kd ?ku ?ks ?kD ?kf ?_; (case kB => k_asm); (case kF => k_asm); (case kX => k_asm); (case kN => k_asm); (case kT => k_asm); (case kk => first | exact rfl | assumption); (case kd => ktr_room); (case ku => ktr_units); (case kD => with_reducible assumption); (case kf => with_reducible assumption); (case ks => k_extra "the subset")); intro l9 vs9 k9 tl9 h9 tk9 F9 N9 ab9 hm9 D9; (try simp only [List.cons_append] at N9); (have le9 := rv_len D9 (by with_reducible assumption)); (try k_sweep)))
  k_with "call ref" => ((k_here; (with_reducible show wpAny _ _ (call (Value.ref 47) _) _ _ _); k_dflt (refine' ofidx_ok ?kB ?kF ?kX ?kN ?kT ?kk ?kd ?ku ?ks ?kD ?kf ?_; (case kB => k_asm); (case kF => k_asm); (case kX => k_asm); (case kN => k_asm); (case kT => k_asm); (case kk => first | exact rfl | assumption); (case kd => ktr_room); (case ku => ktr_units); (case kD => with_reducible assumption); (case kf => with_reducible assumption); (case ks => k_extra "the subset")); intro l9 vs9 k9 tl9 h9 tk9 F9 N9 ab9 hm9 D9; (try simp only [List.cons_append] at N9); (have le9 := idx_len D9 (by with_reducible assumption)); (try k_sweep)))
  k_with "call ref" => ((k_here; (with_reducible show wpAny _ _ (call (Value.ref 94) _) _ _ _); k_dflt (refine' operand_use ?kB ?kF ?kX ?kN ?kS ?kT ?kk ?kd ?ku ?kx ?ky ?_; (case kB => k_asm); (case kF => k_asm); (case kX => k_asm); (case kN => k_extra "the news"); (case kS => k_all); (case kT => k_asm); (case kk => first | exact rfl | assumption); (case kd => first | exact room_le (a := 41) (by with_reducible assumption) rfl rfl | ktr_room); (case ku => first | exact room_le (a := 403) (by with_reducible assumption) rfl rfl | ktr_units); (case kx => first | assumption | omega); (case ky => assumption)); intro p9 v9 w9 a9 k9 tl9 x9 y9 tx9 ty9 n9 h9 tk9 F9 N9 hS9 ab9 hx9 hy9 hm9 Dv9 Dw9; (obtain ⟨l9, vs9, kl9, e9, hml9, Dl9, le9⟩ := list_open Dw9); subst e9; (have lr9 := opd_rows1 p9); (try simp only [List.cons_append] at N9); (try k_sweep)))
  k_with "call ref" => ((k_here; (with_reducible show wpAny _ _ (call (Value.ref 99) _) _ _ _); k_dflt (refine' some_use ?kB ?kF ?kX ?kN ?kS ?kT ?kk ?kd ?ku ?kx ?ky ?_; (case kB => k_asm); (case kF => k_asm); (case kX => k_asm); (case kN => k_extra "the news"); (case kS => k_all); (case kT => k_asm); (case kk => first | exact rfl | assumption); (case kd => first | exact room_le (a := 51) (by with_reducible assumption) rfl rfl | ktr_room); (case ku => first | exact room_le (a := 503) (by with_reducible assumption) rfl rfl | ktr_units); (case kx => first | assumption | omega); (case ky => assumption)); intro os9 b9 c9 v9 k9 tl9 x9 y9 tx9 ty9 n9 h9 tk9 F9 N9 hS9 ab9 hx9 hy9 lo9 hm9 Dv9 Dw9; (obtain ⟨l9, vs9, kl9, e9, hml9, Dl9, le9⟩ := list_open Dw9); cases e9; (have lr9 := rows_le os9); (try simp only [List.cons_append] at N9); (try k_sweep)))
  k_with "call ref" => ((k_here; (with_reducible show wpAny _ _ (call (Value.ref 80) _) _ _ _); k_dflt (refine' one_ok (vs := [Value.str (Str.ofString "shared") _, Value.str (Str.ofString "two-phase") _]) ?kB ?kF ?kX ?kN ?kS ?kT ?kk ?kd ?ku ?kx ?ky ?kt ?kl ?_; (case kB => k_asm); (case kF => k_asm); (case kX => k_asm); (case kN => k_extra "the news"); (case kt => k_mem); (case kS => k_all); (case kT => k_asm); (case kk => first | exact rfl | assumption); (case kd => first | exact room_le (a := 21) (by with_reducible assumption) rfl rfl | ktr_room); (case ku => first | exact room_le (a := 203) (by with_reducible assumption) rfl rfl | ktr_units); (case kx => first | assumption | omega); (case ky => assumption); (case kl => exact ⟨by decide, by decide⟩)); intro i9 hi9 x9 y9 tx9 ty9 n9 h9 tk9 F9 N9 hx9 hy9; (obtain ⟨kd9, kt9, hv9, hkm9⟩ := kind_of hi9); rw [hv9]; (try k_sweep)))
  k_with "call ref" => ((k_here; (with_reducible show wpAny _ _ (call (Value.ref 87) _) _ _ _); k_dflt (refine' place_use ?kB ?kF ?kX ?kN ?kS ?kT ?kk ?kd ?ku ?kx ?ky ?_; (case kB => k_asm); (case kF => k_asm); (case kX => k_asm); (case kN => k_extra "the news"); (case kS => k_all); (case kT => k_asm); (case kk => first | exact rfl | assumption); (case kd => first | exact room_le (a := 31) (by with_reducible assumption) rfl rfl | ktr_room); (case ku => first | exact room_le (a := 303) (by with_reducible assumption) rfl rfl | ktr_units); (case kx => first | assumption | omega); (case ky => assumption)); intro p9 v9 w9 a9 k9 tl9 x9 y9 tx9 ty9 n9 h9 tk9 F9 N9 hS9 ab9 hx9 hy9 hlp9 hm9 Dv9 Dw9; (obtain ⟨l9, vs9, kl9, e9, hml9, Dl9, le9⟩ := list_open Dw9); subst e9; (try simp only [List.cons_append] at N9); (try k_sweep)))
  k_with "call ref" => ((k_here; (with_reducible show wpAny _ _ (call (Value.ref 54) _) _ _ _); k_dflt (refine' ofst_assign ?kB ?kF ?kX ?kN ?kT ?kk ?kd ?ku ?ks ?kt ?kD ?kE ?kf ?kl ?_; (case kB => k_asm); (case kF => k_asm); (case kX => k_asm); (case kN => k_asm); (case kT => k_asm); (case kk => first | exact rfl | assumption); (case kd => ktr_room); (case ku => ktr_units); (case kt => k_mem); (case ks => exact sub_refl); (case kD => k_extra "datin"); (case kE => k_extra "datin"); (case kf => with_reducible assumption); (case kl => with_reducible assumption)); intro l9 vs9 k9 tl9 h9 tk9 F9 N9 ab9 hm9 D9; (try simp only [List.cons_append] at N9); (try k_sweep)))
  k_with "compareOp NotEq ref ref" => ((k_here; (with_reducible show wpAny _ _ (compareOp CmpOp.NotEq (Value.ref _) (Value.ref _)) _ _ _); k_dflt (refine' ne_same ?N ?a ?Da ?sa ?b ?Db ?ok ?u ?_; (case N => k_asm); (case a => k_extra "mem"); (case Da => with_reducible assumption); (case sa => k_extra "the subset"); (case b => k_extra "mem"); (case Db => k_extra "datall"); (case ok => k_extra "oks"); (case u => ktr_units))))
  k_with "oks" => (first | with_reducible exact rvr_ok _ | with_reducible exact irow_ok _ | with_reducible exact opdr_ok _ | with_reducible exact opdsr_ok _ | exact (fun _ => one_ok' (row_ok (plc_ok _ 4) (by decide +kernel) (by decide +kernel) (by decide +kernel))) | ((with_reducible refine app_ok ?_ ?_); (k_extra "oks"); (k_extra "oks")) | fail "oks")
  trivial
theorem as_endT {h₀ h' : Heap} {L S : Addr} {i tk n : Nat} {m : Str → Option Value} {imm own all : List (Addr × Obj)} {o : Obj} {x y : Int} {tx ty : Nat} {s₁ : Shared} {Q : Flow → Shared → Prop} (F : Fr h₀ L h' m) (N : News h₀ L h' all)
    (hs : (S, (listOf #[.int x tx, .int y ty] n : Obj)) ∈ all) (hi : ∀ p ∈ imm ++ own, p ∈ all) (hoff : TbOff own ((S, o) :: imm)) (e1 : m (Str.ofString "source") = some (.ref S)) (hx : 0 ≤ x) (hy : 0 ≤ y ∧ y < 2147483647) :
    TbPost h₀ L (AsJ S imm (i + 1)) own s₁ Q .next { s₁ with heap := h', toks := tk } := by
  refine ⟨h', tk, m, all, (S, listOf #[.int x tx, .int y ty] n) :: imm, rfl, F, N, ?_, fun p hp => hi p (List.mem_append_right _ hp), ?_, x, y, tx, ty, n, rfl, hx, hy, e1⟩
  · intro p hp
    rcases List.mem_cons.mp hp with rfl | hp
    · exact hs
    · exact hi p (List.mem_append_left _ hp)
  · intro p hp q hq
    rcases List.mem_cons.mp hq with rfl | hq
    · exact hoff p hp (S, o) (.head _)
    · exact hoff p hp q (.tail _ hq)
structure Mark : Prop where
theorem w25 : True := by
  k_with "call ref" => ((k_here; (with_reducible show wpAny _ _ (call (Value.ref 66) _) _ _ _); k_dflt (refine' pool_ok (news := []) ?kB ?kF ?kX ?kN ?kT ?kk ?kd ?ku ?kl ?ki ?kn ?_; (case kB => k_asm); (case kF => k_asm); (case kX => k_asm); (case kN => exact News.nil); (case kT => k_asm); (case kk => first | exact rfl | assumption); (case kd => ktr_room); (case ku => ktr_units); (case kl => assumption); (case ki => assumption); (case kn => omega)); intro S9 x9 y9 tx9 ty9 n9 h9 tk9 F9 N9 l9 hx9 hy9; clear l9; (try k_sweep)))
  k_with "call ref" => ((k_here; (with_reducible show wpAny _ _ (call (Value.ref 106) _) _ _ _); k_dflt (refine' rvalues_ok ?kB ?kF ?kX ?kN ?kS ?kT ?kk ?kd ?ku ?kx ?ky ?_; (case kB => k_asm); (case kF => k_asm); (case kX => k_asm); (case kN => k_extra "the news"); (case kS => k_all); (case kT => k_asm); (case kk => first | exact rfl | assumption); (case kd => first | exact room_le (a := 71) (by with_reducible assumption) rfl rfl | ktr_room); (case ku => first | exact room_le (a := 703) (by with_reducible assumption) rfl rfl | ktr_units); (case kx => assumption); (case ky => assumption)); intro rvs9 l9 vs9 k9 im9 x9 y9 tx9 ty9 n9 h9 tk9 F9 N9 hS9 hx9 hy9 hm9 D9 hf9 hl9; (try simp only [List.cons_append, List.nil_append] at N9); (try k_sweep)))
  k_with "do asg" => ((k_dflt (refine' asg_ok ?kB ?kF ?kX ?kN ?kS ?kT ?kk ?kd ?ku ?kx ?ky ?km ?kD ?kf ?_; (case kB => k_asm); (case kF => k_asm); (case kX => k_asm); (case kN => k_extra "the news"); (case kS => k_all); (case kT => k_asm); (case kk => first | exact rfl | assumption); (case kd => ktr_room); (case ku => ktr_units); (case kx => assumption); (case ky => assumption); (case km => k_extra "mem"); (case kD => k_extra "datall"); (case kf => with_reducible assumption))))
  k_with "do ends" => ((k_dflt (refine' ends_ok ?kB ?kF ?kX ?kN ?kS ?kT ?kk ?kd ?ku ?kx ?ky ?kn ?_; (case kB => k_asm); (case kF => k_asm); (case kX => k_asm); (case kN => k_extra "the news"); (case kS => k_all); (case kT => k_asm); (case kk => first | exact rfl | assumption); (case kd => ktr_room); (case ku => ktr_units); (case kx => assumption); (case ky => assumption); (case kn => omega))))
  k_with "do tm" => ((k_dflt (refine' oftm_ok ?kB ?kF ?kX ?kN ?kT ?kk ?kd ?ku ?ks ?kD ?kf ?kn ?_; (case kB => k_asm); (case kF => k_asm); (case kX => k_asm); (case kN => k_asm); (case kT => k_asm); (case kk => first | exact rfl | assumption); (case kd => ktr_room); (case ku => ktr_units); (case kD => with_reducible assumption); (case kf => with_reducible assumption); (case kn => omega); (case ks => k_extra "the subset"))))
  k_with "call ref" => ((k_here; (with_reducible show wpAny _ _ (call (Value.ref 73) _) _ _ _); k_dflt (refine' take_ok ?kB ?kF ?kX ?kN ?kS ?kT ?kk ?kd ?ku ?kx ?ky ?kt ?_; (case kB => k_asm); (case kF => k_asm); (case kX => k_asm); (case kN => k_extra "the news"); (case kS => k_all); (case kT => k_asm); (case kk => first | exact rfl | assumption); (case kd => ktr_room); (case ku => ktr_units); (case kx => first | assumption | omega); (case ky => assumption); (case kt => first | assumption | decide | omega)); intro r9 tr9 x9 y9 tx9 ty9 n9 h9 tk9 F9 N9 rlo9 rhi9 hx9 hy9; (obtain ⟨rn9, e9⟩ := Int.eq_ofNat_of_zero_le rlo9); subst e9; (try k_sweep)))
  k_with "do dead" => ((k_dflt (refine' ofst_dead (im := []) ?kB ?kF ?kX ?kN ?kT ?kk ?kd ?ku sub_nil ?kt ?_; (case kB => k_asm); (case kF => k_asm); (case kX => k_asm); (case kN => k_asm); (case kt => k_extra "mem"); (case kT => k_asm); (case kk => first | exact rfl | assumption); (case kd => first | exact room_le (a := 101) (by with_reducible assumption) rfl rfl | ktr_room); (case ku => first | exact room_le (a := 1003) (by with_reducible assumption) rfl rfl | ktr_units))))
  k_with "do nop" => ((k_dflt (refine' ofst_nop (im := []) ?kB ?kF ?kX ?kN ?kT ?kk ?kd ?ku sub_nil ?kt ?_; (case kB => k_asm); (case kF => k_asm); (case kX => k_asm); (case kN => k_asm); (case kt => k_extra "mem"); (case kT => k_asm); (case kk => first | exact rfl | assumption); (case kd => first | exact room_le (a := 101) (by with_reducible assumption) rfl rfl | ktr_room); (case ku => first | exact room_le (a := 1003) (by with_reducible assumption) rfl rfl | ktr_units))))
  k_with "do live" => ((k_dflt (refine' ofst_live (im := []) ?kB ?kF ?kX ?kN ?kT ?kk ?kd ?ku sub_nil ?kt ?_; (case kB => k_asm); (case kF => k_asm); (case kX => k_asm); (case kN => k_asm); (case kt => k_extra "mem"); (case kT => k_asm); (case kk => first | exact rfl | assumption); (case kd => first | exact room_le (a := 101) (by with_reducible assumption) rfl rfl | ktr_room); (case ku => first | exact room_le (a := 1003) (by with_reducible assumption) rfl rfl | ktr_units))))
  k_with "do print" => ((k_dflt (refine' ofst_print ?kB ?kF ?kX ?kN ?kT ?kk ?kd ?ku ?ks ?kt ?kD ?_; (case kB => k_asm); (case kF => k_asm); (case kX => k_asm); (case kN => k_asm); (case kt => k_extra "mem"); (case kD => with_reducible assumption); (case ks => k_extra "the subset"); (case kT => k_asm); (case kk => first | exact rfl | assumption); (case kd => first | exact room_le (a := 101) (by with_reducible assumption) rfl rfl | ktr_room); (case ku => first | exact room_le (a := 1003) (by with_reducible assumption) rfl rfl | ktr_units))))
  k_with "call ref" => ((k_here; (with_reducible show wpAny _ _ (call (Value.ref 54) _) _ _ _); k_dflt (refine' ofst_print ?kB ?kF ?kX ?kN ?kT ?kk ?kd ?ku ?ks ?kt ?kD ?_; (case kB => k_asm); (case kF => k_asm); (case kX => k_asm); (case kN => k_asm); (case kt => k_mem); (case kD => with_reducible assumption); (case ks => k_extra "the subset"); (case kT => k_asm); (case kk => first | exact rfl | assumption); (case kd => first | exact room_le (a := 101) (by with_reducible assumption) rfl rfl | ktr_room); (case ku => first | exact room_le (a := 1003) (by with_reducible assumption) rfl rfl | ktr_units)); intro l9 vs9 k9 tl9 h9 tk9 F9 N9 ab9 hm9 D9; (try simp only [List.cons_append] at N9); (try k_sweep)))
  k_with "call ref" => ((k_here; (with_reducible show wpAny _ _ (call (Value.ref 35) _) _ _ _); k_dflt (refine' ofbor_mut (p := ⟨1, []⟩) ?kB ?kF ?kX ?kN ?kT ?kk ?kd ?ku sub_refl ?kD ?_; (case kB => k_asm); (case kF => k_asm); (case kX => k_asm); (case kN => k_asm); (case kT => k_asm); (case kk => first | exact rfl | assumption); (case kd => first | exact room_le (a := 21) (by with_reducible assumption) rfl rfl | ktr_room); (case ku => first | exact room_le (a := 203) (by with_reducible assumption) rfl rfl | ktr_units); (case kD => k_extra "datin")); intro l9 vs9 k9 tl9 h9 tk9 F9 N9 ab9 hm9 D9; (try simp only [List.cons_append] at N9); (try k_sweep)))
  k_with "compareOp NotEq ref ref" => ((k_here; (with_reducible show wpAny _ _ (compareOp CmpOp.NotEq (Value.ref _) (Value.ref _)) _ _ _); k_dflt (refine' ne_same ?N ?xa ?Da sub_refl ?xb ?Db ?ok ?u ?_; (case N => k_asm); (case xa => k_extra "mem"); (case Da => k_extra "datall"); (case xb => k_extra "mem"); (case Db => k_extra "datall"); (case ok => k_extra "oks"); (case u => ktr_units))))
  k_with "compareOp NotEq ref ref" => ((k_here; (with_reducible show wpAny _ _ (compareOp CmpOp.NotEq (Value.ref _) (Value.ref _)) _ _ _); k_dflt (refine' ne_same ?N ?xa ?Da ?sa ?xb ?Db ?ok ?u ?_; (case N => k_asm); (case xa => k_extra "mem"); (case Da => with_reducible assumption); (case sa => k_extra "the subset"); (case xb => k_extra "mem"); (case Db => k_extra "datall"); (case ok => k_extra "oks"); (case u => ktr_units))))
  k_with "oks" => (first | exact tmr_ok _ _ | exact (fun _ => one_ok' (row_ok (n := 7) (by simp [kqdOk]) (by decide +kernel) (by decide +kernel) (by decide +kernel))) | (intro d hd; simp only [List.mem_cons, List.not_mem_nil, or_false] at hd; (repeat' (rcases hd with hd | hd)) <;> (subst hd; rfl)) | fail "oks")
  k_with "all" => (first | exact List.forall_mem_nil _ | with_reducible assumption | exact Abv.ne (by with_reducible assumption) | ((with_reducible refine Abv.ne (imm := []) ?_); k_extra "all above") | fail "k_all: no")
  trivial
theorem news_sub {h₀ h : Heap} {L : Addr} {l l' : List (Addr × Obj)} (N : News h₀ L h l) (k : ∀ p ∈ l', p ∈ l) : News h₀ L h l' := fun p hp => N p (k p hp)
theorem lp_fin {h₀ h' : Heap} {L t : Addr} {vs : List Value} {k tk : Nat} {m : Str → Option Value} {imm own all : List (Addr × Obj)} {s₁ : Shared} {v : Value} (F : Fr h₀ L h' m) (N : News h₀ L h' all)
    (hi : ∀ p ∈ imm ++ own, p ∈ all) (hoff : TbOff own imm) (hm : (t, (listOf vs.toArray k : Obj)) ∈ imm) (e1 : m (Str.ofString "many") = some v) :
    LpEnd h₀ L (fun m' nx => (t, (listOf vs.toArray k : Obj)) ∈ nx ∧ (nx = imm ∧ m' (Str.ofString "many") = some v)) own s₁ .next { s₁ with heap := h', toks := tk } :=
  ⟨rfl, h', tk, m, all, imm, rfl, F, N, fun p hp => hi p (List.mem_append_left _ hp), fun p hp => hi p (List.mem_append_right _ hp), hoff, hm, rfl, e1⟩
theorem two_ok : ∀ d ∈ [Dat.list [], Dat.list []], kqdOk 8 d = true := by
  intro d hd
  simp only [List.mem_cons, List.not_mem_nil, or_false] at hd
  rcases hd with rfl | rfl <;> rfl
theorem dead_ok (li : Int) : ∀ d ∈ [lrow li (Str.ofString "dead")], kqdOk 8 d = true := fun _ => one_ok' (row_ok (n := 7) (by simp [kqdOk]) (by decide +kernel) (by decide +kernel) (by decide +kernel))
section
theorem w26 : True := by
  k_with "LpEnd" => ((refine Held.mk ?_))
  k_with "pyIter ref" => ((refine Held.mk ?_))
  k_with "exec For Tuple Call cons nil" => ((k_here; (rename Fr _ _ _ _ => lF'); (with_unfolding_all refine' For_invTF lF' ?_ ?k2; (case k2 => intro _; rfl))))
  k_with "exec For Name Call cons nil" => ((k_here; (rename Fr _ _ _ _ => lF'); (with_unfolding_all refine' For_invVF lF' ?k1 ?k2 ?_; (case k1 => exact rfl); (case k2 => exact rfl); k_whole)))
  k_with "call ref" => ((k_here; (with_reducible show wpAny _ _ (call (Value.ref 111) _) _ _ _); (refine Held.mk ?_)))
  k_with "call ref" => ((k_here; (with_reducible show wpAny _ _ (call (Value.ref 116) _) _ _ _); (refine Held.mk ?_)))
  k_with "call ref" => ((k_here; (with_reducible show wpAny _ _ (call (Value.ref 59) _) _ _ _); (refine Held.mk ?_)))
  k_with "call ref" => ((k_here; (with_reducible show wpAny _ _ (call (Value.ref 54) _) _ _ _); (have mk9 : Mark := by with_reducible assumption); (refine Held.mk ?_)))
  k_with "compareOp NotEq ref ref" => ((k_here; (with_reducible show wpAny _ _ (compareOp CmpOp.NotEq (Value.ref _) (Value.ref _)) _ _ _); (have mk9 : Mark := by with_reducible assumption); (refine Held.mk ?_)))
  trivial
set_option maxRecDepth 100000 in
set_option maxHeartbeats 8000000 in
theorem law_ok : PySem.Challenge.rw_xm0580_01.Holds := hd (by
  k_go0
  all_goals try k_fold
  k_steps
  refine Held.out ?_
  (rename Fr _ _ _ _ => F1)
  (rename News _ _ _ _ => N1)
  (rename IsRange _ _ _ _ _ _ _ _ => R1)
  refine tbr_invG (n := 2) (AsJ _ []) rfl R1 (by decide) (by decide) F1 N1 ⟨_, _, _, _, _, rfl, by assumption, by assumption, by exact rfl⟩ ?turn ?done
  case turn =>
    clear F1 N1 R1
    rintro i k t m₁ nx h tk own hk9 hoff ⟨x, y, tx, ty, n, rfl, hx, hy, e1⟩ F2 N2
    rw [map2 e1] at F2
    simp only [List.cons_append, List.nil_append] at N2
    have hS2 : ∀ p ∈ own, p.1 ≠ _ := fun p hp => hoff p hp _ (.head _)
    k_steps
    refine Held.out ?_
    (rename Fr _ _ _ _ => F3)
    (rename News _ _ _ _ => N3)
    exact as_endT F3 N3 (by k_extra "mem") (by rw [List.nil_append]; k_extra "the subset") hoff (by exact rfl) (by assumption) (by assumption)
  case done =>
    clear F1 N1 R1
    rintro m₁ nx h tk ⟨x, y, tx, ty, n, rfl, hx, hy, e1⟩ F2 N2
    rw [map2' e1] at F2
    have mark : Mark := .mk
    k_steps
    refine Held.out ?_
    k_extra "do asg"
    intro x1 y1 tx1 ty1 n1 h1 tk1 F1 N1 hx1 hy1
    have N0 := news_sub N1 (List.forall_mem_cons.mpr ⟨.head _, List.forall_mem_nil _⟩)
    clear N1
    k_sweep
    k_steps
    refine Held.out ?_
    k_extra "do live"
    intro l3 vs3 k3 tl3 h3 tk3 F3 N3 ab3 hm3 D3
    cases D3
    simp only [List.cons_append, List.nil_append] at N3
    k_sweep
    k_steps
    refine Held.out ?_
    k_extra "do nop"
    intro l4 vs4 k4 tl4 h4 tk4 F4 N4 ab4 hm4 D4
    cases D4
    simp only [List.cons_append, List.nil_append] at N4
    k_sweep
    k_steps
    refine Held.out ?_
    k_dflt refine' ne_same (ds := [.list [], .list []]) ?N ?xa ?Da sub_refl ?xb ?Db two_ok ?u ?_
    case N => k_asm
    case xa => k_extra "mem"
    case xb => k_extra "mem"
    case Da => k_extra "datall"
    case Db => k_extra "datall"
    case u => ktr_units
    k_steps
    refine Held.out ?_
    k_extra "do dead"
    intro l5 vs5 k5 tl5 h5 tk5 F5 N5 ab5 hm5 D5
    simp only [List.cons_append, List.nil_append] at N5
    k_sweep
    k_steps
    refine Held.out ?_
    k_dflt refine' ne_same ?N ?xa ?Da ?sa ?xb ?Db (dead_ok _) ?u ?_
    case N => k_asm
    case Da => exact D5
    case xa => k_extra "mem"
    case sa => k_extra "the subset"
    case xb => k_extra "mem"
    case Db => k_extra "datall"
    case u => ktr_units
    (rename Fr _ _ _ _ => F6)
    (rename News _ _ _ _ => N6)
    have N7 := news_sub (l' := [(_, listOf #[.int _ _, .int _ _] _)]) N6 (List.forall_mem_cons.mpr ⟨by k_extra "mem", List.forall_mem_nil _⟩)
    clear N6
    k_steps
    refine Held.out ?_
    k_extra "do ends"
    intro tms l8 vs8 k8 im8 x8 y8 tx8 ty8 n8 h8 tk8 F8 N8 hx8 hy8 hm8 D8 hf8
    have N9 := news_sub (l' := im8) N8 (fun p hp => .tail _ hp)
    clear N8
    k_sweep
    k_steps
    refine Held.out ?_
    (rename Fr _ _ _ _ => F1)
    (rename News _ _ _ _ => N1)
    refine pair_iter (fun _ m nx => nx = im8 ∧ m (Str.ofString "many") = some _) rfl hm8 F1 N1 ⟨rfl, by exact rfl⟩ ?turn2 ?done2
    case done2 =>
      rintro m₁ nx h tk ⟨rfl, e1⟩ F2 N2
      k_steps
    case turn2 =>
      clear F1 N1
      rintro i v m₁ nx s₁ own hv hoff hmn ⟨rfl, e1⟩ F2 N2
      rw [map2' e1] at F2
      obtain ⟨tm, t1, vr, w1, ws, kt, kw, htm, rfl, hmt, Dr, hmw, Dw⟩ := tm_at D8 hv
      have hfw := hf8 tm htm
      k_steps
      refine Held.out ?_
      k_extra "do tm"
      intro l7 vs7 k7 tl7 h7 tk7 F7 N7 ab7 hm7 D7
      k_sweep
      k_steps
      refine Held.out ?_
      k_dflt refine' ne_same ?N ?xa ?Da ?sa ?xb ?Db (tmr_ok _ _) ?u ?_
      case N => k_asm
      case Da => exact D7
      case xa => k_extra "mem"
      case sa => k_extra "the subset"
      case xb => exact List.mem_append_left _ (List.mem_append_left _ hmw)
      case Db => exact Dw.mono (by k_extra "the subset")
      case u => ktr_units
      k_steps
      refine Held.out ?_
      (rename Fr _ _ _ _ => F3)
      (rename News _ _ _ _ => N3)
      exact lp_fin F3 N3 (by k_extra "the subset") hoff hm8 (by exact rfl))
end
end
end Mine
set_option maxRecDepth 100000 in
theorem PySem.Challenge.cw_xm0580_01_holds : PySem.Challenge.rw_xm0580_01.Holds := by
  exact Mine.law_ok
