import PyProof.Rows.All
import Wide.All
import OpenK.AllK
import Wide.FinOn
import PySem.Challenge.RW_pb0198_01
open PySem PySem.W PyProof.Rows
set_option Elab.async false
set_option maxRecDepth 100000
set_option linter.all false
set_option compiler.extract_closed false
namespace Mine
noncomputable def topRunG (okS : Nat → Option Value → Thread → Bool) (st : SharedT → Thread → Option (SharedT × Thread)) (n₀ : Nat) (ann : Option Value) : Nat → SharedT → Thread → Option SharedT
  | 0, _, _ => none
  | n + 1, s, t => match through t with
    | true => some s
    | false => match okS n₀ ann t with
      | false => none
      | true => match st s t with
        | some (s', t') => topRunG okS st n₀ ann n s' t'
        | none => none
theorem topRunG_of {tb : String → Option Builtin} {p : Program} {w : World} {n₀ : Nat} {ann : Option Value} : ∀ {n : Nat} {s s' : SharedT} {t : Thread}, topRunG stepOk (stepT (denote tb) p w) n₀ ann n s t = some s' → topRun tb p w n₀ ann n s.abs t = some s'.abs
  | 0, _, _, _, h => by cases h
  | n + 1, s, s', t, h => by
    unfold topRunG at h
    unfold topRun
    cases ht : through t with
    | true => rw [ht] at h; cases h; rfl
    | false =>
      rw [ht] at h
      cases hk : stepOk n₀ ann t with
      | false => rw [hk] at h; cases h
      | true =>
        rw [hk] at h
        cases hs : stepT (denote tb) p w s t with
        | none => rw [hs] at h; cases h
        | some r => obtain ⟨s₂, t₂⟩ := r; rw [hs] at h; rw [stepT_spec hs]; exact topRunG_of h
noncomputable abbrev quickRun (p : Program) (w : World) : Nat → Option Value → Nat → SharedT → Thread → Option SharedT :=
  topRunG PySem.W.Fast.tw6613529449190102663 (PySem.W.Fast.tw10156331382660048174 (PySem.W.Fast.tw11892475500146522536 PySem.W.Fast.tw14364793385576792824) p w)
theorem quick_eq (p : Program) (w : World) : quickRun p w = topRunG stepOk (stepT (denote treeTable) p w) := by
  unfold quickRun
  rw [PySem.W.Fast.te6613529449190102663, PySem.W.Fast.te10156331382660048174, PySem.W.Fast.te11892475500146522536, PySem.W.Fast.te14364793385576792824]
noncomputable def layOut (t : BT) : Nat → List Obj → List Obj
  | 0, acc => acc
  | i + 1, acc => layOut t i ((t.get i).getD default :: acc)
theorem layOut_eq (t : BT) : ∀ (n : Nat) (acc : List Obj), layOut t n acc = t.list n ++ acc
  | 0, acc => by unfold layOut BT.list; simp
  | n + 1, acc => by
    rw [layOut, layOut_eq t n]
    unfold BT.list
    rw [List.range_succ, List.map_append, List.append_assoc]
    rfl
noncomputable def flat (s : SharedT) : Shared := ⟨⟨Array.mk (layOut s.tree s.n []), s.life⟩, s.gens, s.drawn, s.toks, s.os⟩
theorem flat_eq (s : SharedT) : flat s = s.abs := by
  unfold flat SharedT.abs absHeap
  rw [layOut_eq, List.append_nil]
noncomputable def treeOf : List Obj → Nat → BT → BT
  | [], _, t => t
  | o :: r, i, t => treeOf r (i + 1) (t.ins i o)
noncomputable def boot_T (P : Params) : BT := treeOf (boot_heap P).objs.toList 0 .nil
theorem boot_abs (P : Params) : absHeap (boot_T P) 11 (boot_heap P).life = boot_heap P := by kernel_rfl
theorem boot_size (P : Params) : ((boot_heap P).isNs mainGlobals && (Array.mk [] : Array GenState).size == 0, (boot_heap P).objs.size, (boot_heap P).nsMap mainGlobals "__annotations__") = (true, 11, some (.ref 6)) := by kernel_rfl
def vw : Program := view PySem.Challenge.pw_pb0198_01 [0, 2, 3, 4, 5, 7, 8, 9, 10, 11, 12, 13, 14, 15, 16, 18, 19, 20, 22, 23, 24, 26, 27, 29, 30, 31, 32, 33, 34, 35, 36, 37, 38, 39, 40, 41, 42, 43, 44, 45, 46, 47, 48, 50, 52, 53, 54, 55, 57, 58, 59, 60, 61]
def lookA {α : Type} (p : Program) (h₀ : Heap) (Yf : Shared → α) (s : Shared) : Bool × α := (staticsOk (importedModules p.main.body) h₀ s.heap && namesBound p s.heap && gensDone s && laidKept h₀ s.heap, Yf s)
def lookB (q : Program) (s : Shared) := (seen ((recsOf q).map (·.name)) (ownsOf q) [] { s with gens := #[] }, s.heap.bltView, tabsOk q s)
def lookC (q : Program) (loose mods : List Str) (Xt : Shared → Bool) (g0 : Bool) (s : Shared) := (s.heap.keysOk (looseW q loose) ((recsOf q).map (·.name)) ((litsOf q).map (·.1)) ((clssOf q (looseW q loose)).map (·.name)) && s.heap.accountedOkI mods && s.heap.isNs mainGlobals && s.heap.isNs builtinsNs && tablesOk q s.heap && Xt s && (if g0 then s.gens.size == 0 else !leftWithCleanup s.gens), pinSeenD q (drecsOf q) s, plainSeenE q (looseW q loose) s)
def lookD (q : Program) (loose : List Str) (s : Shared) := (plainSeenD q loose s, wideSeen q s, clsSeenW q loose s)
noncomputable abbrev endOf (p : Program) (w : World) (os : OsState) : Option SharedT :=
  quickRun p w 11 (some (.ref 6)) 7848 ⟨boot_T w.params, 11, (boot_heap w.params).life, Array.mk [], boot_drawn, boot_toks, os⟩ (topStub p)
theorem left_run {p q : Program} {loose : List Str} {Xt : Shared → Bool} {α : Type} {Yf : Shared → α} {Ya : World → α} {g0 : Bool}
    (open_ : ∀ w : World, (fencedOpening treeTable p w 7848).map (fun s => (s.heap, s.gens, s.drawn, s.toks)) = some (boot_heap w.params, Array.mk [], boot_drawn, boot_toks))
    (runA : ∀ w : World, (fun os => (endOf p w os).map fun s => lookA p (boot_heap w.params) Yf (flat s)) = fun _ => some (true, Ya w))
    (runB : ∀ w : World, (fun os => (endOf p w os).map fun s => lookB q (flat s)) = fun _ => some (expectedOf q, bltViewBooted, true))
    (runC : ∀ w : World, (fun os => (endOf p w os).map fun s => lookC q loose (importedModules p.main.body) Xt g0 (flat s)) = fun _ => some (true, pinGoodD (drecsOf q), plainGoodE q (looseW q loose)))
    (runD : ∀ w : World, (fun os => (endOf p w os).map fun s => lookD q loose (flat s)) = fun _ => some (plainGoodD q loose, wideGood q, clsGoodW q loose)) : LeftO p q loose Xt Yf Ya 7848 g0 := fun w => by
  obtain ⟨⟨h, gs, d, k, os⟩, e, e'⟩ := Option.map_eq_some_iff.mp (open_ w)
  obtain ⟨rfl, rfl, rfl, rfl⟩ : h = boot_heap w.params ∧ gs = Array.mk [] ∧ d = boot_drawn ∧ k = boot_toks := by simpa using e'
  obtain ⟨s, hs, hA⟩ := Option.map_eq_some_iff.mp (congrFun (runA w) os)
  have hB := congrFun (runB w) os
  have hC := congrFun (runC w) os
  have hD := congrFun (runD w) os
  rw [hs] at hB hC hD
  have hB := Option.some.inj hB
  have hC := Option.some.inj hC
  have hD := Option.some.inj hD
  dsimp only at hB hC hD
  rw [flat_eq] at hA hB hC hD
  obtain ⟨l1, l3⟩ := Prod.mk.inj hA
  obtain ⟨b1, hB⟩ := Prod.mk.inj hB
  obtain ⟨b2, b3⟩ := Prod.mk.inj hB
  obtain ⟨c1, hC⟩ := Prod.mk.inj hC
  obtain ⟨c2, c3⟩ := Prod.mk.inj hC
  obtain ⟨d1, hD⟩ := Prod.mk.inj hD
  obtain ⟨d2, d3⟩ := Prod.mk.inj hD
  have l2 : openSeen q loose (importedModules p.main.body) Xt g0 s.abs = openGood q loose := by
    unfold openSeen openGood
    rw [b1, b2, c1, b3, c2, c3, d1, d2, d3]
  unfold endOf at hs
  rw [quick_eq] at hs
  have r := topRunG_of hs
  unfold SharedT.abs at r
  dsimp only at r
  rw [boot_abs] at r
  have z : ((boot_heap w.params).isNs mainGlobals && (Array.mk [] : Array GenState).size == 0, (boot_heap w.params).objs.size, (boot_heap w.params).nsMap mainGlobals "__annotations__") = (true, 11, some (.ref 6)) := boot_size w.params
  obtain ⟨z1, z⟩ := Prod.mk.inj z
  obtain ⟨z2, z3⟩ := Prod.mk.inj z
  have t : topFrom treeTable p w 7848 ⟨boot_heap w.params, Array.mk [], boot_drawn, boot_toks, os⟩ = some s.abs := by
    unfold topFrom
    dsimp only
    rw [z1, z2, z3, r]
    show (match staticsOk (importedModules p.main.body) (boot_heap w.params) s.abs.heap && namesBound p s.abs.heap && gensDone s.abs && laidKept (boot_heap w.params) s.abs.heap with | true => _ | false => _) = _
    rw [l1]
    rfl
  unfold openEnds
  rw [e]
  show (topFrom treeTable p w 7848 _).map _ = _
  rw [t]
  exact congrArg some (Prod.ext l2 l3)
abbrev xt : Shared → Bool := fun s => xlAt vw [] s && recOk (RowW.records PySem.Challenge.rw_pb0198_01.row.toRowW) s
theorem run_B (w : World) : (fun os => (endOf PySem.Challenge.rw_pb0198_01.row.toRowW.prog w os).map fun s => lookB vw (flat s)) = fun _ => some (expectedOf vw, bltViewBooted, true) := by kernel_rfl
theorem run_C (w : World) : (fun os => (endOf PySem.Challenge.rw_pb0198_01.row.toRowW.prog w os).map fun s => lookC vw [] (importedModules PySem.Challenge.rw_pb0198_01.row.toRowW.prog.main.body) xt true (flat s)) = fun _ => some (true, pinGoodD (drecsOf vw), plainGoodE vw (looseW vw [])) := by kernel_rfl
theorem run_D (w : World) : (fun os => (endOf PySem.Challenge.rw_pb0198_01.row.toRowW.prog w os).map fun s => lookD vw [] (flat s)) = fun _ => some (plainGoodD vw [], wideGood vw, clsGoodW vw []) := by kernel_rfl
theorem row_said : PySem.Challenge.rw_pb0198_01.row.wellSaid = true := by
  unfold OpenRow.wellSaid OpenRow.partSaid looksOpen
  repeat' (with_reducible refine look_both ?_ ?_)
  all_goals decide +kernel
theorem law_said : PySem.Challenge.rw_pb0198_01.wellSaid = true := by
  unfold OpenLaw.wellSaid
  repeat' (with_reducible refine look_both ?_ ?_)
  all_goals first | (with_reducible exact row_said) | decide +kernel
local macro_rules | `(tactic| o_law) => `(tactic| refine holds_law law_said fun said => ?_)
local macro_rules | `(tactic| o_head $H) => `(tactic| (
  refine holds_open (q := vw) (loose := []) (Xt := xt) (XP := XL vw []) (Yf := Hook.obs $H) (Ya := Hook.val $H) (YP := Hook.says $H) (N := 7848) ?hl (Hook.of $H) (Hook.keeps $H) (fun s e => xl_of s (Bool.and_eq_true_iff.mp e).1) XL.keeps (by rfl) (by rfl) (by rfl) (fun s e => recFacts_of (Bool.and_eq_true_iff.mp e).2) (by rfl) row_said (by decide +kernel) ⟨rfl, rfl, rfl, rfl, rfl, by decide +kernel⟩ ?hw ?hc
  (case hl => exact left_run (boot_open (by rfl) (by decide) (fun s => rfl)) (fun w => by kernel_rfl) run_B run_C run_D)))
set_option maxHeartbeats 8000000 in
open_top hd for PySem.Challenge.rw_pb0198_01

inductive AV where
  | none
  | bool (b : Bool)
  | int (k : Int)
  | str (s : Str)
  | ref (a : Addr)
  | ty (n : String)
  | bi (n : String)

inductive Is : AV → Value → Prop
  | none : Is .none .none
  | bool (b : Bool) : Is (.bool b) (.bool b)
  | int (k : Int) (t : Tok) : Is (.int k) (.int k t)
  | str (s : Str) (t : Tok) : Is (.str s) (.str s t)
  | ref (a : Addr) : Is (.ref a) (.ref a)
  | ty (n : String) : Is (.ty n) (.type n)
  | bi (n : String) : Is (.bi n) (.builtin n)

inductive All2 {α β : Type} (R : α → β → Prop) : List α → List β → Prop
  | nil : All2 R [] []
  | cons {a b as bs} : R a b → All2 R as bs → All2 R (a :: as) (b :: bs)

inductive AO where
  | list (xs : List AV)
  | tup (xs : List AV)
  | inst (C dx : Addr)
  | ns (fs : List (Str × AV))
  | dict (kvs : List (Int × AV)) (ep : Nat)
  | cell (v : Option AV)
  | locals (ρ : List (Str × AV))
  | rng (n : Int)
  | pred (P : Obj → Prop)

abbrev PP : Program := PySem.Challenge.rw_pb0198_01.row.prog
def NsObj (o : Obj) (m : Str → Option Value) : Prop := ∃ es ep, o.data = .dict es ep ∧ StrKeys es ∧ ∀ name, nsFind es name = m name
noncomputable abbrev KK (w : World) : Frag := Mine.hd.heap_1 w.params

def IsE (f : Str × AV) (e : DictEntry) : Prop := (∃ t, e.key = .str f.1 t) ∧ Is f.2 e.val

def IsO (w : World) : AO → Obj → Prop
  | .list xs, o => ∃ vs n, o = listOf (List.toArray vs) n ∧ All2 Is xs vs
  | .tup xs, o => ∃ vs n, o = { cls := .type "tuple", data := .seq (List.toArray vs) n } ∧ All2 Is xs vs
  | .inst C dx, o => o = instObj C dx
  | .ns fs, o => ∃ es n, o = dictOf es n ∧ All2 IsE fs es
  | .dict kvs ep, o => ∃ kv' es, o.ExactDict ∧ o.data = .dict es ep ∧ KeysOf (intKind PP w) es ∧ Pairs (intKind PP w) es.toList kv' ∧ (kv'.map (·.1)).Nodup ∧ All2 (fun (p : Int × AV) (q : Int × Value) => p.1 = q.1 ∧ Is p.2 q.2) kvs kv'
  | .cell v, o => ∃ u, o.data = .cell u ∧ (match v, u with | some a, some b => Is a b | none, none => True | _, _ => False)
  | .locals ρ, o => ∃ m, NsObj o m ∧ ∀ x a, ρ.lookup x = some a → ∃ v, m x = some v ∧ Is a v
  | .rng n, o => ∃ t u v, o = { cls := .type "range", data := .fields #[.int 0 t, .int n u, .int 1 v] }
  | .pred P, o => P o

abbrev AHeap := Addr → Option AO
abbrev Loc := List (Str × AV)

def AHeap.set (H : AHeap) (a : Addr) (o : AO) : AHeap := fun b => if b = a then some o else H b
theorem AHeap.set_self (H : AHeap) (a : Addr) (o : AO) : H.set a o a = some o := by simp [AHeap.set]
theorem AHeap.set_ne (H : AHeap) {a b : Addr} (o : AO) (h : b ≠ a) : H.set a o b = H b := by simp [AHeap.set, h]

structure Cx where
  w : World
  A : Around
  cn : Str
  cs : Scope
  L : Addr
  a : Addr
  ccd : Value
  cl : List (Str × Addr)
  h₀ : Heap
  z : Addr

abbrev Cx.env (c : Cx) : Env := envX c.cn c.cs c.L c.a c.ccd c.cl

structure Cx.OK (c : Cx) (d : Nat) : Prop where
  below : ∃ A₀ base outer, Below A₀ base outer c.h₀ ∧ c.A.frames = some (c.env :: outer)
  top : ∃ mg mb mean, Top Mine.vw (looseW Mine.vw []) mean mg mb c.h₀
  k : (Mine.hd.heap_1 c.w.params).In c.h₀
  kind : c.cs.kind = .function
  depth : c.A.depth + 2 * d ≤ 900
  units : c.A.units + 20 * d ≤ 9000
  hh : c.A.handled = none

structure Rest (s s' : Shared) : Prop where
  gens : s'.gens = s.gens
  drawn : s'.drawn = s.drawn
  os : s'.os = s.os

theorem Rest.refl (s : Shared) : Rest s s := ⟨rfl, rfl, rfl⟩
theorem Rest.trans {a b c : Shared} (x : Rest a b) (y : Rest b c) : Rest a c := ⟨y.1.trans x.1, y.2.trans x.2, y.3.trans x.3⟩

def Knows (σ : Loc) (m : Str → Option Value) : Prop := ∀ x a, σ.lookup x = some a → ∃ v, m x = some v ∧ Is a v

structure StN (c : Cx) (σ : Loc) (H : AHeap) (s : Shared) (m : Str → Option Value) (news : List (Addr × Obj)) : Prop where
  F : Fr c.h₀ c.L s.heap m
  N : News c.h₀ c.L s.heap news
  nd : (news.map (·.1)).Nodup
  loc : Knows σ m
  low : ∀ p ∈ news, sysModules < p.1
  ne : ∃ q ∈ news, q.1 = c.z
  obj : ∀ a o, H a = some o → ∃ ob, (a, ob) ∈ news ∧ IsO c.w o ob

def St (c : Cx) (σ : Loc) (H : AHeap) (s : Shared) : Prop := ∃ m news, StN c σ H s m news

def NoE : Value → Shared → Prop := fun _ _ => False

inductive PostV (c : Cx) (σ : Loc) (Q : AV → AHeap → Prop) (s : Shared) (v : Value) (s' : Shared) : Prop
  | mk (av : AV) (H' : AHeap) (i : Is av v) (S : St c σ H' s') (r : Rest s s') (q : Q av H')

def WV (c : Cx) (t : Sem Value) (σ : Loc) (H : AHeap) (Q : AV → AHeap → Prop) : Prop :=
  ∀ s, St c σ H s → wpAny (model PP c.w) c.A t (PostV c σ Q s) NoE s

def WE (c : Cx) (env : Env) (e : Expr) (σ : Loc) (H : AHeap) (Q : AV → AHeap → Prop) : Prop := WV c (eval e env) σ H Q

theorem WV.mono {c t σ H} {Q Q' : AV → AHeap → Prop} (h : WV c t σ H Q) (hq : ∀ v H', Q v H' → Q' v H') : WV c t σ H Q' := fun s S =>
  wpAny_mono (h s S) (fun _ _ ⟨a, H', i, S', r, q⟩ => ⟨a, H', i, S', r, hq _ _ q⟩) fun _ _ e => e

theorem PostV.trans {c σ} {Q : AV → AHeap → Prop} {s s' s'' : Shared} {v : Value} (r : Rest s s') (h : PostV c σ Q s' v s'') : PostV c σ Q s v s'' :=
  let ⟨a, H', i, S', r', q⟩ := h; ⟨a, H', i, S', r.trans r', q⟩

theorem seq2 {c : Cx} {t : Sem Value} {σ H} {Q : AV → AHeap → Prop} {s : Shared} {R : Value → Shared → Prop} (S : St c σ H s)
    (h : WV c t σ H Q) (hk : ∀ v s' a H', Is a v → St c σ H' s' → Rest s s' → Q a H' → R v s') : wpAny (model PP c.w) c.A t R NoE s :=
  wpAny_mono (h s S) (fun v s' ⟨a, H', i, S', r, q⟩ => hk v s' a H' i S' r q) fun _ _ e => e

theorem all2_length {α β : Type} {R : α → β → Prop} {as : List α} {bs : List β} (h : All2 R as bs) : as.length = bs.length := by
  induction h with
  | nil => rfl
  | cons _ _ ih => simp [ih]
theorem all2_get {α β : Type} {R : α → β → Prop} {as : List α} {bs : List β} (h : All2 R as bs) : ∀ (i : Nat) (a : α), as[i]? = some a → ∃ b, bs[i]? = some b ∧ R a b := by
  induction h with
  | nil => intro i a e; simp at e
  | cons hr _ ih =>
    intro i a e
    cases i with
    | zero => simp at e; subst e; exact ⟨_, by simp, hr⟩
    | succ i => simpa using ih i a (by simpa using e)
theorem all2_append {α β : Type} {R : α → β → Prop} {as as' : List α} {bs bs' : List β} (h : All2 R as bs) (h' : All2 R as' bs') : All2 R (as ++ as') (bs ++ bs') := by
  induction h with
  | nil => exact h'
  | cons hr _ ih => exact .cons hr ih

noncomputable def updL (d : Addr) (o' : Obj) : List (Addr × Obj) → List (Addr × Obj)
  | [] => []
  | p :: r => if p.1 = d then (d, o') :: r else p :: updL d o' r

theorem updL_map (d : Addr) (o' : Obj) : ∀ l : List (Addr × Obj), (updL d o' l).map (·.1) = l.map (·.1)
  | [] => rfl
  | p :: r => by
    unfold updL
    by_cases h : p.1 = d
    · simp [h]
    · simp [h, updL_map d o' r]
theorem updL_upd {d : Addr} {o o' : Obj} : ∀ {l : List (Addr × Obj)}, (l.map (·.1)).Nodup → (d, o) ∈ l → Upd d o o' l (updL d o' l)
  | p :: r, hn, hm => by
    rw [List.map_cons, List.nodup_cons] at hn
    unfold updL
    by_cases h : p.1 = d
    · rw [if_pos h]
      have hp : p = (d, o) := by
        rcases List.mem_cons.mp hm with e | e
        · exact e.symm
        · exact absurd (List.mem_map_of_mem (f := Prod.fst) e) (by rw [← h]; exact hn.1)
      subst hp
      exact .head fun q hq e => hn.1 (List.mem_map.mpr ⟨q, hq, e⟩)
    · rw [if_neg h]
      refine .tail h (updL_upd hn.2 ?_)
      rcases List.mem_cons.mp hm with e | e
      · exact absurd (by rw [← e]) h
      · exact e
theorem updL_self {d : Addr} {o o' : Obj} : ∀ {l : List (Addr × Obj)}, (d, o) ∈ l → (d, o') ∈ updL d o' l
  | p :: r, hm => by
    unfold updL
    by_cases h : p.1 = d
    · rw [if_pos h]; exact .head _
    · rw [if_neg h]
      rcases List.mem_cons.mp hm with e | e
      · exact absurd (by rw [← e]) h
      · exact .tail _ (updL_self e)
theorem updL_ne {d a : Addr} {o' ob : Obj} (hne : a ≠ d) : ∀ {l : List (Addr × Obj)}, (a, ob) ∈ l → (a, ob) ∈ updL d o' l
  | p :: r, hm => by
    unfold updL
    by_cases h : p.1 = d
    · rw [if_pos h]
      rcases List.mem_cons.mp hm with e | e
      · exact absurd (by rw [← e] at h; exact h) hne
      · exact .tail _ e
    · rw [if_neg h]
      rcases List.mem_cons.mp hm with e | e
      · rw [e]; exact .head _
      · exact .tail _ (updL_ne hne e)

section
variable {c : Cx} {σ : Loc} {H : AHeap} {s : Shared} {m : Str → Option Value} {news : List (Addr × Obj)}

theorem StN.fresh (S : StN c σ H s m news) {l : Addr} (hl : ∀ p ∈ news, p.1 < l) : H l = none := by
  cases e : H l with
  | none => rfl
  | some o =>
    obtain ⟨ob, hm, _⟩ := S.obj l o e
    exact absurd (hl _ hm) (Nat.lt_irrefl _)

theorem StN.alloc (S : StN c σ H s m news) {h' : Heap} {tk : Nat} {l : Addr} {ob : Obj} {o : AO} (F' : Fr c.h₀ c.L h' m) (N' : News c.h₀ c.L h' ((l, ob) :: news)) (hl : ∀ p ∈ news, p.1 < l) (ho : IsO c.w o ob) :
    StN c σ (H.set l o) { s with heap := h', toks := tk } m ((l, ob) :: news) where
  F := F'
  N := N'
  nd := by
    rw [List.map_cons, List.nodup_cons]
    refine ⟨fun hm => ?_, S.nd⟩
    obtain ⟨p, hp, e⟩ := List.mem_map.mp hm
    exact absurd (hl p hp) (by rw [e]; exact Nat.lt_irrefl _)
  loc := S.loc
  low := by
    obtain ⟨q, hq, _⟩ := S.ne
    intro p hp
    rcases List.mem_cons.mp hp with rfl | hp
    · exact Nat.lt_trans (S.low q hq) (hl q hq)
    · exact S.low p hp
  ne := let ⟨q, hq, e⟩ := S.ne; ⟨q, .tail _ hq, e⟩
  obj := fun a o' e => by
    by_cases h : a = l
    · subst h; rw [AHeap.set_self] at e; cases e; exact ⟨ob, .head _, ho⟩
    · rw [AHeap.set_ne _ _ h] at e
      obtain ⟨ob', hm, r⟩ := S.obj a o' e
      exact ⟨ob', .tail _ hm, r⟩

theorem StN.upd (S : StN c σ H s m news) {h' : Heap} {tk : Nat} {d : Addr} {ob o' : Obj} {o : AO} (hm : (d, ob) ∈ news) (F' : Fr c.h₀ c.L h' m) (N' : News c.h₀ c.L h' (updL d o' news)) (ho : IsO c.w o o') :
    StN c σ (H.set d o) { s with heap := h', toks := tk } m (updL d o' news) where
  F := F'
  N := N'
  nd := by rw [updL_map]; exact S.nd
  loc := S.loc
  low := fun p hp => by
    have : p.1 ∈ news.map (·.1) := by rw [← updL_map d o']; exact List.mem_map_of_mem hp
    obtain ⟨q, hq, e⟩ := List.mem_map.mp this
    rw [← e]; exact S.low q hq
  ne := by
    obtain ⟨q, hq, e⟩ := S.ne
    have : q.1 ∈ (updL d o' news).map (·.1) := by rw [updL_map]; exact List.mem_map_of_mem hq
    obtain ⟨q', hq', e'⟩ := List.mem_map.mp this
    exact ⟨q', hq', e'.trans e⟩
  obj := fun a ao e => by
    by_cases h : a = d
    · subst h; rw [AHeap.set_self] at e; cases e; exact ⟨o', updL_self hm, ho⟩
    · rw [AHeap.set_ne _ _ h] at e
      obtain ⟨ob', hm', r⟩ := S.obj a ao e
      exact ⟨ob', updL_ne h hm', r⟩

theorem St.toks (S : St c σ H s) (tk : Nat) : St c σ H { s with toks := tk } :=
  let ⟨m, news, S⟩ := S; ⟨m, news, S.F, S.N, S.nd, S.loc, S.low, S.ne, S.obj⟩

theorem Rest.of (h : Heap) (tk : Nat) : Rest s { s with heap := h, toks := tk } := ⟨rfl, rfl, rfl⟩

theorem St.keeps (S : St c σ H s) {h' : Heap} {tk : Nat} (hk : ∀ b o, s.heap.get? b = some o → h'.get? b = some o) : St c σ H { s with heap := h', toks := tk } :=
  let ⟨m, news, S⟩ := S; ⟨m, news, S.F.keeps hk, S.N.grown hk, S.nd, S.loc, S.low, S.ne, S.obj⟩
theorem St.weaken (S : St c σ H s) {σ' : Loc} {H' : AHeap} (hσ : ∀ x a, σ'.lookup x = some a → σ.lookup x = some a) (hH : ∀ a o, H' a = some o → H a = some o) : St c σ' H' s :=
  let ⟨m, news, S⟩ := S; ⟨m, news, S.F, S.N, S.nd, fun x a e => S.loc x a (hσ x a e), S.low, S.ne, fun a o e => S.obj a o (hH a o e)⟩
end

section
variable {c : Cx} {env : Env} {σ : Loc} {H : AHeap} {Q : AV → AHeap → Prop}

theorem WV.leaf {t : Sem Value} {av : AV} (q : Q av H)
    (h : ∀ s (R : Value → Shared → Prop), St c σ H s → (∀ v tk, Is av v → R v { s with toks := tk }) → wpAny (model PP c.w) c.A t R NoE s) : WV c t σ H Q :=
  fun s S => h s _ S fun v tk i => ⟨av, H, i, S.toks tk, Rest.of s.heap tk, q⟩

theorem E_int {k x pos} (q : Q (.int k) H) : WE c env (.Constant (.int k) x pos) σ H Q := WV.leaf q fun s R _ r => wpAny_Constant_int (r _ _ (.int k _))
theorem E_bool {k x pos} (q : Q (.bool k) H) : WE c env (.Constant (.bool k) x pos) σ H Q := WV.leaf q fun s R _ r => Constant_bool (r _ s.toks (.bool k))
theorem E_none {x pos} (q : Q .none H) : WE c env (.Constant .none x pos) σ H Q := WV.leaf q fun s R _ r => Constant_none (r _ s.toks .none)
theorem E_str {k x pos} (q : Q (.str k) H) : WE c env (.Constant (.str k) x pos) σ H Q := WV.leaf q fun s R _ r => wpAny_Constant_str (r _ _ (.str k _))

theorem E_local {x pos a} (hc : c.cs.kind = .function) (hx : c.env.kindOf x = some .local) (e : σ.lookup x = some a) (q : Q a H) (hd : (x == ("__debug__" : Str)) = false := by decide) : WE c c.env (.Name x pos) σ H Q :=
  WV.leaf q fun s R S r => by
    obtain ⟨m, news, S⟩ := S
    obtain ⟨v, hv, i⟩ := S.loc x a e
    exact nameX_L S.F hv (r _ s.toks i) hc hx hd
theorem E_cell {x pos a ca} (hc : c.cs.kind = .function) (hx : c.env.kindOf x = some .cell) (hl : c.cl.lookup x = some ca) (e : H ca = some (.cell (some a))) (q : Q a H) (hd : (x == ("__debug__" : Str)) = false := by decide) : WE c c.env (.Name x pos) σ H Q :=
  WV.leaf q fun s R S r => by
    obtain ⟨m, news, S⟩ := S
    obtain ⟨ob, hm, u, hu, i⟩ := S.obj ca _ e
    cases u with
    | none => exact i.elim
    | some v => exact nameX_C S.N hl hm hu (r _ s.toks i) hc hx hd
theorem E_global {d x pos v a} (ok : c.OK d) (hg : env.globals = mainGlobals) (hc : env.scope.kind = .function) (hx : env.kindOf x = some .globalImplicit) (e : nsIn (Mine.hd.heap_1 c.w.params) mainGlobals x = some (some v)) (i : Is a v) (q : Q a H)
    (hd : (x == ("__debug__" : Str)) = false := by decide) : WE c env (.Name x pos) σ H Q :=
  WV.leaf q fun s R S r => by
    obtain ⟨m, news, S⟩ := S
    obtain ⟨mg, mb, mean, T⟩ := ok.top
    exact nameG_K S.F ok.k (topRead_of T) e (r _ s.toks i) hg hc hx hd
theorem E_builtin {d x pos v a} (ok : c.OK d) (hg : env.globals = mainGlobals) (hbt : env.builtins = builtinsNs) (hc : env.scope.kind = .function) (hx : env.kindOf x = some .globalImplicit) (e : nsIn (Mine.hd.heap_1 c.w.params) mainGlobals x = some none) (hb : bootBuiltins x = some v) (hn : x ≠ "__name__") (i : Is a v) (q : Q a H)
    (hd : (x == ("__debug__" : Str)) = false := by decide) : WE c env (.Name x pos) σ H Q :=
  WV.leaf q fun s R S r => by
    obtain ⟨m, news, S⟩ := S
    obtain ⟨mg, mb, mean, T⟩ := ok.top
    refine Calls.Name_function_global hc hx (Calls.loadGlobal_builtin (by rw [hg]; exact (topRead_of T).g.keeps S.F.keep) (mg_none_of ok.k (topRead_of T).g e) (by rw [hbt]; exact (topRead_of T).b.keeps S.F.keep) (((topRead_of T).builtins x hn).trans hb) (r _ s.toks i)) hd

def WO2 (c : Cx) (op : Operator) (a b : AV) (σ : Loc) (H : AHeap) (Q : AV → AHeap → Prop) : Prop := ∀ va vb, Is a va → Is b vb → WV c (binaryOp op va vb) σ H Q
def WC2 (c : Cx) (op : CmpOp) (a b : AV) (σ : Loc) (H : AHeap) (Q : AV → AHeap → Prop) : Prop := ∀ va vb, Is a va → Is b vb → WV c (compareOp op va vb) σ H Q
def WU1 (c : Cx) (op : UnaryOp) (a : AV) (σ : Loc) (H : AHeap) (Q : AV → AHeap → Prop) : Prop := ∀ va, Is a va → WV c (unaryOp op va) σ H Q
inductive PostB (c : Cx) (σ : Loc) (Q : Bool → AHeap → Prop) (s : Shared) (b : Bool) (s' : Shared) : Prop
  | mk (H' : AHeap) (S : St c σ H' s') (r : Rest s s') (q : Q b H')
def WT1 (c : Cx) (a : AV) (σ : Loc) (H : AHeap) (Q : Bool → AHeap → Prop) : Prop := ∀ va, Is a va → ∀ s, St c σ H s → wpAny (model PP c.w) c.A (truthy va) (PostB c σ Q s) NoE s
def WB (c : Cx) (env : Env) (e : Expr) (σ : Loc) (H : AHeap) (Q : Bool → AHeap → Prop) : Prop := ∀ s, St c σ H s → wpAny (model PP c.w) c.A (isTrue e env (eval e env)) (PostB c σ Q s) NoE s
theorem PostB.trans {Q : Bool → AHeap → Prop} {s s' s'' : Shared} {v : Bool} (r : Rest s s') (h : PostB c σ Q s' v s'') : PostB c σ Q s v s'' :=
  let ⟨H', S', r', q⟩ := h; ⟨H', S', r.trans r', q⟩

theorem E_bin {l op r pos} (h : WE c env l σ H fun a H1 => WE c env r σ H1 fun b H2 => WO2 c op a b σ H2 Q) : WE c env (.BinOp l op r pos) σ H Q := fun s S =>
  wpAny_BinOp (seq2 S h fun va s1 a H1 ia S1 r1 h1 => seq2 S1 h1 fun vb s2 b H2 ib S2 r2 h2 => wpAny_mono (h2 va vb ia ib s2 S2) (fun _ _ p => p.trans (r1.trans r2)) fun _ _ e => e)
theorem E_un {op x pos} (h : WE c env x σ H fun a H1 => WU1 c op a σ H1 Q) : WE c env (.UnaryOp op x pos) σ H Q := fun s S =>
  UnaryOp_ (seq2 S h fun va s1 a H1 ia S1 r1 h1 => wpAny_mono (h1 va ia s1 S1) (fun _ _ p => p.trans r1) fun _ _ e => e)
theorem E_cmp {l op r pos} (h : WE c env l σ H fun a H1 => WE c env r σ H1 fun b H2 => WC2 c op a b σ H2 Q) (hm : behindInMarks op r = false := by with_unfolding_all rfl) : WE c env (.Compare l [op] [r] pos) σ H Q := fun s S =>
  wpAny_Compare1 (seq2 S h fun va s1 a H1 ia S1 r1 h1 => seq2 S1 h1 fun vb s2 b H2 ib S2 r2 h2 => wpAny_mono (h2 va vb ia ib s2 S2) (fun _ _ p => p.trans (r1.trans r2)) fun _ _ e => e) hm

theorem O_add {x y} (q : Q (.int (x + y)) H) : WO2 c .Add (.int x) (.int y) σ H Q := fun _ _ i j => by
  cases i; cases j; exact WV.leaf q fun s R _ r => P.add_int (r _ _ (.int _ _))
theorem O_sub {x y} (q : Q (.int (x - y)) H) : WO2 c .Sub (.int x) (.int y) σ H Q := fun _ _ i j => by
  cases i; cases j; exact WV.leaf q fun s R _ r => P.sub_int (r _ _ (.int _ _))
theorem O_mul {x y} (hm : IntMulOk x y) (q : Q (.int (x * y)) H) : WO2 c .Mult (.int x) (.int y) σ H Q := fun _ _ i j => by
  cases i; cases j; exact WV.leaf q fun s R _ r => P.mul_int (r _ _ (.int _ _)) hm
theorem O_div {x y} (hy : y ≠ 0) (hp : Builtin.divisionGoesByPylong x y = false) (q : Q (.int (x.fdiv y)) H) : WO2 c .FloorDiv (.int x) (.int y) σ H Q := fun _ _ i j => by
  cases i; cases j; exact WV.leaf q fun s R _ r => floordiv_int hy (r _ _ (.int _ _)) (.inl hp)
theorem O_mod {x y} (hy : y ≠ 0) (q : Q (.int (x.fmod y)) H) : WO2 c .Mod (.int x) (.int y) σ H Q := fun _ _ i j => by
  cases i; cases j; exact WV.leaf q fun s R _ r => mod_int' hy (r _ _ (.int _ _))
theorem O_and {x y} (q : Q (.int (Builtin.bitAnd x y)) H) : WO2 c .BitAnd (.int x) (.int y) σ H Q := fun _ _ i j => by
  cases i; cases j; exact WV.leaf q fun s R _ r => and_int (r _ _ (.int _ _))
theorem O_or {x y} (q : Q (.int (Builtin.bitOr x y)) H) : WO2 c .BitOr (.int x) (.int y) σ H Q := fun _ _ i j => by
  cases i; cases j; exact WV.leaf q fun s R _ r => or_int (r _ _ (.int _ _))
theorem O_pow {x n} (hn : 0 ≤ n) (hsz : (Builtin.Int.intBits x : Int) * n ≤ 2 ^ 27) (q : Q (.int (x ^ n.toNat)) H) : WO2 c .Pow (.int x) (.int n) σ H Q := fun _ _ i j => by
  cases i; cases j; exact WV.leaf q fun s R _ r => pow_int hn hsz (r _ _ (.int _ _))
theorem U_neg {x} (q : Q (.int (-x)) H) : WU1 c .USub (.int x) σ H Q := fun _ i => by
  cases i; exact WV.leaf q fun s R _ r => P.neg_int (r _ _ (.int _ _))
theorem U_inv {x} (q : Q (.int (Builtin.bitNot x)) H) : WU1 c .Invert (.int x) σ H Q := fun _ i => by
  cases i; exact WV.leaf q fun s R _ r => invert_int (r _ _ (.int _ _))
theorem C_lt {x y} (q : Q (.bool (decide (x < y))) H) : WC2 c .Lt (.int x) (.int y) σ H Q := fun _ _ i j => by
  cases i; cases j; exact WV.leaf q fun s R _ r => P.lt_int (r _ s.toks (.bool _))
theorem C_le {x y} (q : Q (.bool (decide (x ≤ y))) H) : WC2 c .LtE (.int x) (.int y) σ H Q := fun _ _ i j => by
  cases i; cases j; exact WV.leaf q fun s R _ r => P.le_int (r _ s.toks (.bool _))
theorem C_gt {x y} (q : Q (.bool (decide (x > y))) H) : WC2 c .Gt (.int x) (.int y) σ H Q := fun _ _ i j => by
  cases i; cases j; exact WV.leaf q fun s R _ r => P.gt_int (r _ s.toks (.bool _))
theorem C_ge {x y} (q : Q (.bool (decide (x ≥ y))) H) : WC2 c .GtE (.int x) (.int y) σ H Q := fun _ _ i j => by
  cases i; cases j; exact WV.leaf q fun s R _ r => P.ge_int (r _ s.toks (.bool _))
theorem C_eq {x y : Int} (q : Q (.bool (decide (x = y))) H) : WC2 c .Eq (.int x) (.int y) σ H Q := fun _ _ i j => by
  have e : (x == y) = decide (x = y) := by by_cases h : x = y <;> simp [h]
  cases i; cases j; exact WV.leaf q fun s R _ r => P.eq_int (by rw [e]; exact r _ s.toks (.bool _))
theorem C_ne {x y : Int} (q : Q (.bool (decide (x ≠ y))) H) : WC2 c .NotEq (.int x) (.int y) σ H Q := fun _ _ i j => by
  have e : (x != y) = decide (x ≠ y) := by by_cases h : x = y <;> simp [h]
  cases i; cases j; exact WV.leaf q fun s R _ r => P.ne_int (by rw [e]; exact r _ s.toks (.bool _))
theorem C_eqs {x y : Str} (q : Q (.bool (x.cps.toList == y.cps.toList)) H) : WC2 c .Eq (.str x) (.str y) σ H Q := fun _ _ i j => by
  cases i; cases j; exact WV.leaf q fun s R _ r => P.eq_str (r _ s.toks (.bool _))
def AV.isNone : AV → Bool
  | .none => true
  | _ => false
theorem isNone_is {a : AV} {v : Value} (i : Is a v) : (v == Value.none) = a.isNone := by cases i <;> rfl
theorem C_is {a} (q : Q (.bool a.isNone) H) : WC2 c .Is a .none σ H Q := fun _ _ i j => by
  cases j; exact WV.leaf q fun s R _ r => is_none (by rw [isNone_is i]; exact r _ s.toks (.bool _))
theorem C_isnot {a} (q : Q (.bool (!a.isNone)) H) : WC2 c .IsNot a .none σ H Q := fun _ _ i j => by
  cases j; exact WV.leaf q fun s R _ r => isNot_none (by rw [isNone_is i]; exact r _ s.toks (.bool _))

theorem WT1.leaf {a b} {Q : Bool → AHeap → Prop} (q : Q b H)
    (h : ∀ va s (R : Bool → Shared → Prop), Is a va → St c σ H s → (∀ tk, R b { s with toks := tk }) → wpAny (model PP c.w) c.A (truthy va) R NoE s) : WT1 c a σ H Q :=
  fun va i s S => h va s _ i S fun tk => ⟨H, S.toks tk, Rest.of s.heap tk, q⟩
theorem T_bool {b} {Q : Bool → AHeap → Prop} (q : Q b H) : WT1 c (.bool b) σ H Q := WT1.leaf q fun _ s R i _ r => by cases i; exact wpAny_truthy_bool (r s.toks)
theorem T_int {k : Int} {Q : Bool → AHeap → Prop} (q : Q (decide (k ≠ 0)) H) : WT1 c (.int k) σ H Q := WT1.leaf q fun _ s R i _ r => by
  have e : (k != 0) = decide (k ≠ 0) := by by_cases h : k = 0 <;> simp [h]
  cases i; exact P.truthy_int (by rw [e]; exact r s.toks)
theorem T_none {Q : Bool → AHeap → Prop} (q : Q false H) : WT1 c .none σ H Q := WT1.leaf q fun _ s R i _ r => by cases i; exact truthy_none (r s.toks)
theorem T_list {l xs} {Q : Bool → AHeap → Prop} (e : H l = some (.list xs)) (hs : (xs.length : Int) < 2 ^ 63) (q : Q (!xs.isEmpty) H) : WT1 c (.ref l) σ H Q := WT1.leaf q fun _ s R i S r => by
  cases i
  obtain ⟨m, news, S⟩ := S
  obtain ⟨ob, hm, vs, n, rfl, i⟩ := S.obj l _ e
  have hl := all2_length i
  refine wpAny_truthy_list (items := vs.toArray) ⟨_, S.N.get hm, rfl, n, rfl⟩ (by simpa [← hl] using hs) ?_
  have : (!vs.toArray.isEmpty) = !xs.isEmpty := by cases i <;> simp
  rw [this]; exact r _

theorem seqB {t : Sem Bool} {Q : Bool → AHeap → Prop} {s : Shared} {R : Bool → Shared → Prop} (h : wpAny (model PP c.w) c.A t (PostB c σ Q s) NoE s)
    (hk : ∀ v s' H', St c σ H' s' → Rest s s' → Q v H' → R v s') : wpAny (model PP c.w) c.A t R NoE s :=
  wpAny_mono h (fun v s' ⟨H', S', r, q⟩ => hk v s' H' S' r q) fun _ _ e => e

theorem U_not {a} (h : WT1 c a σ H fun b H1 => Q (.bool (!b)) H1) : WU1 c .Not a σ H Q := fun va i s S =>
  not_of (seqB (h va i s S) fun b s' H' S' r q => ⟨_, H', .bool _, S', r, q⟩)

theorem B_cmp {l op r pos} {Q : Bool → AHeap → Prop} (h : WE c env l σ H fun a H1 => WE c env r σ H1 fun b H2 => WC2 c op a b σ H2 fun v H3 => WT1 c v σ H3 Q) (hm : behindInMarks op r = false := by with_unfolding_all rfl) : WB c env (.Compare l [op] [r] pos) σ H Q := fun s S =>
  wpAny_isTrue_Compare1 (seq2 S h fun va s1 a H1 ia S1 r1 h1 => seq2 S1 h1 fun vb s2 b H2 ib S2 r2 h2 => seq2 S2 (h2 va vb ia ib) fun vc s3 cv H3 ic S3 r3 h3 => wpAny_mono (h3 vc ic s3 S3) (fun _ _ p => p.trans (r1.trans (r2.trans r3))) fun _ _ e => e) hm
theorem B_chain {l op₁ op₂ r₁ r₂ pos} {Q : Bool → AHeap → Prop}
    (h : WE c env l σ H fun a H1 => WE c env r₁ σ H1 fun b H2 => WC2 c op₁ a b σ H2 fun v H3 => WT1 c v σ H3 fun t H4 => (t = false → Q false H4) ∧ (t = true → WE c env r₂ σ H4 fun d H5 => WC2 c op₂ b d σ H5 fun v' H6 => WT1 c v' σ H6 Q))
    (hm : lastMarks [op₁, op₂] [r₁, r₂] = false := by with_unfolding_all rfl) : WB c env (.Compare l [op₁, op₂] [r₁, r₂] pos) σ H Q := fun s S => by
  refine isTrue_chain (seq2 S h fun va s1 a H1 ia S1 r1 h1 => test_link (seq2 S1 h1 fun vb s2 b H2 ib S2 r2 h2 => seq2 S2 (h2 va vb ia ib) fun vc s3 cv H3 ic S3 r3 h3 => seqB (h3 vc ic s3 S3) fun t s4 H4 S4 r4 h4 => ?_)) hm
  have r14 := r1.trans (r2.trans (r3.trans r4))
  cases t with
  | false => exact ⟨H4, S4, r14, h4.1 rfl⟩
  | true => exact test_last (seq2 S4 (h4.2 rfl) fun vd s5 d H5 id' S5 r5 h5 => seq2 S5 (h5 vb vd ib id') fun ve s6 ev H6 ie S6 r6 h6 => wpAny_mono (h6 ve ie s6 S6) (fun _ _ p => p.trans (r14.trans (r5.trans r6))) fun _ _ e => e)
theorem E_chain {l op₁ op₂ r₁ r₂ pos}
    (h : WE c env l σ H fun a H1 => WE c env r₁ σ H1 fun b H2 => WC2 c op₁ a b σ H2 fun v H3 => WT1 c v σ H3 fun t H4 => (t = false → Q v H4) ∧ (t = true → WE c env r₂ σ H4 fun d H5 => WC2 c op₂ b d σ H5 Q))
    (hm : lastMarks [op₁, op₂] [r₁, r₂] = false := by with_unfolding_all rfl) : WE c env (.Compare l [op₁, op₂] [r₁, r₂] pos) σ H Q := fun s S => by
  refine Compare_chain (seq2 S h fun va s1 a H1 ia S1 r1 h1 => chain_link (seq2 S1 h1 fun vb s2 b H2 ib S2 r2 h2 => seq2 S2 (h2 va vb ia ib) fun vc s3 cv H3 ic S3 r3 h3 => seqB (h3 vc ic s3 S3) fun t s4 H4 S4 r4 h4 => ?_)) hm
  have r14 := r1.trans (r2.trans (r3.trans r4))
  cases t with
  | false => exact ⟨cv, H4, ic, S4, r14, h4.1 rfl⟩
  | true => exact chain_last (seq2 S4 (h4.2 rfl) fun vd s5 d H5 id' S5 r5 h5 => wpAny_mono (h5 vb vd ib id' s5 S5) (fun _ _ p => p.trans (r14.trans r5)) fun _ _ e => e)
theorem B_not {x pos} {Q : Bool → AHeap → Prop} (h : WB c env x σ H fun b H1 => Q (!b) H1) : WB c env (.UnaryOp .Not x pos) σ H Q := fun s S =>
  isTrue_not (seqB (h s S) fun b s' H' S' r q => ⟨H', S', r, q⟩)
theorem B_and_nil {pos} {Q : Bool → AHeap → Prop} (q : Q true H) : WB c env (.BoolOp .And [] pos) σ H Q := fun s S => isTrue_and_nil ⟨H, S, Rest.refl s, q⟩
theorem B_or_nil {pos} {Q : Bool → AHeap → Prop} (q : Q false H) : WB c env (.BoolOp .Or [] pos) σ H Q := fun s S => isTrue_or_nil ⟨H, S, Rest.refl s, q⟩
theorem B_and {x rest pos} {Q : Bool → AHeap → Prop} (h : WB c env x σ H fun b H1 => (b = false → Q false H1) ∧ (b = true → WB c env (.BoolOp .And rest pos) σ H1 Q)) : WB c env (.BoolOp .And (x :: rest) pos) σ H Q := fun s S =>
  isTrue_and (seqB (h s S) fun b s' H' S' r q => by
    cases b with
    | false => exact ⟨H', S', r, q.1 rfl⟩
    | true => exact wpAny_mono (q.2 rfl s' S') (fun _ _ p => p.trans r) fun _ _ e => e)
theorem B_or {x rest pos} {Q : Bool → AHeap → Prop} (h : WB c env x σ H fun b H1 => (b = true → Q true H1) ∧ (b = false → WB c env (.BoolOp .Or rest pos) σ H1 Q)) : WB c env (.BoolOp .Or (x :: rest) pos) σ H Q := fun s S =>
  isTrue_or (seqB (h s S) fun b s' H' S' r q => by
    cases b with
    | true => exact ⟨H', S', r, q.1 rfl⟩
    | false => exact wpAny_mono (q.2 rfl s' S') (fun _ _ p => p.trans r) fun _ _ e => e)
theorem B_plain {e} {Q : Bool → AHeap → Prop} (h : WE c env e σ H fun a H1 => WT1 c a σ H1 Q)
    (he : isTrue e env (eval e env) = (do let v ← eval e env; standAt e.pos; holding [v] (truthy v)) := by with_unfolding_all rfl) : WB c env e σ H Q := fun s S =>
  isTrue_plain (seq2 S h fun va s1 a H1 ia S1 r1 h1 => wpAny_mono (h1 va ia s1 S1) (fun _ _ p => p.trans r1) fun _ _ e => e) he
theorem E_ifexp {test body orelse pos} (h : WB c env test σ H fun b H1 => (b = true → WE c env body σ H1 Q) ∧ (b = false → WE c env orelse σ H1 Q)) : WE c env (.IfExp test body orelse pos) σ H Q := fun s S =>
  IfExp_ (seqB (h s S) fun b s' H' S' r q => by
    cases b with
    | true => exact wpAny_mono (q.1 rfl s' S') (fun _ _ p => p.trans r) fun _ _ e => e
    | false => exact wpAny_mono (q.2 rfl s' S') (fun _ _ p => p.trans r) fun _ _ e => e)
theorem E_bool1 {op x pos} (h : WE c env x σ H Q) : WE c env (.BoolOp op [x] pos) σ H Q := fun s S => BoolOp_one (h s S)
theorem E_and {x y rest pos} (h : WE c env x σ H fun a H1 => WT1 c a σ H1 fun b H2 => (b = false → Q a H2) ∧ (b = true → WE c env (.BoolOp .And (y :: rest) pos) σ H2 Q)) : WE c env (.BoolOp .And (x :: y :: rest) pos) σ H Q := fun s S =>
  BoolOp_and (seq2 S h fun va s1 a H1 ia S1 r1 h1 => seqB (h1 va ia s1 S1) fun b s2 H2 S2 r2 q => by
    cases b with
    | false => exact ⟨a, H2, ia, S2, r1.trans r2, q.1 rfl⟩
    | true => exact wpAny_mono (q.2 rfl s2 S2) (fun _ _ p => p.trans (r1.trans r2)) fun _ _ e => e)
theorem E_or {x y rest pos} (h : WE c env x σ H fun a H1 => WT1 c a σ H1 fun b H2 => (b = true → Q a H2) ∧ (b = false → WE c env (.BoolOp .Or (y :: rest) pos) σ H2 Q)) : WE c env (.BoolOp .Or (x :: y :: rest) pos) σ H Q := fun s S =>
  BoolOp_or (seq2 S h fun va s1 a H1 ia S1 r1 h1 => seqB (h1 va ia s1 S1) fun b s2 H2 S2 r2 q => by
    cases b with
    | true => exact ⟨a, H2, ia, S2, r1.trans r2, q.1 rfl⟩
    | false => exact wpAny_mono (q.2 rfl s2 S2) (fun _ _ p => p.trans (r1.trans r2)) fun _ _ e => e)
end

section
variable {c : Cx} {env : Env} {σ : Loc} {H : AHeap} {Q : AV → AHeap → Prop} {d : Nat}

def AV.plain : AV → Bool
  | .bi _ => false
  | _ => true
theorem handed_of {a : AV} {v : Value} (i : Is a v) (h : a.plain = true) : handedIn v = true := by
  cases i <;> first | rfl | cases h

structure PlainCls (K : Frag) (C : Addr) : Prop where
  get : ∀ n, plainGet K C n = true
  dict : hasDictIn K C = true
  set : findIn K (.ref C) "__setattr__" = some (some (.builtin "object.__setattr__"))
  over : plainOver K C = true

theorem look_isE {fs : List (Str × AV)} {es : List DictEntry} (h : All2 IsE fs es) {name : Str} {a : AV} (e : fs.lookup name = some a) : ∃ v, getL name es = some (some v) ∧ Is a v := by
  induction h with
  | nil => cases e
  | @cons f en fs es hr _ ih =>
    obtain ⟨⟨t, hk⟩, hi⟩ := hr
    obtain ⟨x, b⟩ := f
    rw [List.lookup_cons] at e
    unfold getL at ih ⊢
    have hs : en.key.isStr name = (x == name) := by rw [hk]; rfl
    rw [List.find?_cons, hs]
    by_cases hx : name = x
    · subst hx
      simp only [beq_self_eq_true] at e ⊢
      cases e
      exact ⟨_, rfl, hi⟩
    · have h1 : (name == x) = false := beq_eq_false_iff_ne.mpr hx
      have h2 : (x == name) = false := beq_eq_false_iff_ne.mpr (Ne.symm hx)
      rw [h1] at e
      rw [h2]
      obtain ⟨v, hv, i⟩ := ih e
      refine ⟨v, ?_, i⟩
      simp only [List.any_cons]
      have hr' : en.refKey = false := by unfold DictEntry.refKey; rw [hk]
      simp only [hr', Bool.false_or]
      exact hv

theorem look_none {fs : List (Str × AV)} {es : List DictEntry} (h : All2 IsE fs es) {name : Str} (e : fs.lookup name = none) : getL name es = some none := by
  induction h with
  | nil => rfl
  | @cons f en fs es hr _ ih =>
    obtain ⟨⟨t, hk⟩, hi⟩ := hr
    obtain ⟨x, b⟩ := f
    rw [List.lookup_cons] at e
    unfold getL at ih ⊢
    have hs : en.key.isStr name = (x == name) := by rw [hk]; rfl
    rw [List.find?_cons, hs]
    by_cases hx : name = x
    · subst hx
      simp only [beq_self_eq_true] at e
      cases e
    · have h1 : (name == x) = false := beq_eq_false_iff_ne.mpr hx
      have h2 : (x == name) = false := beq_eq_false_iff_ne.mpr (Ne.symm hx)
      rw [h1] at e
      rw [h2]
      have := ih e
      simp only [List.any_cons]
      have hr' : en.refKey = false := by unfold DictEntry.refKey; rw [hk]
      simp only [hr', Bool.false_or]
      exact this

noncomputable def setF (name : Str) (a : AV) : List (Str × AV) → List (Str × AV)
  | [] => [(name, a)]
  | f :: r => if f.1 == name then (f.1, a) :: r else f :: setF name a r
theorem setF_put {fs : List (Str × AV)} {es : List DictEntry} (h : All2 IsE fs es) (name : Str) (hsh : Int) (t : Tok) {a : AV} {v : Value} (i : Is a v) : All2 IsE (setF name a fs) (putL name hsh (.str name t) v es) := by
  induction h with
  | nil => exact .cons ⟨⟨t, rfl⟩, i⟩ .nil
  | @cons f en fs es hr ht ih =>
    obtain ⟨⟨t', hk⟩, hi⟩ := hr
    have hs : en.key.isStr name = (f.1 == name) := by rw [hk]; rfl
    unfold setF putL
    rw [hs]
    cases hb : (f.1 == name) with
    | true => exact .cons ⟨⟨t', hk⟩, i⟩ ht
    | false => exact .cons ⟨⟨t', hk⟩, hi⟩ ih

def WG (c : Cx) (a : AV) (name : Str) (σ : Loc) (H : AHeap) (Q : AV → AHeap → Prop) : Prop := ∀ va, Is a va → WV c (getAttr va name true) σ H Q
theorem E_attr {o name pos} (h : WE c env o σ H fun a H1 => WG c a name σ H1 Q)
    (he : eval (.Attribute o name pos) env = (do
      let ov ← eval o env
      standAt pos.atName
      let r ← holding [ov] (getAttr ov name true)
      letTemporaryGo o ov r
      pure r) := by with_unfolding_all rfl) : WE c env (.Attribute o name pos) σ H Q := fun s S =>
  Attribute_any_ (seq2 S h fun va s1 a H1 ia S1 r1 h1 => wpAny_mono (h1 va ia s1 S1) (fun _ _ p => p.trans r1) fun _ _ e => e) he

theorem G_own {x C dx fs name a} (ok : c.OK d) (P : PlainCls (Mine.hd.heap_1 c.w.params) C) (hf : findIn (Mine.hd.heap_1 c.w.params) (.ref C) name = some none) (hx : H x = some (.inst C dx)) (hd : H dx = some (.ns fs)) (hl : fs.lookup name = some a) (hp : a.plain = true) (q : Q a H) : WG c (.ref x) name σ H Q := fun va i => by
  cases i
  refine fun s S => ?_
  obtain ⟨m, news, S⟩ := S
  obtain ⟨ox, hmx, rfl⟩ := S.obj _ _ hx
  obtain ⟨od, hmd, es, n, rfl, he⟩ := S.obj _ _ hd
  obtain ⟨v, hv, iv⟩ := look_isE he hl
  exact get_own S.F ok.k (InstAt.of_news S.N hmx hmd) (P.get name) P.dict hf rfl hv (handed_of iv hp) ⟨a, H, iv, St.toks ⟨m, news, S⟩ _, Rest.of s.heap _, q⟩

inductive PostH (c : Cx) (σ : Loc) (Q : AHeap → Prop) (s : Shared) (u : Unit) (s' : Shared) : Prop
  | mk (H' : AHeap) (S : St c σ H' s') (r : Rest s s') (q : Q H')
inductive PostL (c : Cx) (σ : Loc) (Q : List AV → AHeap → Prop) (s : Shared) (vs : List Value) (s' : Shared) : Prop
  | mk (as : List AV) (H' : AHeap) (is : All2 Is as vs) (S : St c σ H' s') (r : Rest s s') (q : Q as H')
def WSet (c : Cx) (a : AV) (name : Str) (b : AV) (σ : Loc) (H : AHeap) (Q : AHeap → Prop) : Prop :=
  ∀ va vb, Is a va → Is b vb → ∀ s, St c σ H s → wpAny (model PP c.w) c.A (setAttr va name vb) (PostH c σ Q s) NoE s
theorem setF_len (name : Str) (a : AV) : ∀ fs : List (Str × AV), (setF name a fs).length ≤ fs.length + 1
  | [] => Nat.le_refl _
  | f :: r => by
    unfold setF
    split
    · exact Nat.le_succ _
    · exact Nat.succ_le_succ (setF_len name a r)
theorem Set_own {x C dx fs name b} {Q : AHeap → Prop} (ok : c.OK d) (P : PlainCls (Mine.hd.heap_1 c.w.params) C) (hf : findIn (Mine.hd.heap_1 c.w.params) (.ref C) name = some none) (hx : H x = some (.inst C dx)) (hd : H dx = some (.ns fs)) (hlen : fs.length ≤ 900)
    (q : Q (H.set dx (.ns (setF name b fs)))) : WSet c (.ref x) name b σ H Q := fun va vb i ib => by
  cases i
  refine fun s S => ?_
  obtain ⟨m, news, S⟩ := S
  obtain ⟨ox, hmx, rfl⟩ := S.obj _ _ hx
  obtain ⟨od, hmd, es, n, rfl, he⟩ := S.obj _ _ hd
  have hget : (getL name es).isSome = true := by
    cases e : fs.lookup name with
    | none => rw [look_none he e]; rfl
    | some a => obtain ⟨v, hv, _⟩ := look_isE he e; rw [hv]; rfl
  have hput := setF_put he name (PyData.keyHash c.w.params name) (s.toks + 1) ib
  refine set_dict S.F ok.k S.N (InstAt.of_news S.N hmx hmd) rfl P.set P.over (by unfold takerIn; rw [hf]; rfl) P.dict hget rfl (updL_upd S.nd hmd) ?_ fun h' F' N' => ?_
  · rw [← all2_length hput]
    exact Nat.le_trans (setF_len _ _ _) (by omega)
  · exact ⟨_, ⟨m, _, S.upd (tk := s.toks + 2) (o := .ns _) hmd F' N' ⟨_, _, rfl, hput⟩⟩, Rest.of _ _, q⟩

def WL (c : Cx) (env : Env) (pos : Pos) (es : List Expr) (σ : Loc) (H : AHeap) (Q : List AV → AHeap → Prop) : Prop :=
  ∀ s, St c σ H s → wpAny (model PP c.w) c.A (spliced (backTo pos (starEach es env))) (PostL c σ Q s) NoE s
theorem L_nil {pos} {Q : List AV → AHeap → Prop} (q : Q [] H) : WL c env pos [] σ H Q := fun s S => wpAny_items_nil ⟨[], H, .nil, S, Rest.refl s, q⟩
theorem L_cons {pos e es} {Q : List AV → AHeap → Prop} (h : WE c env e σ H fun a H1 => WL c env pos es σ H1 fun as H2 => Q (a :: as) H2)
    (he : starEach (e :: es) env = (false, eval e env) :: starEach es env := by with_unfolding_all rfl) : WL c env pos (e :: es) σ H Q := fun s S =>
  wpAny_items_cons (seq2 S h fun va s1 a H1 ia S1 r1 h1 => wpAny_mono (h1 s1 S1) (fun vs s2 ⟨as, H2, is, S2, r2, q⟩ => ⟨a :: as, H2, .cons ia is, S2, r1.trans r2, q⟩) fun _ _ e => e) he

theorem sizeLine_ge : (1000 : Nat) ≤ sizeLine := by rw [sizeLine_eq]; omega

theorem E_tuple {es k pos} (h : WL c env pos es σ H fun as H1 => as.length ≤ 1000 ∧ ∀ l, H1 l = none → Q (.ref l) (H1.set l (.tup as))) : WE c env (.Tuple es k pos) σ H Q := fun s S =>
  Tuple_ (wpAny_mono (h s S) (fun vs s1 ⟨as, H1, is, S1, r1, hl, q⟩ => by
    obtain ⟨m, news, S1⟩ := S1
    have hlt : ∀ p ∈ news, p.1 < s1.heap.objs.size := fun p hp => Heap.lt_size (S1.N p hp).1
    exact newTuple_N S1.F S1.N (fun h' F' N' => ⟨_, _, .ref _, ⟨m, _, S1.alloc (tk := s1.toks) (o := .tup as) F' N' hlt ⟨vs, _, rfl, is⟩⟩, r1.trans (Rest.of _ _), q _ (S1.fresh hlt)⟩)
      (by rw [← all2_length is]; exact Nat.le_trans hl sizeLine_ge)) fun _ _ e => e)
theorem E_list {es pos} (h : WL c env pos es σ H fun as H1 => as.length ≤ 1000 ∧ ∀ l, H1 l = none → Q (.ref l) (H1.set l (.list as))) : WE c env (.List es pos) σ H Q := fun s S =>
  List_ (wpAny_mono (h s S) (fun vs s1 ⟨as, H1, is, S1, r1, hl, q⟩ => by
    obtain ⟨m, news, S1⟩ := S1
    have hlt : ∀ p ∈ news, p.1 < s1.heap.objs.size := fun p hp => Heap.lt_size (S1.N p hp).1
    exact newList_N S1.F S1.N (fun h' F' N' => ⟨_, _, .ref _, ⟨m, _, S1.alloc (tk := s1.toks) (o := .list as) F' N' hlt ⟨vs, _, rfl, is⟩⟩, r1.trans (Rest.of _ _), q _ (S1.fresh hlt)⟩)
      (by rw [← all2_length is]; exact Nat.le_trans hl sizeLine_ge)) fun _ _ e => e)

def WI (c : Cx) (value slice : Expr) (a b : AV) (σ : Loc) (H : AHeap) (Q : AV → AHeap → Prop) : Prop := ∀ va vb, Is a va → Is b vb → WV c (subscriptTail value slice va vb) σ H Q
theorem E_sub {value slice pos} (h : WE c env value σ H fun a H1 => WE c env slice σ H1 fun b H2 => WI c value slice a b σ H2 Q) : WE c env (.Subscript value slice pos) σ H Q := fun s S =>
  Subscript_ (seq2 S h fun va s1 a H1 ia S1 r1 h1 => seq2 S1 h1 fun vb s2 b H2 ib S2 r2 h2 => wpAny_mono (h2 va vb ia ib s2 S2) (fun _ _ p => p.trans (r1.trans r2)) fun _ _ e => e)

theorem I_list {value slice l xs k a} (hl : H l = some (.list xs)) (h0 : 0 ≤ k) (h1 : k < 2 ^ 63) (hx : xs[k.toNat]? = some a) (q : Q a H)
    (hs : ∀ u, subscripted slice false (.ref l) (.int k u) = operate [.ref l, .int k u] (getItem (.ref l) (.int k u)) := by intro _; with_unfolding_all rfl) : WI c value slice (.ref l) (.int k) σ H Q := fun va vb i j => by
  cases i; cases j
  refine fun s S => ?_
  obtain ⟨m, news, S⟩ := id S
  obtain ⟨ob, hm, vs, n, rfl, is⟩ := S.obj _ _ hl
  obtain ⟨v, hv, iv⟩ := all2_get is _ _ hx
  exact item_litK ⟨_, S.N.get hm, rfl, n, rfl⟩ h0 h1 hv ⟨a, H, iv, ⟨m, news, S⟩, Rest.refl s, q⟩ (hs _)
theorem I_tup {value slice l xs k a} (hl : H l = some (.tup xs)) (h0 : 0 ≤ k) (h1 : k < 2 ^ 63) (hx : xs[k.toNat]? = some a) (q : Q a H)
    (hs : ∀ u, subscripted slice false (.ref l) (.int k u) = operate [.ref l, .int k u] (getItem (.ref l) (.int k u)) := by intro _; with_unfolding_all rfl) : WI c value slice (.ref l) (.int k) σ H Q := fun va vb i j => by
  cases i; cases j
  refine fun s S => ?_
  obtain ⟨m, news, S⟩ := id S
  obtain ⟨ob, hm, vs, n, rfl, is⟩ := S.obj _ _ hl
  obtain ⟨v, hv, iv⟩ := all2_get is _ _ hx
  have hlt : k.toNat < xs.length := (List.getElem?_eq_some_iff.mp hx).1
  refine item_tupleT (j := k.toNat) ⟨_, S.N.get hm, rfl, n, rfl⟩ (by omega) h1 ?_ hv ⟨a, H, iv, ⟨m, news, S⟩, Rest.refl s, q⟩ (hs _)
  have hlen := all2_length is
  unfold seqIndex?
  simp only [if_neg (show ¬ k < 0 by omega)]
  rw [if_pos (by simp only [Bool.and_eq_true, decide_eq_true_eq]; omega)]

def lookI (kvs : List (Int × AV)) (k : Int) : Option AV := (kvs.find? fun kv => kv.1 = k).map (·.2)
def KV (p : Int × AV) (q : Int × Value) : Prop := p.1 = q.1 ∧ Is p.2 q.2
theorem lookI_get {kvs : List (Int × AV)} {kv' : List (Int × Value)} (h : All2 (fun (p : Int × AV) (q : Int × Value) => p.1 = q.1 ∧ Is p.2 q.2) kvs kv') {k : Int} {a : AV} (e : lookI kvs k = some a) : ∃ v, valueAt kv' k = some v ∧ Is a v := by
  induction h with
  | nil => cases e
  | @cons p q ps qs hr _ ih =>
    unfold lookI valueAt at *
    rw [List.find?_cons] at e ⊢
    rw [← hr.1]
    by_cases hk : p.1 = k
    · simp only [hk, decide_true, Option.map_some, Option.some.injEq] at e ⊢
      exact ⟨_, rfl, e ▸ hr.2⟩
    · simp only [hk, decide_false] at e ⊢
      exact ih e
theorem lookI_none {kvs : List (Int × AV)} {kv' : List (Int × Value)} (h : All2 (fun (p : Int × AV) (q : Int × Value) => p.1 = q.1 ∧ Is p.2 q.2) kvs kv') {k : Int} (e : lookI kvs k = none) : valueAt kv' k = none := by
  induction h with
  | nil => rfl
  | @cons p q ps qs hr _ ih =>
    unfold lookI valueAt at *
    rw [List.find?_cons] at e ⊢
    rw [← hr.1]
    by_cases hk : p.1 = k
    · simp only [hk, decide_true, Option.map_some] at e
      cases e
    · simp only [hk, decide_false] at e ⊢
      exact ih e
theorem lookI_isSome {kvs : List (Int × AV)} {kv' : List (Int × Value)} (h : All2 (fun (p : Int × AV) (q : Int × Value) => p.1 = q.1 ∧ Is p.2 q.2) kvs kv') (k : Int) : (valueAt kv' k).isSome = (lookI kvs k).isSome := by
  cases e : lookI kvs k with
  | none => rw [lookI_none h e]; rfl
  | some a => obtain ⟨v, hv, _⟩ := lookI_get h e; rw [hv]; rfl

theorem not_modules {s : Shared} {m news l ob} (S : StN c σ H s m news) (hm : (l, ob) ∈ news) : (l == sysModules) = false :=
  beq_eq_false_iff_ne.mpr (Nat.ne_of_gt (S.low _ hm))

theorem I_dict {value slice l kvs ep k a} (hl : H l = some (.dict kvs ep)) (hx : lookI kvs k = some a) (q : Q a H)
    (hs : ∀ u, subscripted slice false (.ref l) (.int k u) = operate [.ref l, .int k u] (getItem (.ref l) (.int k u)) := by intro _; with_unfolding_all rfl) : WI c value slice (.ref l) (.int k) σ H Q := fun va vb i j => by
  cases i; cases j
  refine fun s S => ?_
  obtain ⟨m, news, S⟩ := id S
  obtain ⟨ob, hm, kv', es, hd1, hd2, hd3, hd4, hd5, is⟩ := S.obj _ _ hl
  have hd : ob.IsDictOf (intKind PP c.w) kv' := ⟨es, _, hd1, hd2, hd3, hd4, hd5⟩
  obtain ⟨v, hv, iv⟩ := lookI_get is hx
  have hdo : s.heap.DictOf (intKind PP c.w) l kv' := Heap.dictOf_iff.mpr ⟨_, S.N.get hm, hd⟩
  exact tail_any hdo.typeIs slot_dict_getitem.lookup (wpAny_getItem_of (knd := intKind PP c.w) (k := k) (intKind_is _ _ _ _) hdo.mapOf hv ⟨a, H, iv, St.toks ⟨m, news, S⟩ _, Rest.of s.heap _, q⟩) (hs _)
theorem C_in {l kvs ep k} (hl : H l = some (.dict kvs ep)) (q : Q (.bool (lookI kvs k).isSome) H) : WC2 c .In (.int k) (.ref l) σ H Q := fun va vb i j => by
  cases i; cases j
  refine fun s S => ?_
  obtain ⟨m, news, S⟩ := id S
  obtain ⟨ob, hm, kv', es, hd1, hd2, hd3, hd4, hd5, is⟩ := S.obj _ _ hl
  have hd : ob.IsDictOf (intKind PP c.w) kv' := ⟨es, _, hd1, hd2, hd3, hd4, hd5⟩
  have hdo : s.heap.DictOf (intKind PP c.w) l kv' := Heap.dictOf_iff.mpr ⟨_, S.N.get hm, hd⟩
  exact wpAny_in_of (knd := intKind PP c.w) (k := k) (intKind_is _ _ _ _) (not_modules S hm) hdo.mapOf ⟨_, H, by rw [lookI_isSome is]; exact .bool _, St.toks ⟨m, news, S⟩ _, Rest.of s.heap _, q⟩
theorem C_notin {l kvs ep k} (hl : H l = some (.dict kvs ep)) (q : Q (.bool (!(lookI kvs k).isSome)) H) : WC2 c .NotIn (.int k) (.ref l) σ H Q := fun va vb i j => by
  cases i; cases j
  refine fun s S => ?_
  obtain ⟨m, news, S⟩ := id S
  obtain ⟨ob, hm, kv', es, hd1, hd2, hd3, hd4, hd5, is⟩ := S.obj _ _ hl
  have hd : ob.IsDictOf (intKind PP c.w) kv' := ⟨es, _, hd1, hd2, hd3, hd4, hd5⟩
  have hdo : s.heap.DictOf (intKind PP c.w) l kv' := Heap.dictOf_iff.mpr ⟨_, S.N.get hm, hd⟩
  exact wpAny_notIn_of (knd := intKind PP c.w) (k := k) (intKind_is _ _ _ _) (not_modules S hm) hdo.mapOf ⟨_, H, by rw [lookI_isSome is]; exact .bool _, St.toks ⟨m, news, S⟩ _, Rest.of s.heap _, q⟩

def WStI (c : Cx) (a b v : AV) (σ : Loc) (H : AHeap) (Q : AHeap → Prop) : Prop :=
  ∀ va vb vv, Is a va → Is b vb → Is v vv → ∀ s, St c σ H s → wpAny (model PP c.w) c.A (setItem va vb vv) (PostH c σ Q s) NoE s

theorem news_same {h₀ h h' : Heap} {L d : Addr} {o' ob : Obj} {m : Str → Option Value} {news : List (Addr × Obj)} (F : Fr h₀ L h m) (N : News h₀ L h news) (nd : (news.map (·.1)).Nodup) (hm : (d, ob) ∈ news) (hs : Heap.SameBut d h h') (ho : h'.get? d = some o') :
    Fr h₀ L h' m ∧ News h₀ L h' (updL d o' news) := by
  have D := N _ hm
  obtain ⟨oL, es, ep, hL, r⟩ := F.ns
  refine ⟨⟨⟨oL, es, ep, (hs.2 _ (Ne.symm D.2.1)).trans hL, r⟩, fun b x q => (hs.2 b fun z => ?_).trans (F.keep b x q), F.above⟩, fun p hp => ?_⟩
  · have := D.2.2; rw [← z, q] at this; cases this
  · by_cases hpd : p.1 = d
    · obtain ⟨a, o⟩ := p
      simp only at hpd
      subst hpd
      have hself := updL_self (o' := o') hm
      have : (a, o) = (a, o') := by
        have hnd : ((updL a o' news).map (·.1)).Nodup := by rw [updL_map]; exact nd
        exact nodup_fst hnd hp hself
      cases this
      exact ⟨ho, D.2⟩
    · have hp' : p ∈ news := updL_old hpd hp
      exact ⟨(hs.2 _ hpd).trans (N _ hp').1, (N _ hp').2⟩
where
  nodup_fst {a : Addr} {o o' : Obj} : ∀ {l : List (Addr × Obj)}, (l.map (·.1)).Nodup → (a, o) ∈ l → (a, o') ∈ l → (a, o) = (a, o')
    | p :: r, hn, h1, h2 => by
      rw [List.map_cons, List.nodup_cons] at hn
      rcases List.mem_cons.mp h1 with e1 | e1 <;> rcases List.mem_cons.mp h2 with e2 | e2
      · rw [e1, e2]
      · exact absurd (List.mem_map_of_mem (f := Prod.fst) e2) (by rw [← e1] at hn; exact hn.1)
      · exact absurd (List.mem_map_of_mem (f := Prod.fst) e1) (by rw [← e2] at hn; exact hn.1)
      · exact nodup_fst hn.2 e1 e2
  updL_old {d : Addr} {o' : Obj} {p : Addr × Obj} (h : p.1 ≠ d) : ∀ {l : List (Addr × Obj)}, p ∈ updL d o' l → p ∈ l
    | q :: r, hp => by
      unfold updL at hp
      by_cases hq : q.1 = d
      · rw [if_pos hq] at hp
        rcases List.mem_cons.mp hp with e | e
        · exact absurd (by rw [e]) h
        · exact .tail _ e
      · rw [if_neg hq] at hp
        rcases List.mem_cons.mp hp with e | e
        · rw [e]; exact .head _
        · exact .tail _ (updL_old h e)

theorem all2_set {α β : Type} {R : α → β → Prop} {as : List α} {bs : List β} (h : All2 R as bs) {a : α} {b : β} (hr : R a b) : ∀ i : Nat, All2 R (as.set i a) (bs.set i b) := by
  induction h with
  | nil => intro i; exact .nil
  | cons h1 h2 ih =>
    intro i
    cases i with
    | zero => exact .cons hr h2
    | succ i => exact .cons h1 (ih i)

theorem StI_list {l xs k v} {Q : AHeap → Prop} (hl : H l = some (.list xs)) (h0 : 0 ≤ k) (h1 : k < 2 ^ 63) (hn : k.toNat < xs.length) (q : Q (H.set l (.list (xs.set k.toNat v)))) : WStI c (.ref l) (.int k) v σ H Q := fun va vb vv i j iv => by
  cases i; cases j
  refine fun s S => ?_
  obtain ⟨m, news, S⟩ := id S
  obtain ⟨ob, hm, vs, n, rfl, is⟩ := S.obj _ _ hl
  have hlen := all2_length is
  have z := S.N _ hm
  have hs : Heap.SameBut l s.heap (s.heap.update l (Obj.mapSeq (·.setIfInBounds k.toNat vv))) := Heap.SameBut.update ..
  have e : Obj.mapSeq (·.setIfInBounds k.toNat vv) (listOf vs.toArray n) = listOf (vs.set k.toNat vv).toArray n := by
    simp [Obj.mapSeq]
  have hg := Heap.get?_update_self (Obj.mapSeq (·.setIfInBounds k.toNat vv)) z.1 (by rw [e]; rfl)
  rw [e] at hg
  obtain ⟨F', N'⟩ := news_same S.F S.N S.nd hm hs hg
  refine ki_setAt z.1 h0 (by omega) (by simp; omega) ⟨_, ⟨m, _, S.upd (tk := s.toks) (o := .list _) hm F' N' ⟨_, n, rfl, all2_set is iv _⟩⟩, Rest.of _ _, q⟩

theorem storedA_rel {kvs : List (Int × AV)} {kv' : List (Int × Value)} (h : All2 (fun (p : Int × AV) (q : Int × Value) => p.1 = q.1 ∧ Is p.2 q.2) kvs kv') {a : AV} {v : Value} (i : Is a v) (k : Int) (hn : lookI kvs k = none) :
    All2 (fun (p : Int × AV) (q : Int × Value) => p.1 = q.1 ∧ Is p.2 q.2) (kvs ++ [(k, a)]) (stored kv' k v) := by
  have hv := lookI_none h hn
  have : kv'.any (fun kv => kv.1 = k) = false := by
    unfold valueAt at hv
    rw [Option.map_eq_none_iff, List.find?_eq_none] at hv
    rw [List.any_eq_false]
    exact hv
  unfold stored
  rw [if_neg (by rw [this]; exact Bool.false_ne_true)]
  exact all2_append h (.cons ⟨rfl, i⟩ .nil)
theorem StI_dict {l kvs ep k v} {Q : AHeap → Prop} (hl : H l = some (.dict kvs ep)) (hn : lookI kvs k = none) (hz : kvs.length ≤ 1000) (q : ∀ ep', Q (H.set l (.dict (kvs ++ [(k, v)]) ep'))) : WStI c (.ref l) (.int k) v σ H Q := fun va vb vv i j iv => by
  cases i; cases j
  refine fun s S => ?_
  obtain ⟨m, news, S⟩ := id S
  obtain ⟨ob, hm, kv', es, hd1, hd2, hd3, hd4, hd5, is⟩ := S.obj _ _ hl
  have hd : ob.IsDictOf (intKind PP c.w) kv' := ⟨es, _, hd1, hd2, hd3, hd4, hd5⟩
  have hdo : s.heap.DictOf (intKind PP c.w) l kv' := Heap.dictOf_iff.mpr ⟨_, S.N.get hm, hd⟩
  refine wpAny_setItem_pairs (knd := intKind PP c.w) (k := k) (intKind_is _ _ _ _) hdo (fun h' hd' hs => ?_) (by rw [← all2_length is]; exact Nat.le_trans hz sizeLine_ge)
  obtain ⟨o', ho', hd''⟩ := Heap.dictOf_iff.mp hd'
  obtain ⟨F', N'⟩ := news_same S.F S.N S.nd hm hs ho'
  obtain ⟨es', ep', e1, e2, e3, e4, e5⟩ := hd''
  exact ⟨_, ⟨m, _, S.upd (tk := s.toks + 1) (o := .dict _ ep') hm F' N' ⟨_, es', e1, e2, e3, e4, e5, storedA_rel is iv k hn⟩⟩, Rest.of _ _, q ep'⟩

end

section
variable {c : Cx} {env : Env} {σ : Loc} {H : AHeap} {d : Nat}

def WCall (c : Cx) (f : Value) (as : List AV) (σ : Loc) (H : AHeap) (Q : AV → AHeap → Prop) : Prop := ∀ vs, All2 Is as vs → WV c (call f vs []) σ H Q
def WCode (c : Cx) (f : Value) (as : List AV) (σ : Loc) (H : AHeap) (Q : AV → AHeap → Prop) : Prop :=
  ∀ vs, All2 Is as vs → ∀ s, St c σ H s → codeAny (model PP c.w) c.A (.call f ⟨vs, []⟩) (fun r s' => match r with | .ok (.ret v) => PostV c σ Q s v s' | _ => False) s
variable {Q : AV → AHeap → Prop}
theorem Call_code {f as} (h : WCode c f as σ H Q) : WCall c f as σ H Q := fun vs is s S => wpAny_call (codeAny_mono (h vs is s S) fun r s' p => by
  match r with
  | .ok (.ret v) => exact p
  | .ok .next => exact p.elim
  | .ok .brk => exact p.elim
  | .ok .cont => exact p.elim
  | .error e => exact p.elim)

theorem St.hkeep (S : St c σ H s) : ∀ b o, c.h₀.get? b = some o → s.heap.get? b = some o := let ⟨_, _, S⟩ := S; S.F.keep

theorem E_call {x np e args pos fa} (ok : c.OK d) (hf : WE c env (.Name x np) σ H fun a H1 => a = .ref fa ∧ WL c env pos (e :: args) σ H1 fun as H2 => WCall c (.ref fa) as σ H2 Q) (hk : keepIn (Mine.hd.heap_1 c.w.params) (.ref fa) = true)
    (he : starEach (e :: args) env = (false, eval e env) :: starEach args env := by with_unfolding_all rfl) (hplain : (backTo pos (starEach args env)).any (·.1) = false := by with_unfolding_all rfl) :
    WE c env (.Call (.Name x np) (e :: args) [] pos) σ H Q := fun s S =>
  wpAny_Call_NameR (seq2 S hf fun vf s1 a H1 ia S1 r1 h1 => by
    obtain ⟨rfl, h1⟩ := h1
    cases ia
    exact callWith_K (h₀ := c.h₀) ok.k hk (wpAny_mono (h1 s1 S1) (fun vs s2 ⟨as, H2, is, S2, r2, q⟩ => ⟨ok.k.keeps S2.hkeep, wpAny_mono (q vs is s2 S2) (fun _ _ p => p.trans (r1.trans r2)) fun _ _ e => e⟩) fun _ _ e => e) he hplain)
theorem E_callB {x np e args pos id} (hf : WE c env (.Name x np) σ H fun a H1 => a = .bi id ∧ WL c env pos (e :: args) σ H1 fun as H2 => WCall c (.builtin id) as σ H2 Q)
    (he : starEach (e :: args) env = (false, eval e env) :: starEach args env := by with_unfolding_all rfl) (hplain : (backTo pos (starEach args env)).any (·.1) = false := by with_unfolding_all rfl) :
    WE c env (.Call (.Name x np) (e :: args) [] pos) σ H Q := fun s S =>
  wpAny_Call_NameR (seq2 S hf fun vf s1 a H1 ia S1 r1 h1 => by
    obtain ⟨rfl, h1⟩ := h1
    cases ia
    exact PyProof.Rows.callWith_builtin1 (wpAny_mono (h1 s1 S1) (fun vs s2 ⟨as, H2, is, S2, r2, q⟩ => wpAny_mono (q vs is s2 S2) (fun _ _ p => p.trans (r1.trans r2)) fun _ _ e => e) fun _ _ e => e) he hplain)
theorem E_callT {x np e args pos T} (hf : WE c env (.Name x np) σ H fun a H1 => a = .ty T ∧ WL c env pos (e :: args) σ H1 fun as H2 => WCall c (.type T) as σ H2 Q)
    (he : starEach (e :: args) env = (false, eval e env) :: starEach args env := by with_unfolding_all rfl) (hplain : (backTo pos (starEach args env)).any (·.1) = false := by with_unfolding_all rfl) :
    WE c env (.Call (.Name x np) (e :: args) [] pos) σ H Q := fun s S =>
  wpAny_Call_NameR (seq2 S hf fun vf s1 a H1 ia S1 r1 h1 => by
    obtain ⟨rfl, h1⟩ := h1
    cases ia
    exact PyProof.Rows.callWith_type1 (wpAny_mono (h1 s1 S1) (fun vs s2 ⟨as, H2, is, S2, r2, q⟩ => wpAny_mono (q vs is s2 S2) (fun _ _ p => p.trans (r1.trans r2)) fun _ _ e => e) fun _ _ e => e) he hplain)

theorem E_meth {o name apos e args pos C f} (ok : c.OK d)
    (ho : WE c env o σ H fun a H1 => ∃ x dx fs, a = .ref x ∧ H1 x = some (.inst C dx) ∧ H1 dx = some (.ns fs) ∧ fs.lookup name = none ∧ WL c env pos (e :: args) σ H1 fun as H2 => WCall c (.ref f) (.ref x :: as) σ H2 Q)
    (P : PlainCls (Mine.hd.heap_1 c.w.params) C) (hfi : findIn (Mine.hd.heap_1 c.w.params) (.ref C) name = some (some (.ref f))) (hfn : isFn (Mine.hd.heap_1 c.w.params) (.ref f) = true) (hk : keepIn (Mine.hd.heap_1 c.w.params) (.ref f) = true) (pl : Sem Bool)
    (hee : eval (.Call (.Attribute o name apos) (e :: args) [] pos) env = (do
      let ov ← eval o env
      standAt apos.atName
      let (f, first) ← holding [ov] (getMethod ov name pl)
      callWith pos f first (backTo pos (starEach (e :: args) env)) (backToKw pos (keywordEach [] env))) := by with_unfolding_all rfl)
    (he : starEach (e :: args) env = (false, eval e env) :: starEach args env := by with_unfolding_all rfl) (hplain : (backTo pos (starEach args env)).any (·.1) = false := by with_unfolding_all rfl) :
    WE c env (.Call (.Attribute o name apos) (e :: args) [] pos) σ H Q := fun s S =>
  methodCall_KW (pl := pl) (seq2 S ho fun vf s1 a H1 ia S1 r1 h1 => by
    obtain ⟨x, dx, fs, rfl, hx, hd, hl, h1⟩ := h1
    cases ia
    obtain ⟨m, news, S1'⟩ := id S1
    obtain ⟨ox, hmx, rfl⟩ := S1'.obj _ _ hx
    obtain ⟨od, hmd, es, n, rfl, hes⟩ := S1'.obj _ _ hd
    refine method_inst S1'.F ok.k (InstAt.of_news S1'.N hmx hmd) (P.get name) hfi hfn (look_none hes hl) ?_
    exact callWith_K (h₀ := c.h₀) ok.k hk (wpAny_mono (h1 s1 S1) (fun vs s2 ⟨as, H2, is, S2, r2, q⟩ => ⟨ok.k.keeps S2.hkeep, wpAny_mono (q (.ref x :: vs) (.cons (.ref x) is) s2 S2) (fun _ _ p => p.trans (r1.trans r2)) fun _ _ e => e⟩) fun _ _ e => e) he hplain) hee

theorem E_append {o apos e pos} (ok : c.OK d)
    (ho : WE c env o σ H fun a H1 => ∃ l xs, a = .ref l ∧ H1 l = some (.list xs) ∧ WE c env e σ H1 fun b H2 => ∃ ys, H2 l = some (.list ys) ∧ ys.length ≤ 1000 ∧ Q .none (H2.set l (.list (ys ++ [b])))) (pl : Sem Bool)
    (hee : eval (.Call (.Attribute o "append" apos) [e] [] pos) env = (do
      let ov ← eval o env
      standAt apos.atName
      let (f, first) ← holding [ov] (getMethod ov "append" pl)
      callWith pos f first (backTo pos (starEach [e] env)) (backToKw pos (keywordEach [] env))) := by with_unfolding_all rfl)
    (he : starEach [e] env = (false, eval e env) :: starEach [] env := by with_unfolding_all rfl) :
    WE c env (.Call (.Attribute o "append" apos) [e] [] pos) σ H Q := fun s S =>
  methodCall_KW (pl := pl) (seq2 S ho fun vf s1 a H1 ia S1 r1 h1 => by
    obtain ⟨l, xs, rfl, hx, h1⟩ := h1
    cases ia
    obtain ⟨m, news, S1'⟩ := id S1
    obtain ⟨ox, hmx, vs, n, rfl, is⟩ := S1'.obj _ _ hx
    refine Calls.getMethod_list_append (S1'.N.get hmx) rfl rfl ?_
    show wpAny _ _ (callWith pos (.builtin "list.append") [.ref l] (backTo pos (starEach [e] env)) []) _ _ _
    refine Calls.callWith_builtin (by rw [he]; rfl) ?_
    rw [he]
    refine Calls.evalArgs_plain (Calls.spliced_cons (seq2 S1 h1 fun vb s2 b H2 ib S2 r2 h2 => Calls.spliced_nil ?_))
    obtain ⟨ys, hy, hlen, q⟩ := h2
    obtain ⟨m2, news2, S2'⟩ := id S2
    obtain ⟨oy, hmy, vs2, n2, rfl, is2⟩ := S2'.obj _ _ hy
    refine append_K S2'.F S2'.N (updL_upd S2'.nd hmy) (fun h' F' N' => ?_) ?_
    · have e2 : vs2.toArray.push vb = (vs2 ++ [vb]).toArray := by simp
      rw [e2] at N'
      exact ⟨_, _, .none, ⟨m2, _, S2'.upd (tk := s2.toks) (o := .list _) hmy F' N' ⟨_, n2 + 1, rfl, all2_append is2 (.cons ib .nil)⟩⟩, (r1.trans r2).trans (Rest.of _ _), q⟩
    · show vs2.toArray.size ≤ sizeLine
      rw [List.size_toArray, ← all2_length is2]; exact Nat.le_trans hlen sizeLine_ge) hee

inductive Fl where
  | next | brk | cont
  | ret (a : AV)
inductive IsF : Fl → Flow → Prop
  | next : IsF .next .next
  | brk : IsF .brk .brk
  | cont : IsF .cont .cont
  | ret {a v} : Is a v → IsF (.ret a) (.ret v)

inductive PostS (c : Cx) (Q : Fl → Loc → AHeap → Prop) (s : Shared) (f : Flow) (s' : Shared) : Prop
  | mk (fl : Fl) (σ' : Loc) (H' : AHeap) (i : IsF fl f) (S : St c σ' H' s') (r : Rest s s') (q : Q fl σ' H')
theorem PostS.trans {Q : Fl → Loc → AHeap → Prop} {s s' s'' : Shared} {f : Flow} (r : Rest s s') (h : PostS c Q s' f s'') : PostS c Q s f s'' :=
  let ⟨fl, σ', H', i, S', r', q⟩ := h; ⟨fl, σ', H', i, S', r.trans r', q⟩
def WS (c : Cx) (ss : List Stmt) (σ : Loc) (H : AHeap) (Q : Fl → Loc → AHeap → Prop) : Prop := ∀ s, St c σ H s → wpAny (model PP c.w) c.A (execs ss c.env) (PostS c Q s) NoE s
def WX (c : Cx) (st : Stmt) (σ : Loc) (H : AHeap) (Q : Fl → Loc → AHeap → Prop) : Prop := ∀ s, St c σ H s → wpAny (model PP c.w) c.A (exec st c.env) (PostS c Q s) NoE s

def Fl.val : Fl → AV
  | .ret a => a
  | _ => .none

def fval : Flow → Value
  | .ret v => v
  | _ => .none
theorem leave_of {R : Result → Shared → Prop} {g : Heap} {L' : Addr} {m : Str → Option Value} {news : List (Addr × Obj)} {σ' H' s s'} {c' : Cx} {fl : Fl} {f : Flow} {u : Value} (S : StN c σ H s m news) (i : IsF fl f) (hw : c'.w = c.w) (hz : c'.z = c.z) (hL : c'.L = L') (hg : c'.h₀ = g) (S' : St c' σ' H' s') (r : Rest s s') (q : Q fl.val H')
    (hu : u = fval f)
    (hR : ∀ v, PostV c σ Q s v s' → R (.ok (.ret v)) s') : LeaveK c.h₀ c.L m g R u s' := by
  obtain ⟨m', news', S'⟩ := S'
  subst hg hL hu
  refine ⟨_, m', news', S'.F, S'.N, fun F N => hR _ ?_⟩
  have hi : Is fl.val (fval f) := by cases i <;> first | exact .none | assumption
  exact ⟨_, H', hi, ⟨m, news', F, N, S'.nd, S.loc, S'.low, by rw [← hz]; exact S'.ne, by rw [← hw]; exact S'.obj⟩, r, q⟩

theorem Ok_deeper {g : Heap} {L' : Addr} {A : Around} (cn : Str) (cs : Scope) (a : Addr) (ccd : Value) (cl : List (Str × Addr)) (ok : c.OK (d + 1)) (X : (Mine.hd.heap_1 c.w.params).In g)
    (T : ∃ mg mb mean, Top Mine.vw (looseW Mine.vw []) mean mg mb g) (B : ∃ A₀ base outer, Below A₀ base outer g ∧ A.frames = some (envX cn cs L' a ccd cl :: outer)) (hA : A.depth = c.A.depth + 1) (hu : A.units ≤ c.A.units + 10) (hh : A.handled = none) (hk : cs.kind = .function) :
    (Cx.OK ⟨c.w, A, cn, cs, L', a, ccd, cl, g, c.z⟩ d) where
  below := B
  top := T
  k := X
  kind := hk
  depth := by have := ok.depth; show A.depth + 2 * d ≤ 900; omega
  units := by have := ok.units; show A.units + 20 * d ≤ 9000; omega
  hh := hh

theorem F_def {name qual : Str} {params : Arguments} {body : List Stmt} {scope : Scope} {dV kV doc pm cdv ct oc : Value} {an od : Option Addr} {osl : Array (Option Value)} {fa : Addr} {as : List AV} {ρ : Loc}
    (ok : c.OK (d + 1)) (ho : (Mine.hd.heap_1 c.w.params).lookup fa = some ⟨oc, od, .func (fnOf name qual params body scope dV kV doc pm an cdv ct), osl⟩) (hcd : codeIn (Mine.hd.heap_1 c.w.params) cdv qual = true)
    (hb : ∀ vs, All2 Is as vs → ∃ binds, (∀ s : Shared, (Mine.hd.heap_1 c.w.params).In s.heap → BindsTo s (fnOf name qual params body scope dV kV doc pm an cdv ct) ⟨vs, []⟩ binds) ∧ (∀ y ∈ binds, scope.names.lookup y.1 = some .local) ∧ Knows ρ (fun y => binds.reverse.lookup y))
    (hco : scope.isCoroutine = false) (hgen : scope.isGenerator = false) (hk : scope.kind = .function) (hcell : ∀ x ∈ scope.names, x.2 ≠ .cell)
    (h : ∀ A' L' g, Cx.OK ⟨c.w, A', qual, scope, L', fa, cdv, [], g, c.z⟩ d → WS ⟨c.w, A', qual, scope, L', fa, cdv, [], g, c.z⟩ body ρ H fun fl _ H' => Q fl.val H') : WCode c (.ref fa) as σ H Q := fun vs is s S => by
  obtain ⟨m, news, S⟩ := S
  obtain ⟨A₀, base, outer, B, hA⟩ := ok.below
  obtain ⟨mg, mb, mean, T⟩ := ok.top
  obtain ⟨binds, hbind, hloc, hkn⟩ := hb vs is
  refine code_def (base := base) B S.F ok.k S.N T hA rfl ok.kind ho hcd (by have := ok.depth; show c.A.depth < 1000; omega) (hbind s (ok.k.keeps S.F.keep)) hloc ?_ hco hgen hk hcell
  intro g L' h₁ FG F' N' B' X' T'
  have ok' : Cx.OK ⟨c.w, c.A.deeper (envOf qual scope L' fa cdv), qual, scope, L', fa, cdv, [], g, c.z⟩ d :=
    Ok_deeper (L' := L') qual scope fa cdv [] ok X' ⟨_, _, _, T'⟩ ⟨_, _, _, B', Around.frames_deeper hA⟩ rfl (by show c.A.units + 3 ≤ _; omega) ok.hh hk
  refine wpAny_mono (h _ L' g ok' { s with heap := h₁, toks := s.toks + binds.length } ⟨_, news, F', N', S.nd, hkn, S.low, S.ne, S.obj⟩) (fun f s' ⟨fl, σ', H', i, S', r, q⟩ => ?_) fun _ _ e => e.elim
  exact leave_of (c := c) (c' := ⟨c.w, c.A.deeper (envOf qual scope L' fa cdv), qual, scope, L', fa, cdv, [], g, c.z⟩) S i rfl rfl rfl rfl S' ⟨r.1, r.2, r.3⟩ q (by cases f <;> rfl) fun v p => p

theorem cUnits_tc (args : Args) : (Code.builtin "type.__call__" args).cUnits ≤ 20 := by
  have h1 : (Code.builtin "type.__call__" args).cUnits ≤ (Code.builtin "type.__call__" args).cUnits := Nat.le_refl _
  have h2 : (Code.builtin "type.__call__" args).cUnits = (Code.builtin "type.__call__" {}).cUnits := rfl
  rw [h2]; decide +kernel
theorem F_cls {C fI : Addr} {as : List AV} (ok : c.OK (d + 1)) (hm : makesIn (Mine.hd.heap_1 c.w.params) C = true) (hi : findIn (Mine.hd.heap_1 c.w.params) (.ref C) "__init__" = some (some (.ref fI))) (hf : isFn (Mine.hd.heap_1 c.w.params) (.ref fI) = true)
    (h : ∀ A' x dx, Cx.OK { c with A := A' } d → H x = none → H dx = none → x ≠ dx → WCode { c with A := A' } (.ref fI) (.ref x :: as) σ ((H.set dx (.ns [])).set x (.inst C dx)) fun v H' => v = .none ∧ Q (.ref x) H') :
    WCall c (.ref C) as σ H Q := fun vs is s S => by
  obtain ⟨m, news, S⟩ := S
  refine call_cls S.F ok.k S.N hm hi hf fun x dx h' F' N' hlt hdx => ?_
  have hdn := S.fresh hlt
  have hltx : ∀ p ∈ news, p.1 < x := fun p hp => Nat.lt_trans (hlt p hp) hdx
  have hxn := S.fresh hltx
  have S1 := S.alloc (h' := h') (tk := s.toks) (o := .ns []) F' (fun p hp => N' p (.tail _ hp)) hlt ⟨[], 0, rfl, .nil⟩
  have S2 := S1.alloc (h' := h') (tk := s.toks) (o := .inst C dx) F' N' (fun p hp => by
    rcases List.mem_cons.mp hp with rfl | hp
    · exact hdx
    · exact hltx p hp) rfl
  have hfr : (c.A.under (.builtin "type.__call__" ⟨.ref C :: vs, []⟩)).frames = c.A.frames := by
    show pushEnvs [] c.A.frames = _
    rw [pushEnvs_eq]; simp
  have ok' : Cx.OK { c with A := c.A.under (.builtin "type.__call__" ⟨.ref C :: vs, []⟩) } d := by
    obtain ⟨A₀, base, outer, B, hA⟩ := ok.below
    have hcu : (Code.builtin "type.__call__" ⟨.ref C :: vs, []⟩).cUnits ≤ 20 := cUnits_tc _
    refine ⟨⟨A₀, base, outer, B, hfr.trans hA⟩, ok.top, ok.k, ok.kind, ?_, ?_, ok.hh⟩
    · have := ok.depth; show c.A.depth + 1 + 2 * d ≤ 900; omega
    · have := ok.units; show c.A.units + (Code.builtin "type.__call__" ⟨.ref C :: vs, []⟩).cUnits + 20 * d ≤ 9000; omega
  refine codeAny_mono (h _ x dx ok' hxn hdn (Nat.ne_of_gt hdx) (.ref x :: vs) (.cons (.ref x) is) _ ⟨m, _, S2.F, S2.N, S2.nd, S2.loc, S2.low, S2.ne, S2.obj⟩) fun r s' p => ?_
  match r with
  | .ok (.ret v) =>
    obtain ⟨av, H', i, S', r, rfl, q⟩ := p
    cases i
    obtain ⟨m', news', S'⟩ := S'
    exact ⟨rfl, _, H', .ref x, ⟨m', news', S'.F, S'.N, S'.nd, S'.loc, S'.low, S'.ne, S'.obj⟩, ⟨r.1, r.2, r.3⟩, q⟩
  | .ok .next => exact p.elim
  | .ok .brk => exact p.elim
  | .ok .cont => exact p.elim
  | .error e => exact p.elim
end

section
variable {c : Cx} {σ : Loc} {H : AHeap} {d : Nat} {Q : Fl → Loc → AHeap → Prop} {rest : List Stmt}

def CutE (Q' Q : AV → AHeap → Prop) : Prop := ∀ a H, Q a H → Q' a H
def CutB (Q' Q : Bool → AHeap → Prop) : Prop := ∀ a H, Q a H → Q' a H
def CutS (Q' Q : Fl → Loc → AHeap → Prop) : Prop := ∀ f σ H, Q f σ H → Q' f σ H
theorem CutE.go {Q' Q : AV → AHeap → Prop} {a H} (k : CutE Q' Q) (h : Q a H) : Q' a H := k a H h
theorem CutB.go {Q' Q : Bool → AHeap → Prop} {a H} (k : CutB Q' Q) (h : Q a H) : Q' a H := k a H h
theorem CutS.go {Q' Q : Fl → Loc → AHeap → Prop} {f σ H} (k : CutS Q' Q) (h : Q f σ H) : Q' f σ H := k f σ H h
def WSb (c : Cx) (ss : List Stmt) (σ : Loc) (H : AHeap) (Q : Fl → Loc → AHeap → Prop) : Prop := ∀ Q' : Fl → Loc → AHeap → Prop, CutS Q' Q → WS c ss σ H Q'
theorem WSb_in {c ss σ H} {Q : Fl → Loc → AHeap → Prop} (h : ∀ Q' : Fl → Loc → AHeap → Prop, CutS Q' Q → WS c ss σ H Q') : WSb c ss σ H Q := h
theorem WSb.out {c ss σ H} {Q : Fl → Loc → AHeap → Prop} (h : WSb c ss σ H Q) : WS c ss σ H Q := h Q fun _ _ _ q => q
def WEb (c : Cx) (env : Env) (e : Expr) (σ : Loc) (H : AHeap) (Q : AV → AHeap → Prop) : Prop := ∀ Q' : AV → AHeap → Prop, CutE Q' Q → WE c env e σ H Q'
theorem WEb_in {c env e σ H} {Q : AV → AHeap → Prop} (h : ∀ Q' : AV → AHeap → Prop, CutE Q' Q → WE c env e σ H Q') : WEb c env e σ H Q := h
theorem WEb.out {c env e σ H} {Q : AV → AHeap → Prop} (h : WEb c env e σ H Q) : WE c env e σ H Q := h Q fun _ _ q => q
theorem WS_cons {st} (h : WX c st σ H fun fl σ1 H1 => match fl with | .next => WS c rest σ1 H1 Q | fl => Q fl σ1 H1) : WS c (st :: rest) σ H Q := fun s S =>
  wpAny_execs_cons (wpAny_mono (h s S) (fun f s1 ⟨fl, σ1, H1, i, S1, r1, q⟩ => by
    cases i with
    | next => exact wpAny_mono (q s1 S1) (fun _ _ p => p.trans r1) fun _ _ e => e
    | brk => exact ⟨_, σ1, H1, .brk, S1, r1, q⟩
    | cont => exact ⟨_, σ1, H1, .cont, S1, r1, q⟩
    | ret i => exact ⟨_, σ1, H1, .ret i, S1, r1, q⟩) fun _ _ e => e)
theorem S_nil (q : Q .next σ H) : WS c [] σ H Q := fun s S => wpAny_execs_nil ⟨_, σ, H, .next, S, Rest.refl s, q⟩

def Seq (c : Cx) (rest : List Stmt) (Q : Fl → Loc → AHeap → Prop) : Fl → Loc → AHeap → Prop
  | .next, σ, H => WS c rest σ H Q
  | fl, σ, H => Q fl σ H

theorem S_if0 {test body orelse pos} (h : WB c c.env test σ H fun b H1 => (b = true → WS c body σ H1 (Seq c rest Q)) ∧ (b = false → WS c orelse σ H1 (Seq c rest Q))) : WS c (.If test body orelse pos :: rest) σ H Q :=
  WS_cons fun s S => wpAny_If (seqB (h s S) fun b s1 H1 S1 r1 q => by
    have key : ∀ ss : List Stmt, WS c ss σ H1 (Seq c rest Q) → wpAny (model PP c.w) c.A (execs ss c.env) (PostS c (fun fl σ1 H1 => match fl with | .next => WS c rest σ1 H1 Q | fl => Q fl σ1 H1) s) NoE s1 := fun ss q =>
      wpAny_mono (q s1 S1) (fun f s2 ⟨fl, σ2, H2, i, S2, r2, q⟩ => ⟨fl, σ2, H2, i, S2, r1.trans r2, by cases fl <;> exact q⟩) fun _ _ e => e
    cases b with
    | true => exact key _ (q.1 rfl)
    | false => exact key _ (q.2 rfl))

theorem S_if {test body orelse pos} (h : ∀ Q', CutB Q' (fun b H1 => (b = true → WS c body σ H1 (Seq c rest Q)) ∧ (b = false → WS c orelse σ H1 (Seq c rest Q))) → WB c c.env test σ H Q') : WS c (.If test body orelse pos :: rest) σ H Q := S_if0 (h _ fun _ _ q => q)
theorem S_ret0' {e pos} (h : WE c c.env e σ H fun a H1 => Q (.ret a) σ H1) : WS c (.Return (some e) pos :: rest) σ H Q := WS_cons fun s S =>
  wpAny_Return_some (seq2 S h fun va s1 a H1 ia S1 r1 q => ⟨_, σ, H1, .ret ia, S1, r1, q⟩)
theorem S_ret {e pos} (h : ∀ Q', CutE Q' (fun a H1 => Q (.ret a) σ H1) → WE c c.env e σ H Q') : WS c (.Return (some e) pos :: rest) σ H Q := S_ret0' (h _ fun _ _ q => q)
theorem S_ret0 {pos} (q : Q (.ret .none) σ H) : WS c (.Return none pos :: rest) σ H Q := WS_cons fun s S => wpAny_Return_none ⟨_, σ, H, .ret .none, S, Rest.refl s, q⟩
theorem S_cont {pos} (q : Q .cont σ H) : WS c (.Continue pos :: rest) σ H Q := WS_cons fun s S => wpAny_Continue ⟨_, σ, H, .cont, S, Rest.refl s, q⟩
theorem S_pass {pos} (q : WS c rest σ H Q) : WS c (.Pass pos :: rest) σ H Q := WS_cons fun s S => wpAny_Pass ⟨_, σ, H, .next, S, Rest.refl s, q⟩
theorem S_expr0 {e pos} (h : WE c c.env e σ H fun _ H1 => WS c rest σ H1 Q) (hi : interactive c.env = false := by with_unfolding_all rfl) (hs : swapsWith e none pos.line c.env = pure false := by with_unfolding_all rfl) : WS c (.Expr e pos :: rest) σ H Q := WS_cons fun s S =>
  wpAny_Expr_any (seq2 S h fun va s1 a H1 ia S1 r1 q => ⟨_, σ, H1, .next, S1, r1, q⟩) hi hs

theorem S_expr {e pos} (h : ∀ Q', CutE Q' (fun _ H1 => WS c rest σ H1 Q) → WE c c.env e σ H Q') (hi : interactive c.env = false := by with_unfolding_all rfl) (hs : swapsWith e none pos.line c.env = pure false := by with_unfolding_all rfl) : WS c (.Expr e pos :: rest) σ H Q := S_expr0 (h _ fun _ _ q => q) hi hs
inductive PostA (c : Cx) (Q : Loc → AHeap → Prop) (s : Shared) (u : Unit) (s' : Shared) : Prop
  | mk (σ' : Loc) (H' : AHeap) (S : St c σ' H' s') (r : Rest s s') (q : Q σ' H')
def WA (c : Cx) (t : Expr) (a : AV) (σ : Loc) (H : AHeap) (Q : Loc → AHeap → Prop) : Prop :=
  ∀ va, Is a va → ∀ s, St c σ H s → wpAny (model PP c.w) c.A (assign t c.env va) (PostA c Q s) NoE s
def WAs (c : Cx) (ts : List Expr) (as : List AV) (σ : Loc) (H : AHeap) (Q : Loc → AHeap → Prop) : Prop :=
  ∀ vs, All2 Is as vs → ∀ s, St c σ H s → wpAny (model PP c.w) c.A (assignInOrder ((assignEach ts c.env).map (·.2)) vs) (PostA c Q s) NoE s

theorem knows_cons {σ : Loc} {m : Str → Option Value} (h : Knows σ m) {x : Str} {a : AV} {v : Value} (i : Is a v) : Knows ((x, a) :: σ) (fun y => if y = x then some v else m y) := fun y b e => by
  rw [List.lookup_cons] at e
  by_cases hy : y = x
  · subst hy; simp only [beq_self_eq_true] at e; cases e; exact ⟨v, by simp, i⟩
  · have : (y == x) = false := beq_eq_false_iff_ne.mpr hy
    rw [this] at e
    obtain ⟨u, hu, iu⟩ := h y b e
    exact ⟨u, by simp [hy, hu], iu⟩
theorem Store_local {x a va s} (hk : c.cs.kind = .function) (hx : c.env.kindOf x = some .local) (ia : Is a va) (S : St c σ H s) : wpAny (model PP c.w) c.A (storeName c.env x va) (fun _ s' => St c ((x, a) :: σ) H s' ∧ Rest s s') NoE s := by
  obtain ⟨m, news, S⟩ := S
  exact storeX_L S.F S.N (fun h' F' N' => ⟨⟨_, news, F', N', S.nd, knows_cons S.loc ia, S.low, S.ne, S.obj⟩, Rest.of _ _⟩) hk hx
theorem A_name {x pos a} {Q : Loc → AHeap → Prop} (hk : c.cs.kind = .function) (hx : c.env.kindOf x = some .local) (q : Q ((x, a) :: σ) H) : WA c (.Name x pos) a σ H Q := fun va ia s S =>
  wpAny_assign_Name (wpAny_mono (Store_local hk hx ia S) (fun _ s' ⟨S', r⟩ => ⟨_, H, S', r, q⟩) fun _ _ e => e)
theorem A_cell {x pos a ca v₀} {Q : Loc → AHeap → Prop} (hk : c.cs.kind = .function) (hx : c.env.kindOf x = some .cell) (hl : c.cl.lookup x = some ca) (hc : H ca = some (.cell v₀)) (q : Q σ (H.set ca (.cell (some a)))) : WA c (.Name x pos) a σ H Q := fun va ia s S => by
  obtain ⟨m, news, S⟩ := S
  obtain ⟨ob, hm, u, hu, _⟩ := S.obj _ _ hc
  have U : UpdF ca ob news (fun o' => updL ca o' news) := updF_of S.nd hm
  exact wpAny_assign_Name (storeX_C S.F S.N hl U hu (fun h' o' F' N' hd' => ⟨_, _, ⟨m, _, S.upd (tk := s.toks) (o := .cell (some a)) hm F' N' ⟨some va, hd', ia⟩⟩, Rest.of _ _, q⟩) hk hx)
where
  updF_of {d : Addr} {o : Obj} : ∀ {l : List (Addr × Obj)}, (l.map (·.1)).Nodup → (d, o) ∈ l → UpdF d o l (fun o' => updL d o' l)
    | p :: r, hn, hm => by
      rw [List.map_cons, List.nodup_cons] at hn
      by_cases h : p.1 = d
      · have hp : p = (d, o) := by
          rcases List.mem_cons.mp hm with e | e
          · exact e.symm
          · exact absurd (List.mem_map_of_mem (f := Prod.fst) e) (by rw [← h]; exact hn.1)
        subst hp
        have e : (fun o' => updL d o' ((d, o) :: r)) = fun o' => (d, o') :: r := by funext o'; unfold updL; rw [if_pos rfl]
        rw [e]
        exact .head fun q hq e => hn.1 (List.mem_map.mpr ⟨q, hq, e⟩)
      · have e : (fun o' => updL d o' (p :: r)) = fun o' => p :: updL d o' r := by funext o'; rw [updL, if_neg h]
        rw [e]
        refine .tail h (updF_of hn.2 ?_)
        rcases List.mem_cons.mp hm with e | e
        · exact absurd (by rw [← e]) h
        · exact e

theorem A_attr {o name pos b} {Q : Loc → AHeap → Prop} (h : WE c c.env o σ H fun a H1 => WSet c a name b σ H1 fun H2 => Q σ H2) : WA c (.Attribute o name pos) b σ H Q := fun vb ib s S => by
  rw [assign_Attribute]
  refine wpAny_bind (wpAny_holding (seq2 S h fun va s1 a H1 ia S1 r1 h1 => wpAny_bind (wpAny_standAt (wpAny_bind (wpAny_holding (wpAny_mono (h1 va vb ia ib s1 S1) (fun _ s2 ⟨H2, S2, r2, q⟩ => ?_) fun _ _ e => e))))))
  exact wpAny_release' ⟨σ, H2, S2, r1.trans r2, q⟩
theorem A_sub {o i pos b} {Q : Loc → AHeap → Prop} (h : WE c c.env o σ H fun a H1 => WE c c.env i σ H1 fun k H2 => WStI c a k b σ H2 fun H3 => Q σ H3) : WA c (.Subscript o i pos) b σ H Q := fun vb ib s S => by
  rw [assign_Subscript]
  refine wpAny_bind (wpAny_holding (seq2 S h fun va s1 a H1 ia S1 r1 h1 => wpAny_bind (wpAny_holding (seq2 S1 h1 fun vk s2 k H2 ik S2 r2 h2 => wpAny_bind (wpAny_standAt (wpAny_bind (wpAny_holding (wpAny_mono (h2 va vk vb ia ik ib s2 S2) (fun _ s3 ⟨H3, S3, r3, q⟩ => ?_) fun _ _ e => e))))))))
  exact wpAny_release' ⟨σ, H3, S3, r1.trans (r2.trans r3), q⟩

theorem As_nil {as} {Q : Loc → AHeap → Prop} (q : Q σ H) : WAs c [] as σ H Q := fun vs is s S => wpAny_pure ⟨σ, H, S, Rest.refl s, q⟩
theorem As_cons {t ts a as} {Q : Loc → AHeap → Prop} (h : WA c t a σ H fun σ1 H1 => WAs c ts as σ1 H1 Q) (he : assignEach (t :: ts) c.env = (false, assign t c.env) :: assignEach ts c.env := by with_unfolding_all rfl) : WAs c (t :: ts) (a :: as) σ H Q := fun vs is s S => by
  cases is with
  | @cons _ v _ vs i is =>
    rw [he]
    show wpAny _ _ (do holding vs (assign t c.env v); assignInOrder ((assignEach ts c.env).map (·.2)) vs) _ _ _
    exact wpAny_bind (wpAny_holding (wpAny_mono (h v i s S) (fun _ s1 ⟨σ1, H1, S1, r1, q⟩ => wpAny_mono (q vs is s1 S1) (fun _ s2 ⟨σ2, H2, S2, r2, q⟩ => ⟨σ2, H2, S2, r1.trans r2, q⟩) fun _ _ e => e) fun _ _ e => e))
theorem A_tup {elts k pos l as} {Q : Loc → AHeap → Prop} (ok : c.OK d) (hl : H l = some (.tup as)) (h : WAs c elts as σ H Q) (hn : (assignEach elts c.env).length = as.length) (hstar : (assignEach elts c.env).findIdx? (·.1) = none) : WA c (.Tuple elts k pos) (.ref l) σ H Q := fun va ia s S => by
  cases ia
  obtain ⟨m, news, S'⟩ := id S
  obtain ⟨ob, hm, vs, n, rfl, is⟩ := S'.obj _ _ hl
  refine assign_Tuple_tuple (items := vs.toArray) ok.hh ⟨_, S'.N.get hm, rfl, n, rfl⟩ (by rw [hn, all2_length is]; simp) hstar fun h' hk => ?_
  have S2 : St c σ H { s with heap := h' } := S.keeps (tk := s.toks) fun b o e => hk b o (Nat.ne_of_lt (Heap.lt_size e)) e
  exact wpAny_mono (h vs is _ S2) (fun _ s2 ⟨σ2, H2, S2, r2, q⟩ => ⟨σ2, H2, S2, ⟨r2.1, r2.2, r2.3⟩, q⟩) fun _ _ e => e

theorem S_assign0 {t value pos} (h : WE c c.env value σ H fun a H1 => WA c t a σ H1 fun σ2 H2 => WS c rest σ2 H2 Q)
    (hs : swapsWithSole [t] value pos.line c.env = pure false := by with_unfolding_all rfl) (hw : swappedStores [t] value c.env = pure none := by with_unfolding_all rfl) (he : assignEach [t] c.env = [(false, assign t c.env)] := by with_unfolding_all rfl) : WS c (.Assign [t] value pos :: rest) σ H Q := WS_cons fun s S =>
  wpAny_Assign_stores (seq2 S h fun va s1 a H1 ia S1 r1 h1 => by
    rw [he]
    exact wpAny_mono (h1 va ia s1 S1) (fun _ s2 ⟨σ2, H2, S2, r2, q⟩ => ⟨_, σ2, H2, .next, S2, r1.trans r2, q⟩) fun _ _ e => e) hs hw

theorem S_assign {t value pos} (h : ∀ Q', CutE Q' (fun a H1 => WA c t a σ H1 fun σ2 H2 => WS c rest σ2 H2 Q) → WE c c.env value σ H Q')
    (hs : swapsWithSole [t] value pos.line c.env = pure false := by with_unfolding_all rfl) (hw : swappedStores [t] value c.env = pure none := by with_unfolding_all rfl) (he : assignEach [t] c.env = [(false, assign t c.env)] := by with_unfolding_all rfl) : WS c (.Assign [t] value pos :: rest) σ H Q := S_assign0 (h _ fun _ _ q => q) hs hw he

theorem notedNo {Q : Prop} {c : Cx} {env : Env} {E : Value → Shared → Prop} : ∀ e s, NoE e s → notedBy (model PP c.w) c.A env E e s := fun _ _ h => h.elim

def Sub (ρ σ : Loc) : Prop := ∀ x a, ρ.lookup x = some a → σ.lookup x = some a
theorem Sub.nil {σ : Loc} : Sub [] σ := fun _ _ e => nomatch e
theorem Sub.refl {σ : Loc} : Sub σ σ := fun _ _ e => e
theorem Sub.cons {ρ σ : Loc} {x a} (h : σ.lookup x = some a) (t : Sub ρ σ) : Sub ((x, a) :: ρ) σ := fun y b e => by
  rw [List.lookup_cons] at e
  cases hy : y == x with
  | true => rw [hy] at e; cases e; rw [beq_iff_eq.mp hy]; exact h
  | false => rw [hy] at e; exact t y b e
theorem St.sub {s} (S : St c σ H s) {ρ : Loc} (h : Sub ρ σ) : St c ρ H s := S.weaken h fun _ _ e => e
theorem WS.sub {ss ρ} (h : WS c ss ρ H Q) (hs : Sub ρ σ) : WS c ss σ H Q := fun s S => h s (S.sub hs)

inductive Kept (J : Loc → AHeap → Prop) (σ : Loc) (H : AHeap) : Prop
  | mk (ρ : Loc) (hs : Sub ρ σ) (h : J ρ H)
theorem S_while {test body pos} (I : Nat → Loc → AHeap → Prop) (n : Nat) (h0 : ∃ ρ, Sub ρ σ ∧ I n ρ H)
    (h : ∀ n σ H, I n σ H → WB c c.env test σ H fun b H1 => (b = true → WSb c body σ H1 fun fl σ2 H2 => match fl with | .next | .cont => ∃ m ρ, m < n ∧ Sub ρ σ2 ∧ I m ρ H2 | .brk => WS c rest σ2 H2 Q | .ret a => Q (.ret a) σ2 H2) ∧ (b = false → WS c rest σ H1 Q)) :
    WS c (.While test body [] pos :: rest) σ H Q := WS_cons fun s S =>
  wpAny_While (codeAny_whileLoop (fun n s' => ∃ σ H, I n σ H ∧ St c σ H s' ∧ Rest s s') (fun n s1 ⟨σ, H, hI, S1, r1⟩ => by
    refine wpAny_mono (h n σ H hI s1 S1) (fun b s2 ⟨H2, S2, r2, q⟩ => ?_) fun _ _ e => e.elim
    cases b with
    | false =>
      simp only [Bool.false_eq_true, if_false]
      exact wpAny_execs_nil ⟨_, σ, H2, .next, S2, r1.trans r2, q.2 rfl⟩
    | true =>
      simp only [if_true]
      refine wpAny_mono ((q.1 rfl).out s2 S2) (fun f s3 ⟨fl, σ3, H3, i, S3, r3, q⟩ => ?_) fun _ _ e => e.elim
      have r13 := r1.trans (r2.trans r3)
      cases i with
      | next => obtain ⟨m, ρ, hm, hs, hi⟩ := q; exact ⟨m, hm, ρ, H3, hi, S3.sub hs, r13⟩
      | cont => obtain ⟨m, ρ, hm, hs, hi⟩ := q; exact ⟨m, hm, ρ, H3, hi, S3.sub hs, r13⟩
      | brk => exact ⟨_, σ3, H3, .next, S3, r13, q⟩
      | ret i => exact ⟨_, σ3, H3, .ret i, S3, r13, q⟩) n (let ⟨ρ, hs, hI⟩ := h0; ⟨ρ, H, hI, S.sub hs, Rest.refl s⟩))
end

def AHeap.del (H : AHeap) (a : Addr) : AHeap := fun b => if b = a then none else H b
theorem AHeap.del_ne (H : AHeap) {a b : Addr} (h : b ≠ a) : H.del a b = H b := by simp [AHeap.del, h]

section
variable {c : Cx} {σ : Loc} {H : AHeap} {d : Nat} {s : Shared}

theorem St.drop (S : St c σ H s) {I : Addr} (hI : I ≠ c.z) (hL : I ≠ c.L) (h0 : c.h₀.get? I = none) {h' : Heap} {tk : Nat} (hk : ∀ b o, b ≠ I → s.heap.get? b = some o → h'.get? b = some o) : St c σ (H.del I) { s with heap := h', toks := tk } := by
  obtain ⟨m, news, S⟩ := S
  have hF : Fr c.h₀ c.L h' m := by
    refine ⟨?_, fun b o e => hk b o (fun q => ?_) (S.F.keep b o e), S.F.above⟩
    · obtain ⟨oL, es, ep, hL', r⟩ := S.F.ns
      exact ⟨oL, es, ep, hk _ _ (Ne.symm hL) hL', r⟩
    · rw [q, h0] at e; cases e
  refine ⟨m, news.filter (fun p => p.1 ≠ I), hF, fun p hp => ?_, ?_, S.loc, fun p hp => S.low p (List.mem_filter.mp hp).1, ?_, fun a o e => ?_⟩
  · obtain ⟨h1, h2⟩ := List.mem_filter.mp hp
    exact ⟨hk _ _ (by simpa using h2) (S.N p h1).1, (S.N p h1).2⟩
  · exact S.nd.sublist (List.Sublist.map _ List.filter_sublist)
  · obtain ⟨q, hq, e⟩ := S.ne
    exact ⟨q, List.mem_filter.mpr ⟨hq, by simpa [e] using Ne.symm hI⟩, e⟩
  · by_cases h : a = I
    · simp [AHeap.del, h] at e
    · rw [AHeap.del_ne _ h] at e
      obtain ⟨ob, hm, r⟩ := S.obj a o e
      exact ⟨ob, List.mem_filter.mpr ⟨hm, by simpa using h⟩, r⟩

structure Iter (c : Cx) (I : Addr) (xs : List AV) (src : AHeap → Prop) (it : Nat → Obj → Prop) : Prop where
  ne : I ≠ c.z
  neL : I ≠ c.L
  new : c.h₀.get? I = none
  mono : ∀ H H' : AHeap, src H → (∀ a o, H a = some o → a ≠ I → H' a = some o) → src H'
  next : ∀ i a σ H s, xs[i]? = some a → St c σ H s → H I = some (.pred (it i)) → src H →
    wpAny (model PP c.w) c.A (pyNext (.ref I)) (fun r s' => ∃ v, r = some v ∧ Is a v ∧ St c σ (H.set I (.pred (it (i + 1)))) s' ∧ Rest s s') NoE s
  self : ∀ i σ H s (Q : Value → Shared → Prop) (E : Value → Shared → Prop), St c σ H s → H I = some (.pred (it i)) → Q (.ref I) s → wpAny (model PP c.w) c.A (pyIter (.ref I)) Q E s
  done : ∀ σ H s, St c σ H s → H I = some (.pred (it xs.length)) → src H →
    wpAny (model PP c.w) c.A (pyNext (.ref I)) (fun r s' => r = none ∧ St c σ (H.del I) s' ∧ Rest s s') NoE s

theorem news_keep {h₀ h h' : Heap} {L d : Addr} {o' ob : Obj} {m : Str → Option Value} {news : List (Addr × Obj)} (F : Fr h₀ L h m) (N : News h₀ L h news) (nd : (news.map (·.1)).Nodup) (hm : (d, ob) ∈ news) (hs : ∀ b o, b ≠ d → h.get? b = some o → h'.get? b = some o) (ho : h'.get? d = some o') :
    Fr h₀ L h' m ∧ News h₀ L h' (updL d o' news) := by
  have D := N _ hm
  obtain ⟨oL, es, ep, hL, r⟩ := F.ns
  refine ⟨⟨⟨oL, es, ep, hs _ _ (Ne.symm D.2.1) hL, r⟩, fun b x q => hs b x (fun z => ?_) (F.keep b x q), F.above⟩, fun p hp => ?_⟩
  · have := D.2.2; rw [← z, q] at this; cases this
  · by_cases hpd : p.1 = d
    · obtain ⟨a, o⟩ := p
      simp only at hpd
      subst hpd
      have hself := updL_self (o' := o') hm
      have : (a, o) = (a, o') := by
        have hnd : ((updL a o' news).map (·.1)).Nodup := by rw [updL_map]; exact nd
        exact news_same.nodup_fst hnd hp hself
      cases this
      exact ⟨ho, D.2⟩
    · have hp' : p ∈ news := news_same.updL_old hpd hp
      exact ⟨hs _ _ hpd (N _ hp').1, (N _ hp').2⟩

inductive PostI (c : Cx) (σ : Loc) (Q : Addr → List AV → (AHeap → Prop) → (Nat → Obj → Prop) → AHeap → Prop) (s : Shared) (v : Value) (s' : Shared) : Prop
  | mk (I : Addr) (xs : List AV) (src : AHeap → Prop) (it : Nat → Obj → Prop) (H' : AHeap) (e : v = .ref I) (X : Iter c I xs src it) (S : St c σ H' s') (r : Rest s s') (h : H' I = some (.pred (it 0))) (hs : src H') (q : Q I xs src it H')
def WIt (c : Cx) (a : AV) (σ : Loc) (H : AHeap) (Q : Addr → List AV → (AHeap → Prop) → (Nat → Obj → Prop) → AHeap → Prop) : Prop :=
  ∀ va, Is a va → ∀ s, St c σ H s → wpAny (model PP c.w) c.A (pyIter va) (PostI c σ Q s) NoE s

theorem iter_news {m news} (S : StN c σ H s m news) : (∀ p ∈ news, p.1 < s.heap.objs.size) ∧ s.heap.objs.size ≠ c.z ∧ s.heap.objs.size ≠ c.L ∧ c.h₀.get? s.heap.objs.size = none := by
  have h1 : ∀ p ∈ news, p.1 < s.heap.objs.size := fun p hp => Heap.lt_size (S.N p hp).1
  refine ⟨h1, ?_, Nat.ne_of_gt S.F.ns.lt, ?_⟩
  · obtain ⟨q, hq, e⟩ := S.ne
    have := h1 q hq
    exact fun e' => absurd this (by rw [e, ← e']; exact Nat.lt_irrefl _)
  · cases e : c.h₀.get? s.heap.objs.size with
    | none => rfl
    | some o => exact absurd (Heap.lt_size (S.F.keep _ _ e)) (Nat.lt_irrefl _)

def listIt (l : Addr) (i : Nat) (o : Obj) : Prop := o.cls = .type "list_iterator" ∧ o.data = .fields #[.ref l, .int i 0]
theorem It_list {l xs} {Q} (ok : c.OK d) (hl : H l = some (.list xs)) (q : ∀ I, H I = none → Q I xs (fun H => H l = some (.list xs)) (listIt l) (H.set I (.pred (listIt l 0)))) : WIt c (.ref l) σ H Q := fun va i s S => by
  cases i
  obtain ⟨m, news, S⟩ := S
  obtain ⟨ob, hm, vs, n, rfl, is⟩ := S.obj _ _ hl
  obtain ⟨hlt, hz, hL, h0⟩ := iter_news S
  have hlI : l ≠ s.heap.objs.size := Nat.ne_of_lt (hlt _ hm)
  refine wpAny_pyIter_list (items := vs.toArray) ⟨_, S.N.get hm, rfl, n, rfl⟩ ?_
  refine ⟨_, xs, fun H => H l = some (.list xs), listIt l, _, rfl, ?_, ⟨m, _, S.alloc (tk := s.toks) (o := .pred (listIt l 0)) (S.F.push _) (S.N.push S.F _) hlt ⟨rfl, rfl⟩⟩, Rest.of _ _, AHeap.set_self _ _ _, (AHeap.set_ne _ _ hlI).trans hl, q _ (S.fresh hlt)⟩
  refine ⟨hz, hL, h0, fun H H' e h => h _ _ e hlI, fun i a σ' H' s' hx S' hI hs => ?_, fun i σ' H' s' Q E S' hI q => ?_, fun σ' H' s' S' hI hs => ?_⟩
  · obtain ⟨m', news', S'⟩ := S'
    obtain ⟨oi, hmi, hc, hd⟩ := S'.obj _ _ hI
    obtain ⟨ol, hml, vs', n', rfl, is'⟩ := S'.obj _ _ hs
    obtain ⟨v, hv, iv⟩ := all2_get is' _ _ hx
    refine wpAny_pyNext_list_item (items := vs'.toArray) (x := v) ⟨_, S'.N.get hmi, hc, hd⟩ ⟨_, S'.N.get hml, rfl, n', rfl⟩ (by simpa using hv) fun h' hit hs' => ?_
    obtain ⟨o', ho', hc', hd'⟩ := hit
    obtain ⟨F', N'⟩ := news_same S'.F S'.N S'.nd hmi hs' ho'
    exact ⟨v, rfl, iv, ⟨m', _, S'.upd (tk := s'.toks) (o := .pred _) hmi F' N' ⟨hc', hd'⟩⟩, Rest.of _ _⟩
  · obtain ⟨m', news', S'⟩ := S'
    obtain ⟨oi, hmi, hc, hd⟩ := S'.obj _ _ hI
    exact wpAny_pyIter_listiter ⟨_, S'.N.get hmi, hc, hd⟩ q
  · obtain ⟨m', news', S''⟩ := id S'
    obtain ⟨oi, hmi, hc, hd⟩ := S''.obj _ _ hI
    obtain ⟨ol, hml, vs', n', rfl, is'⟩ := S''.obj _ _ hs
    exact wpAny_pyNext_list_end (items := vs'.toArray) ok.hh ⟨_, S''.N.get hmi, hc, hd⟩ ⟨_, S''.N.get hml, rfl, n', rfl⟩ (by simp [all2_length is']) fun h' hk => ⟨rfl, S'.drop (tk := s'.toks) hz hL h0 (fun b o hb e => hk b o hb e), Rest.of _ _⟩

def tupIt (l : Addr) (i : Nat) (o : Obj) : Prop := o.cls = .type "tuple_iterator" ∧ o.data = .fields #[.ref l, .int i 0]
theorem It_tup {l xs} {Q} (ok : c.OK d) (hl : H l = some (.tup xs)) (q : ∀ I, H I = none → Q I xs (fun H => H l = some (.tup xs)) (tupIt l) (H.set I (.pred (tupIt l 0)))) : WIt c (.ref l) σ H Q := fun va i s S => by
  cases i
  obtain ⟨m, news, S⟩ := S
  obtain ⟨ob, hm, vs, n, rfl, is⟩ := S.obj _ _ hl
  obtain ⟨hlt, hz, hL, h0⟩ := iter_news S
  have hlI : l ≠ s.heap.objs.size := Nat.ne_of_lt (hlt _ hm)
  refine iter_tuple (items := vs.toArray) ⟨_, S.N.get hm, rfl, n, rfl⟩ ?_
  refine ⟨_, xs, fun H => H l = some (.tup xs), tupIt l, _, rfl, ?_, ⟨m, _, S.alloc (tk := s.toks) (o := .pred (tupIt l 0)) (S.F.push _) (S.N.push S.F _) hlt ⟨rfl, rfl⟩⟩, Rest.of _ _, AHeap.set_self _ _ _, (AHeap.set_ne _ _ hlI).trans hl, q _ (S.fresh hlt)⟩
  refine ⟨hz, hL, h0, fun H H' e h => h _ _ e hlI, fun i a σ' H' s' hx S' hI hs => ?_, fun i σ' H' s' Q E S' hI q => ?_, fun σ' H' s' S' hI hs => ?_⟩
  · obtain ⟨m', news', S'⟩ := S'
    obtain ⟨oi, hmi, hc, hd⟩ := S'.obj _ _ hI
    obtain ⟨ol, hml, vs', n', rfl, is'⟩ := S'.obj _ _ hs
    obtain ⟨v, hv, iv⟩ := all2_get is' _ _ hx
    refine wpAny_pyNext_tuple_item (items := vs'.toArray) (x := v) ⟨_, S'.N.get hmi, hc, hd⟩ ⟨_, S'.N.get hml, rfl, n', rfl⟩ (by simpa using hv) fun h' hit hs' => ?_
    obtain ⟨o', ho', hc', hd'⟩ := hit
    obtain ⟨F', N'⟩ := news_same S'.F S'.N S'.nd hmi hs' ho'
    exact ⟨v, rfl, iv, ⟨m', _, S'.upd (tk := s'.toks) (o := .pred _) hmi F' N' ⟨hc', hd'⟩⟩, Rest.of _ _⟩
  · obtain ⟨m', news', S'⟩ := S'
    obtain ⟨oi, hmi, hc, hd⟩ := S'.obj _ _ hI
    exact wpAny_pyIter_tupleiter ⟨_, S'.N.get hmi, hc, hd⟩ q
  · obtain ⟨m', news', S''⟩ := id S'
    obtain ⟨oi, hmi, hc, hd⟩ := S''.obj _ _ hI
    obtain ⟨ol, hml, vs', n', rfl, is'⟩ := S''.obj _ _ hs
    exact wpAny_pyNext_tuple_end (items := vs'.toArray) ok.hh ⟨_, S''.N.get hmi, hc, hd⟩ ⟨_, S''.N.get hml, rfl, n', rfl⟩ (by simp [all2_length is']) fun h' hk => ⟨rfl, S'.drop (tk := s'.toks) hz hL h0 (fun b o hb e => hk b o hb e), Rest.of _ _⟩

def rngIt (n : Int) (i : Nat) (o : Obj) : Prop := o = { cls := .type "range_iterator", dict := none, data := .fields #[rawInt i, rawInt (n - i), rawInt 1], slots := #[] }
def upto (n : Int) : List AV := (List.range n.toNat).map fun (i : Nat) => AV.int (i : Int)
theorem It_rng {l n} {Q} (ok : c.OK d) (hl : H l = some (.rng n)) (hn : 0 ≤ n) (hb : n < 2 ^ 60) (q : ∀ I, H I = none → Q I (upto n) (fun _ => True) (rngIt n) (H.set I (.pred (rngIt n 0)))) : WIt c (.ref l) σ H Q := fun va i s S => by
  cases i
  obtain ⟨m, news, S⟩ := S
  obtain ⟨ob, hm, t, u, v, rfl⟩ := S.obj _ _ hl
  obtain ⟨hlt, hz, hL, h0⟩ := iter_news S
  have hsz : Builtin.Range.rangeSize 0 n 1 = n := by rw [rangeSize_one]; split <;> omega
  refine wpAny_pyIter_range (a := 0) (b := n) (c := 1) (t := t) (u := u) (v := v) (S.N.get hm) (small_one (by decide) (by decide) (by omega) (by omega)) ?_
  refine ⟨_, upto n, fun _ => True, rngIt n, _, rfl, ?_, ⟨m, _, S.alloc (tk := s.toks) (o := .pred (rngIt n 0)) (S.F.push _) (S.N.push S.F _) hlt ?_⟩, Rest.of _ _, AHeap.set_self _ _ _, trivial, q _ (S.fresh hlt)⟩
  · refine ⟨hz, hL, h0, fun H H' e h => trivial, fun i a σ' H' s' hx S' hI hs => ?_, fun i σ' H' s' Q E S' hI q => ?_, fun σ' H' s' S' hI hs => ?_⟩
    · obtain ⟨m', news', S'⟩ := S'
      obtain ⟨oi, hmi, ho⟩ := S'.obj _ _ hI
      have hin : i < n.toNat ∧ a = .int i := by
        unfold upto at hx
        rw [List.getElem?_map, Option.map_eq_some_iff] at hx
        obtain ⟨j, hj, rfl⟩ := hx
        obtain ⟨h1, h2⟩ := List.getElem?_eq_some_iff.mp hj
        simp at h1 h2
        exact ⟨by omega, by rw [← h2]⟩
      obtain ⟨hin, rfl⟩ := hin
      refine wpAny_pyNext_range_item (x := i) (left := n - i) (step := 1) (by have h := S'.N.get hmi; rw [show oi = _ from ho] at h; exact h) (by omega) fun h' hit hs' => ?_
      obtain ⟨F', N'⟩ := news_same S'.F S'.N S'.nd hmi hs' hit
      refine ⟨_, rfl, .int _ _, ⟨m', _, S'.upd (tk := _) (o := .pred _) hmi F' N' ?_⟩, Rest.of _ _⟩
      show rngIt n (i + 1) _
      unfold rngIt
      have e1 : (i : Int) + 1 = ((i + 1 : Nat) : Int) := by omega
      have e2 : n - (i : Int) - 1 = n - ((i + 1 : Nat) : Int) := by omega
      rw [e1, e2]
    · obtain ⟨m', news', S'⟩ := S'
      obtain ⟨oi, hmi, ho⟩ := S'.obj _ _ hI
      exact wpAny_pyIter_rangeiter (by have h := S'.N.get hmi; rw [show oi = _ from ho] at h; exact h) q
    · obtain ⟨m', news', S''⟩ := id S'
      obtain ⟨oi, hmi, ho⟩ := S''.obj _ _ hI
      exact wpAny_pyNext_range_end (x := (upto n).length) (left := n - (upto n).length) (step := 1) ok.hh (by have h := S''.N.get hmi; rw [show oi = _ from ho] at h; exact h) (by simp [upto]; omega) fun h' hk => ⟨rfl, S'.drop (tk := s'.toks) hz hL h0 (fun b o hb e => hk b o hb e), Rest.of _ _⟩
  · show rngIt n 0 _
    unfold rngIt
    rw [hsz]
    simp

def keyIt (l : Addr) (n ep : Nat) (i : Nat) (o : Obj) : Prop := o.cls = .type "dict_keyiterator" ∧ o.data = .fields #[.ref l, .int i 0, .int n 0, .int ep 0]
theorem It_dict {l kvs ep} {Q} (ok : c.OK d) (hl : H l = some (.dict kvs ep)) (q : ∀ I, H I = none → Q I (kvs.map fun p => .int p.1) (fun H => H l = some (.dict kvs ep)) (keyIt l kvs.length ep) (H.set I (.pred (keyIt l kvs.length ep 0)))) : WIt c (.ref l) σ H Q := fun va i s S => by
  cases i
  obtain ⟨m, news, S⟩ := S
  obtain ⟨ob, hm, kv', es, hd1, hd2, hd3, hd4, hd5, is⟩ := S.obj _ _ hl
  obtain ⟨hlt, hz, hL, h0⟩ := iter_news S
  have hlI : l ≠ s.heap.objs.size := Nat.ne_of_lt (hlt _ hm)
  have hlen := all2_length is
  refine wpAny_pyIter_dict (knd := intKind PP c.w) (kvs := kv') (ep := ep) (not_modules S hm) ⟨_, es, S.N.get hm, hd1, hd2, hd3, hd4, hd5⟩ ?_
  refine ⟨_, kvs.map fun p => .int p.1, fun H => H l = some (.dict kvs ep), keyIt l kvs.length ep, _, rfl, ?_, ⟨m, _, S.alloc (tk := s.toks) (o := .pred (keyIt l kvs.length ep 0)) (S.F.push _) (S.N.push S.F _) hlt ⟨rfl, by rw [hlen]; rfl⟩⟩, Rest.of _ _, AHeap.set_self _ _ _, (AHeap.set_ne _ _ hlI).trans hl, q _ (S.fresh hlt)⟩
  refine ⟨hz, hL, h0, fun H H' e h => h _ _ e hlI, fun i a σ' H' s' hx S' hI hs => ?_, fun i σ' H' s' Q E S' hI q => ?_, fun σ' H' s' S' hI hs => ?_⟩
  · obtain ⟨m', news', S'⟩ := S'
    obtain ⟨oi, hmi, hc, hd⟩ := S'.obj _ _ hI
    obtain ⟨ob', hm', kv2, es2, hd1', hd2', hd3', hd4', hd5', is'⟩ := S'.obj _ _ hs
    have hlen' := all2_length is'
    rw [List.getElem?_map, Option.map_eq_some_iff] at hx
    obtain ⟨p, hp, rfl⟩ := hx
    obtain ⟨p', hp', hk1, hk2⟩ := all2_get is' _ _ hp
    have hin : i < kv2.length := (List.getElem?_eq_some_iff.mp hp').1
    refine (Walks.dictKeys (prog := PP) (w := c.w) (knd := intKind PP c.w) ok.hh s.heap.objs.size l hlI kv2 ep).item i s' _ _ hin ⟨⟨_, S'.N.get hmi, hc, by rw [hd, hlen']⟩, ⟨_, es2, S'.N.get hm', hd1', hd2', hd3', hd4', hd5'⟩⟩ fun v h' tk hP hst hk => ?_
    obtain ⟨k, x, hkx, hkv⟩ := hP
    rw [hp'] at hkx
    obtain ⟨t, rfl⟩ := Value.isInt_shape hkv
    obtain ⟨⟨o', ho', hc', hd'⟩, _⟩ := hst
    obtain ⟨F', N'⟩ := news_keep S'.F S'.N S'.nd hmi (fun b o hb e => hk b o (by simpa using hb) e) ho'
    refine ⟨_, rfl, ?_, ⟨m', _, S'.upd (tk := tk) (o := .pred _) hmi F' N' ⟨hc', by rw [hd', hlen']⟩⟩, Rest.of _ _⟩
    cases hkx
    rw [hk1]; exact .int _ _
  · obtain ⟨m', news', S'⟩ := S'
    obtain ⟨oi, hmi, hc, hd⟩ := S'.obj _ _ hI
    exact wpAny_pyIter_keyiter ⟨_, S'.N.get hmi, hc, hd⟩ q
  · obtain ⟨m', news', S''⟩ := id S'
    obtain ⟨oi, hmi, hc, hd⟩ := S''.obj _ _ hI
    obtain ⟨ob', hm', kv2, es2, hd1', hd2', hd3', hd4', hd5', is'⟩ := S''.obj _ _ hs
    have hlen' := all2_length is'
    rw [List.length_map] at hd
    exact (Walks.dictKeys (prog := PP) (w := c.w) (knd := intKind PP c.w) ok.hh s.heap.objs.size l hlI kv2 ep).done s' _ _ ⟨⟨_, S''.N.get hmi, hc, by rw [hd, hlen']⟩, ⟨_, es2, S''.N.get hm', hd1', hd2', hd3', hd4', hd5'⟩⟩ fun h' tk hk => ⟨rfl, S'.drop (tk := tk) hz hL h0 (fun b o hb e => hk b o (by simpa using hb) e), Rest.of _ _⟩

inductive ForOK (c : Cx) (σ : Loc) (target : Expr) (body rest : List Stmt) (Q : Fl → Loc → AHeap → Prop) (I : Addr) (xs : List AV) (src : AHeap → Prop) (it : Nat → Obj → Prop) (H2 : AHeap) : Prop
  | mk (Inv : Nat → Loc → AHeap → Prop) (h0 : Kept (Inv 0) σ H2)
      (turn : ∀ i a σ1 H1, xs[i]? = some a → Inv i σ1 H1 → H1 I = some (.pred (it i)) → src H1 → WA c target a σ1 (H1.set I (.pred (it (i + 1)))) fun σ2 H2 => WSb c body σ2 H2 fun fl σ3 H3 => match fl with
        | .next | .cont => Kept (Inv (i + 1)) σ3 H3 ∧ H3 I = some (.pred (it (i + 1))) ∧ src H3
        | .brk => WS c rest σ3 H3 Q
        | .ret a => Q (.ret a) σ3 H3)
      (fin : ∀ σ1 H1, Inv xs.length σ1 H1 → src H1 → WS c rest σ1 (H1.del I) Q)
theorem S_for {Q : Fl → Loc → AHeap → Prop} {rest : List Stmt} {target iter body pos}
    (h : WE c c.env iter σ H fun a H1 => WIt c a σ H1 (ForOK c σ target body rest Q))
    (hs : ∀ x, foldedSetIterable iter c.env x = pure x := by intro _; with_unfolding_all rfl) (ht : ∀ it v, letOwnedTupleGo target it v = pure () := by intro _ _; with_unfolding_all rfl) : WS c (.For target iter body [] pos :: rest) σ H Q := WS_cons fun s S =>
  wpAny_For (seq2 S h fun va s1 a H1 ia S1 r1 h1 => wpAny_mono (h1 va ia s1 S1) (fun v s2 ⟨I, ys, src, it, H2, hv, X, S2, r2, hI, hsrc, ⟨Inv, ⟨ρ0, hsub0, hInv⟩, turn, fin⟩⟩ => by
    subst hv
    refine codeAny_forLoop (fun n s' => ∃ i σ H, n = ys.length - i ∧ i ≤ ys.length ∧ Inv i σ H ∧ H I = some (.pred (it i)) ∧ src H ∧ St c σ H s' ∧ Rest s s') (fun n s3 ⟨i, σ3, H3, hn, hi, hInv, hI, hsrc, S3, r3⟩ => ?_) (ys.length - 0) ⟨0, ρ0, H2, rfl, Nat.zero_le _, hInv, hI, hsrc, S2.sub hsub0, r1.trans r2⟩ (ht _)
    by_cases hlt : i < ys.length
    · have hx : ys[i]? = some ys[i] := List.getElem?_eq_getElem hlt
      refine wpAny_mono (X.next i _ σ3 H3 s3 hx S3 hI hsrc) (fun r s4 ⟨v, hr, iv, S4, r4⟩ => ?_) fun _ _ e => e.elim
      subst hr
      refine wpAny_mono (turn i _ σ3 H3 hx hInv hI hsrc v iv s4 S4) (fun _ s5 ⟨σ5, H5, S5, r5, h5⟩ => ?_) fun _ _ e => e.elim
      refine wpAny_mono (h5.out s5 S5) (fun f s6 ⟨fl, σ6, H6, iF, S6, r6, q⟩ => ?_) fun _ _ e => e.elim
      have r16 := r3.trans (r4.trans (r5.trans r6))
      cases iF with
      | next => obtain ⟨⟨ρ, hs, hi⟩, q2, q3⟩ := q; exact ⟨ys.length - (i + 1), by omega, i + 1, ρ, H6, rfl, hlt, hi, q2, q3, S6.sub hs, r16⟩
      | cont => obtain ⟨⟨ρ, hs, hi⟩, q2, q3⟩ := q; exact ⟨ys.length - (i + 1), by omega, i + 1, ρ, H6, rfl, hlt, hi, q2, q3, S6.sub hs, r16⟩
      | brk => exact ⟨_, σ6, H6, .next, S6, r16, q⟩
      | ret i => exact ⟨_, σ6, H6, .ret i, S6, r16, q⟩
    · have hi' : i = ys.length := by omega
      subst hi'
      refine wpAny_mono (X.done σ3 H3 s3 S3 hI hsrc) (fun r s4 ⟨hr, S4, r4⟩ => ?_) fun _ _ e => e.elim
      subst hr
      exact wpAny_execs_nil ⟨_, σ3, _, .next, S4, r3.trans r4, fin σ3 H3 hInv hsrc⟩) fun _ _ e => e) hs
end

section
variable {c : Cx} {env : Env} {σ : Loc} {H : AHeap} {d : Nat} {s : Shared}

def WTests (c : Cx) (env : Env) (ifs : List Expr) (σ : Loc) (H : AHeap) (Q : Bool → AHeap → Prop) : Prop :=
  ∀ s, St c σ H s → wpAny (model PP c.w) c.A (forIn ifs true fun t r => if r = true then do let ok ← isTrue t env (eval t env); pure (ForInStep.yield ok) else pure (ForInStep.yield r)) (PostB c σ Q s) NoE s
def WTb (c : Cx) (env : Env) (ifs : List Expr) (σ : Loc) (H : AHeap) (Q : Bool → AHeap → Prop) : Prop := ∀ Q' : Bool → AHeap → Prop, CutB Q' Q → WTests c env ifs σ H Q'
theorem WTb_in {c env e σ H} {Q : Bool → AHeap → Prop} (h : ∀ Q' : Bool → AHeap → Prop, CutB Q' Q → WTests c env e σ H Q') : WTb c env e σ H Q := h
theorem WTb.out {c env e σ H} {Q : Bool → AHeap → Prop} (h : WTb c env e σ H Q) : WTests c env e σ H Q := h Q fun _ _ q => q
theorem Ts_nil {Q : Bool → AHeap → Prop} (q : Q true H) : WTests c env [] σ H Q := fun s S => by
  simp only [List.forIn_nil]
  exact wpAny_pure ⟨H, S, Rest.refl s, q⟩
theorem Ts_one {t} {Q : Bool → AHeap → Prop} (h : WB c env t σ H Q) : WTests c env [t] σ H Q := fun s S => by
  simp only [List.forIn_cons, List.forIn_nil, if_true]
  exact wpAny_bind (wpAny_bind (wpAny_mono (h s S) (fun b s' hb => wpAny_pure (wpAny_pure hb)) fun _ _ x => x))

theorem ns_of_obj {h : Heap} {a : Addr} {o : Obj} {m : Str → Option Value} (ho : h.get? a = some o) (hn : NsObj o m) : h.Ns a m := let ⟨es, ep, r⟩ := hn; ⟨o, es, ep, ho, r⟩

theorem E_clocal {scope cl C x pos a ρ} (hk : scope.kind = .function) (hx : (compEnvC scope cl C env).kindOf x = some .local) (hC : H C = some (.locals ρ)) (e : ρ.lookup x = some a) {Q} (q : Q a H) (hd : (x == ("__debug__" : Str)) = false := by decide) :
    WE c (compEnvC scope cl C env) (.Name x pos) σ H Q := WV.leaf q fun s R S r => by
  obtain ⟨m, news, S⟩ := S
  obtain ⟨ob, hm, mC, hn, hρ⟩ := S.obj _ _ hC
  obtain ⟨v, hv, i⟩ := hρ x a e
  exact wpAny_Name (wpAny_loadName_local (env := compEnvC scope cl C env) hk hx (ns_of_obj (S.N.get hm) hn) hv (r _ s.toks i)) hd
theorem E_cfree {scope cl C x pos a ca} (hk : scope.kind = .function) (hx : (compEnvC scope cl C env).kindOf x = some .cell) (hl : cl.lookup x = some ca) (hc : H ca = some (.cell (some a))) {Q} (q : Q a H) (hd : (x == ("__debug__" : Str)) = false := by decide) :
    WE c (compEnvC scope cl C env) (.Name x pos) σ H Q := WV.leaf q fun s R S r => by
  obtain ⟨m, news, S⟩ := S
  obtain ⟨ob, hm, u, hu, i⟩ := S.obj _ _ hc
  cases u with
  | none => exact i.elim
  | some v => exact wpAny_Name (wpAny_loadName_cell (env := compEnvC scope cl C env) hk hx hl ⟨_, S.N.get hm, hu⟩ (r _ s.toks i)) hd

def CompIn (c : Cx) (env : Env) (elt iter : Expr) (x : Str) (ifs : List Expr) (scope : Scope) (cl : List (Str × Addr)) (σ : Loc) (H : AHeap) (Fi : Addr → AHeap → Prop) : Prop :=
  WE c env iter σ H fun a H1 => WIt c a σ H1 fun I xs src it H2 => xs.length ≤ 1000 ∧ ∀ D C, H2 D = none → H2 C = none → C ≠ D → ∃ Inv : Nat → List AV → AHeap → Prop,
      Inv 0 [] ((H2.set D (.list [])).set C (.locals [])) ∧
      (∀ i a zs H3, xs[i]? = some a → Inv i zs H3 → zs.length ≤ i → H3 I = some (.pred (it i)) → src H3 → H3 D = some (.list zs) →
        WTb c (compEnvC scope cl C env) ifs σ ((H3.set I (.pred (it (i + 1)))).set C (.locals [(x, a)])) fun b H4 =>
          (b = false → Inv (i + 1) zs H4 ∧ H4 I = some (.pred (it (i + 1))) ∧ src H4 ∧ H4 D = some (.list zs) ∧ ∃ ρ, H4 C = some (.locals ρ)) ∧
          (b = true → WEb c (compEnvC scope cl C env) elt σ H4 fun y H5 => H5 D = some (.list zs) ∧ Inv (i + 1) (zs ++ [y]) (H5.set D (.list (zs ++ [y]))) ∧ H5 I = some (.pred (it (i + 1))) ∧ src (H5.set D (.list (zs ++ [y]))) ∧ ∃ ρ, H5 C = some (.locals ρ))) ∧
      (∀ zs H3, Inv xs.length zs H3 → H3 D = some (.list zs) → src H3 → Fi D ((H3.del I).del C))
theorem comp_core {elt iter : Expr} {x : Str} {px : Pos} {ifs : List Expr} {scope : Scope} {pos : Pos} {cl : List (Str × Addr)} {Fi : Addr → AHeap → Prop} {use : Option (Value → Sem Unit)} {P : Value → Shared → Prop} {p0 : Pos} (S : St c σ H s)
    (hclos : closureFor scope env = pure cl) (hcell : ∀ y ∈ scope.names, y.2 ≠ .cell) (hkind : scope.kind = .function) (hnames : ∀ y ∈ scope.names, y.2 = .local → scope.names.lookup y.1 = some .local)
    (hx : scope.names.lookup x = some .local) (h : CompIn c env elt iter x ifs scope cl σ H Fi) (hs : ∀ x, foldedSetIterable iter env x = pure x)
    (hu : ∀ D C I (H3 : AHeap) s4 ρ v, Fi D ((H3.del I).del C) → St c σ (H3.del I) s4 → (H3.del I) C = some (.locals ρ) → Rest s s4 → C ≠ c.z ∧ C ≠ c.L ∧ c.h₀.get? C = none → compPost (model PP c.w) c.A NoE use P (.ref D) C (.ok v) s4) :
    wpAny (model PP c.w) c.A (comprehension (.ListComp elt [⟨.Name x px, iter, ifs, 0⟩] scope pos) scope env p0 (newList []) false (eval iter env) use) P NoE s := by
  refine wpAny_comprehension_free (use := use) rfl hs hclos hkind hnames (seq2 S h fun va s1 a H1 ia S1 r1 h1 => wpAny_mono (h1 va ia s1 S1) (fun v s2 ⟨I, ys, src, it, H2, hv, X, S2, r2, hI, hsrc, hlen, hDC⟩ => ?_) fun _ _ e => e)
  subst hv
  obtain ⟨m, news, S2⟩ := S2
  have r12 := r1.trans r2
  have hltD : ∀ p ∈ news, p.1 < s2.heap.objs.size := fun p hp => Heap.lt_size (S2.N p hp).1
  refine newList_N S2.F S2.N (fun h' F' N' => ?_) (by decide +kernel)
  have SD := S2.alloc (h' := h') (tk := s2.toks) (o := .list []) F' N' hltD ⟨[], 0, rfl, .nil⟩
  have hDn := S2.fresh hltD
  generalize hDe : s2.heap.objs.size = D at *
  obtain ⟨hltC, hCz, hCL, hC0⟩ := iter_news SD
  have hCD : h'.objs.size ≠ D := Nat.ne_of_gt (hltC _ (.head _))
  have hCn1 := SD.fresh hltC
  have hCn : H2 h'.objs.size = none := by rw [← AHeap.set_ne H2 (.list []) hCD]; exact hCn1
  refine wpAny_newFunctionEnv hcell (by intro y hy; simp at hy) (fun h₁ hns hsb => ?_) hkind
  dsimp only at hns hsb ⊢
  have hk1 : ∀ b o, h'.get? b = some o → h₁.get? b = some o := fun b o e => (hsb.2 b (Nat.ne_of_lt (Heap.lt_size e))).trans (Heap.get?_push_of_some _ e)
  generalize hCe : h'.objs.size = C at *
  obtain ⟨oC, esC, epC, hoC, hdC, hkC, hfC⟩ := hns
  have SC := SD.alloc (h' := h₁) (tk := s2.toks) (l := C) (ob := oC) (o := .locals []) (SD.F.keeps hk1) (fun p hp => by
    rcases List.mem_cons.mp hp with rfl | hp
    · exact ⟨hoC, hCL, hC0⟩
    · exact (SD.N.grown hk1) p hp) hltC ⟨_, ⟨esC, epC, hdC, hkC, hfC⟩, fun x a e => nomatch e⟩
  obtain ⟨Inv, hInv0, turn, fin⟩ := hDC D C hDn hCn hCD
  have hID : I ≠ D := fun e => by rw [e, hDn] at hI; cases hI
  have hIC : I ≠ C := fun e => by rw [e, hCn] at hI; cases hI
  have hI0 : ((H2.set D (.list [])).set C (.locals [])) I = some (.pred (it 0)) := by rw [AHeap.set_ne _ _ hIC, AHeap.set_ne _ _ hID]; exact hI
  have hx' : (compEnvC scope cl C env).kindOf x = some .local := lookup_relabel_local hx
  have hp : ((compEnvC scope cl C env).scope.kind == .class || ((compEnvC scope cl C env).scope.kind == .module && (compEnvC scope cl C env).locals != (compEnvC scope cl C env).globals)) = false := by simp [compEnvC, relabel, hkind]
  have loop : codeAny (model PP c.w) c.A (.compLoop (.ListComp elt [⟨.Name x px, iter, ifs, 0⟩] scope pos) 0 (.ref I) (.ref D) (compEnvC scope cl C env)) (compPost (model PP c.w) c.A NoE use P (.ref D) C) { s2 with heap := h₁, toks := s2.toks + 0 } := by
    refine codeAny_compLoop_tests (fun n s' => ∃ i zs H3 ρ, n = ys.length - i ∧ i ≤ ys.length ∧ Inv i zs H3 ∧ zs.length ≤ i ∧ H3 I = some (.pred (it i)) ∧ src H3 ∧ H3 D = some (.list zs) ∧ H3 C = some (.locals ρ) ∧ St c σ H3 s' ∧ Rest s s') ?_ (ys.length - 0)
      ⟨0, [], _, [], rfl, Nat.zero_le _, hInv0, Nat.le_refl _, hI0, X.mono _ _ hsrc (fun a o e hne => by
        have h1 : a ≠ D := fun q => by rw [q, hDn] at e; cases e
        have h2 : a ≠ C := fun q => by rw [q, hCn] at e; cases e
        rw [AHeap.set_ne _ _ h2, AHeap.set_ne _ _ h1]; exact e), (AHeap.set_ne _ _ (Ne.symm hCD)).trans (AHeap.set_self _ _ _), AHeap.set_self _ _ _, ⟨m, _, SC.F, SC.N, SC.nd, SC.loc, SC.low, SC.ne, SC.obj⟩, ⟨r12.1, r12.2, r12.3⟩⟩
    rintro n s3 ⟨i, zs, H3, ρ, hn, hi, hInv, hzs, hI3, hsrc3, hD3, hC3, S3, r3⟩
    by_cases hlt : i < ys.length
    · have hxi : ys[i]? = some ys[i] := List.getElem?_eq_getElem hlt
      refine wpAny_mono (X.next i _ σ H3 s3 hxi S3 hI3 hsrc3) (fun r s4 ⟨v, hr, iv, S4, r4⟩ => ?_) fun _ _ e => e.elim
      subst hr
      obtain ⟨m4, news4, S4⟩ := S4
      have hC4 : (H3.set I (.pred (it (i + 1)))) C = some (.locals ρ) := (AHeap.set_ne _ _ (Ne.symm hIC)).trans hC3
      obtain ⟨oC4, hmC, mC, hnC, hρ⟩ := S4.obj _ _ hC4
      refine wpAny_assign_Name (wpAny_storeName_local hx' (ns_of_obj (S4.N.get hmC) hnC) (fun h5 hn5 hs5 => ?_) hp)
      obtain ⟨o5, es5, ep5, ho5, hd5, hk5, hf5⟩ := hn5
      obtain ⟨F5, N5⟩ := news_same S4.F S4.N S4.nd hmC hs5 ho5
      have S5 := S4.upd (h' := h5) (tk := s4.toks + 1) (o := .locals [(x, ys[i])]) hmC F5 N5 ⟨_, ⟨es5, ep5, hd5, hk5, hf5⟩, fun y a e => by
        rw [List.lookup_cons] at e
        by_cases hy : y = x
        · subst hy; simp only [beq_self_eq_true] at e; cases e; exact ⟨v, by simp, iv⟩
        · rw [beq_eq_false_iff_ne.mpr hy] at e; cases e⟩
      refine wpAny_mono ((turn i _ zs H3 hxi hInv hzs hI3 hsrc3 hD3).out _ ⟨m4, _, S5⟩) (fun b s6 ⟨H6, S6, r6, q6⟩ => ?_) fun _ _ e => e.elim
      have r36 : Rest s s6 := r3.trans (r4.trans (Rest.trans (Rest.of h5 (s4.toks + 1)) r6))
      cases b with
      | false =>
        simp only [Bool.false_eq_true, if_false]
        obtain ⟨k1, k2, k3, k4, ρ', k5⟩ := q6.1 rfl
        exact ⟨ys.length - (i + 1), by omega, i + 1, zs, H6, ρ', rfl, hlt, k1, by omega, k2, k3, k4, k5, S6, r36⟩
      | true =>
        simp only [if_true]
        refine wpAny_mono ((q6.2 rfl).out s6 S6) (fun y s7 ⟨b, H7, iy, S7, r7, q7⟩ => ?_) fun _ _ e => e.elim
        obtain ⟨k4, k1, k2, k3, ρ', k5⟩ := q7
        obtain ⟨m7, news7, S7⟩ := S7
        obtain ⟨o7, hm7, vs7, n7, rfl, is7⟩ := S7.obj _ _ k4
        refine append_K S7.F S7.N (updL_upd S7.nd hm7) (fun h8 F8 N8 => ?_) ?_
        · have e2 : vs7.toArray.push y = (vs7 ++ [y]).toArray := by simp
          rw [e2] at N8
          refine ⟨ys.length - (i + 1), by omega, i + 1, zs ++ [b], H7.set D (.list (zs ++ [b])), ρ', rfl, hlt, k1, by simp; omega, (AHeap.set_ne _ _ hID).trans k2, k3, AHeap.set_self _ _ _, (AHeap.set_ne _ _ hCD).trans k5, ⟨m7, _, S7.upd (tk := s7.toks) (o := .list _) hm7 F8 N8 ⟨_, n7 + 1, rfl, all2_append is7 (.cons iy .nil)⟩⟩, r36.trans (r7.trans (Rest.of _ _))⟩
        · show vs7.toArray.size ≤ sizeLine
          rw [List.size_toArray, ← all2_length is7]; exact Nat.le_trans (by omega) sizeLine_ge
    · have hi' : i = ys.length := by omega
      subst hi'
      refine wpAny_mono (X.done σ H3 s3 S3 hI3 hsrc3) (fun r s4 ⟨hr, S4, r4⟩ => ?_) fun _ _ e => e.elim
      subst hr
      have hC4 : (H3.del I) C = some (.locals ρ) := (AHeap.del_ne _ (Ne.symm hIC)).trans hC3
      exact hu D C I H3 s4 ρ _ (fin zs H3 hInv hD3 hsrc3) S4 hC4 (r3.trans r4) ⟨hCz, hCL, hC0⟩
  exact codeAny_compStart_list loop (X.self 0 σ _ _ _ _ ⟨m, _, SC.F, SC.N, SC.nd, SC.loc, SC.low, SC.ne, SC.obj⟩ hI0 loop)
theorem E_comp {elt iter : Expr} {x : Str} {px : Pos} {ifs : List Expr} {scope : Scope} {pos : Pos} {cl : List (Str × Addr)} {Q : AV → AHeap → Prop} (ok : c.OK d)
    (hclos : closureFor scope env = pure cl) (hcell : ∀ y ∈ scope.names, y.2 ≠ .cell) (hkind : scope.kind = .function) (hnames : ∀ y ∈ scope.names, y.2 = .local → scope.names.lookup y.1 = some .local)
    (hx : scope.names.lookup x = some .local)
    (h : WE c env iter σ H fun a H1 => WIt c a σ H1 fun I xs src it H2 => xs.length ≤ 1000 ∧ ∀ D C, H2 D = none → H2 C = none → C ≠ D → ∃ Inv : Nat → List AV → AHeap → Prop,
      Inv 0 [] ((H2.set D (.list [])).set C (.locals [])) ∧
      (∀ i a zs H3, xs[i]? = some a → Inv i zs H3 → zs.length ≤ i → H3 I = some (.pred (it i)) → src H3 → H3 D = some (.list zs) →
        WTb c (compEnvC scope cl C env) ifs σ ((H3.set I (.pred (it (i + 1)))).set C (.locals [(x, a)])) fun b H4 =>
          (b = false → Inv (i + 1) zs H4 ∧ H4 I = some (.pred (it (i + 1))) ∧ src H4 ∧ H4 D = some (.list zs) ∧ ∃ ρ, H4 C = some (.locals ρ)) ∧
          (b = true → WEb c (compEnvC scope cl C env) elt σ H4 fun y H5 => H5 D = some (.list zs) ∧ Inv (i + 1) (zs ++ [y]) (H5.set D (.list (zs ++ [y]))) ∧ H5 I = some (.pred (it (i + 1))) ∧ src (H5.set D (.list (zs ++ [y]))) ∧ ∃ ρ, H5 C = some (.locals ρ))) ∧
      (∀ zs H3, Inv xs.length zs H3 → H3 D = some (.list zs) → src H3 → Q (.ref D) ((H3.del I).del C)))
    (hs : ∀ x, foldedSetIterable iter env x = pure x := by intro _; with_unfolding_all rfl) :
    WE c env (.ListComp elt [⟨.Name x px, iter, ifs, 0⟩] scope pos) σ H Q := fun s S => by
  rw [eval_ListComp]
  refine comp_core (Fi := fun D H => Q (.ref D) H) (use := none) (P := PostV c σ Q s) S hclos hcell hkind hnames hx h hs fun D C I H3 s4 ρ v q S4 hC4 r4 k => ?_
  · obtain ⟨m4, news4, S4'⟩ := id S4
    obtain ⟨oC4, hmC, mC, hnC, hρ⟩ := S4'.obj _ _ hC4
    exact ⟨mC, ns_of_obj (S4'.N.get hmC) hnC, fun h5 hs5 => ⟨_, _, .ref D, S4.drop (tk := s4.toks) k.1 k.2.1 k.2.2 (fun b o hb e => (hs5.2 b hb).trans e), r4.trans (Rest.of _ _), q⟩⟩
end

section
variable {c : Cx} {env : Env} {σ : Loc} {H : AHeap} {d : Nat} {s : Shared} {Q : AV → AHeap → Prop}

theorem F_len {l xs} (hl : H l = some (.list xs)) (hs : xs.length ≤ 2000) (q : Q (.int xs.length) H) : WCall c (.builtin "len") [.ref l] σ H Q := fun vs is s S => by
  rcases is with _ | ⟨i, is⟩; cases is; cases i
  obtain ⟨m, news, S⟩ := id S
  obtain ⟨ob, hm, vs, n, rfl, is⟩ := S.obj _ _ hl
  have e := all2_length is
  refine PyProof.Rows.len_list (items := vs.toArray) ⟨_, S.N.get hm, rfl, n, rfl⟩ (by simp; omega) ⟨_, H, ?_, St.toks ⟨m, news, S⟩ _, Rest.of s.heap _, q⟩
  have : (vs.toArray.size : Int) = xs.length := by simp [e]
  rw [this]; exact .int _ _
theorem F_lenT {l xs} (hl : H l = some (.tup xs)) (hs : xs.length ≤ 2000) (q : Q (.int xs.length) H) : WCall c (.builtin "len") [.ref l] σ H Q := fun vs is s S => by
  rcases is with _ | ⟨i, is⟩; cases is; cases i
  obtain ⟨m, news, S⟩ := id S
  obtain ⟨ob, hm, vs, n, rfl, is⟩ := S.obj _ _ hl
  have e := all2_length is
  refine PyProof.Rows.len_tuple (items := vs.toArray) ⟨_, S.N.get hm, rfl, n, rfl⟩ (by simp; omega) ⟨_, H, ?_, St.toks ⟨m, news, S⟩ _, Rest.of s.heap _, q⟩
  have : (vs.toArray.size : Int) = xs.length := by simp [e]
  rw [this]; exact .int _ _
theorem F_int {k} (q : Q (.int k) H) : WCall c (.type "int") [.int k] σ H Q := fun vs is s S => by
  rcases is with _ | ⟨i, is⟩; cases is; cases i
  exact call_int_int ⟨_, H, .int _ _, S, Rest.refl s, q⟩
theorem F_abs {k : Int} (q : Q (.int (if k < 0 then -k else k)) H) : WCall c (.builtin "abs") [.int k] σ H Q := fun vs is s S => by
  rcases is with _ | ⟨i, is⟩; cases is; cases i
  exact call_abs_int fun u tk => ⟨_, H, .int _ _, S.toks tk, Rest.of s.heap tk, q⟩
theorem F_range {n} (q : ∀ r, H r = none → Q (.ref r) (H.set r (.rng n))) : WCall c (.type "range") [.int n] σ H Q := fun vs is s S => by
  rcases is with _ | ⟨i, is⟩; cases is; cases i
  obtain ⟨m, news, S⟩ := S
  obtain ⟨hlt, hz, hL, h0⟩ := iter_news S
  exact call_range_1 ⟨_, _, .ref _, ⟨m, _, S.alloc (o := .rng n) (S.F.push _) (S.N.push S.F _) hlt ⟨_, _, _, rfl⟩⟩, Rest.of _ _, q _ (S.fresh hlt)⟩

inductive Nums : List AV → List Int → Prop
  | nil : Nums [] []
  | cons {k as ks} : Nums as ks → Nums (.int k :: as) (k :: ks)
theorem nums_items {as : List AV} {ks : List Int} (h : Nums as ks) : ∀ {vs : List Value}, All2 Is as vs → ∃ ps : List (Int × Tok), vs = ps.map (fun p => .int p.1 p.2) ∧ ps.map (·.1) = ks := by
  induction h with
  | nil => intro vs h; cases h; exact ⟨[], rfl, rfl⟩
  | cons _ ih =>
    intro vs h
    rcases h with _ | ⟨i, is⟩
    cases i
    obtain ⟨ps, rfl, rfl⟩ := ih is
    exact ⟨(_, _) :: ps, rfl, rfl⟩
theorem nums_len {as : List AV} {ks : List Int} (h : Nums as ks) : as.length = ks.length := by
  induction h with
  | nil => rfl
  | cons _ ih => simp [ih]
theorem F_sum {l xs ks} (ok : c.OK d) (hl : H l = some (.list xs)) (hn : Nums xs ks) (q : Q (.int ks.sum) H) : WCall c (.builtin "sum") [.ref l] σ H Q := fun vs is s S => by
  rcases is with _ | ⟨i, is⟩; cases is; cases i
  obtain ⟨m, news, S'⟩ := id S
  obtain ⟨ob, hm, vs, n, rfl, is⟩ := S'.obj _ _ hl
  obtain ⟨ps, rfl, rfl⟩ := nums_items hn is
  refine sum_intListG (xs := ps.toArray) ok.hh ⟨_, S'.N.get hm, rfl, n, by simp [intItems]⟩ fun h' tk t' hk => ⟨_, H, ?_, S.keeps hk, Rest.of _ _, q⟩
  rw [preSum_eq, List.take_of_length_le (by simp)]; exact .int _ _
theorem F_min {l xs ks} (ok : c.OK d) (hl : H l = some (.list xs)) (hn : Nums xs ks) (h0 : 0 < ks.length) (q : ∀ M, Q (.int M) H) : WCall c (.builtin "min") [.ref l] σ H Q := fun vs is s S => by
  rcases is with _ | ⟨i, is⟩; cases is; cases i
  obtain ⟨m, news, S'⟩ := id S
  obtain ⟨ob, hm, vs, n, rfl, is⟩ := S'.obj _ _ hl
  obtain ⟨ps, rfl, rfl⟩ := nums_items hn is
  refine min_intList (xs := ps.toArray) ok.hh ⟨_, S'.N.get hm, rfl, n, by simp [intItems]⟩ (by simpa using h0) fun v h' tk hv hk => ?_
  obtain ⟨t, rfl⟩ := intItems_at hv
  exact ⟨_, H, .int _ _, S.keeps hk, Rest.of _ _, q _⟩
theorem F_tuple {l xs} (hl : H l = some (.list xs)) (hs : xs.length ≤ 1000) (q : ∀ r, H r = none → Q (.ref r) (H.set r (.tup xs))) : WCall c (.type "tuple") [.ref l] σ H Q := fun vs is s S => by
  rcases is with _ | ⟨i, is⟩; cases is; cases i
  obtain ⟨m, news, S'⟩ := id S
  obtain ⟨ob, hm, vs, n, rfl, is⟩ := S'.obj _ _ hl
  refine call_tuple_list (items := vs.toArray) ⟨_, S'.N.get hm, rfl, n, rfl⟩ (fun h' hk => ?_) (by rw [List.size_toArray, ← all2_length is]; exact Nat.le_trans hs sizeLine_ge)
  obtain ⟨m2, news2, S2⟩ := S.keeps (tk := s.toks) hk
  obtain ⟨hlt, hz, hL, h0⟩ := iter_news S2
  exact ⟨_, _, .ref _, ⟨m2, _, S2.alloc (tk := s.toks) (o := .tup xs) (S2.F.push _) (S2.N.push S2.F _) hlt ⟨vs, _, rfl, is⟩⟩, Rest.of _ _, q _ (S2.fresh hlt)⟩
theorem foldl_rep (v : Value) : ∀ (n : Nat) (acc : Array Value), List.foldl (fun x1 x2 => x1 ++ x2) acc (List.replicate n #[v]) = acc ++ (List.replicate n v).toArray
  | 0, acc => by simp
  | n + 1, acc => by rw [List.replicate_succ, List.foldl_cons, foldl_rep v n, List.replicate_succ]; apply Array.toList_inj.mp; simp
theorem all2_rep {a : AV} {v : Value} (i : Is a v) : ∀ n : Nat, All2 Is (List.replicate n a) (List.replicate n v)
  | 0 => .nil
  | n + 1 => .cons i (all2_rep i n)
theorem O_mul1 {l a n} (hl : H l = some (.list [a])) (h0 : 0 ≤ n) (hn : n ≤ 1000) (q : ∀ r, H r = none → Q (.ref r) (H.set r (.list (List.replicate n.toNat a)))) : WO2 c .Mult (.ref l) (.int n) σ H Q := fun va vb i j => by
  cases i; cases j
  refine fun s S => ?_
  obtain ⟨m, news, S⟩ := S
  obtain ⟨ob, hm, vs, k, rfl, is⟩ := S.obj _ _ hl
  rcases is with _ | ⟨iv, is⟩
  cases is
  refine PyProof.Rows.mul_list S.F S.N (S.N.get hm) (by omega) (by omega) (by simp; omega) (fun h' F' N' => ?_)
  obtain ⟨hlt, hz, hL, h0⟩ := iter_news S
  refine ⟨_, _, .ref _, ⟨m, _, S.alloc (tk := s.toks) (o := .list _) F' N' hlt ⟨List.replicate n.toNat _, 0, ?_, all2_rep iv _⟩⟩, Rest.of _ _, q _ (S.fresh hlt)⟩
  simp [foldl_rep]

def revIt (l : Addr) (n : Nat) (i : Nat) (o : Obj) : Prop := o.cls = .type "list_reverseiterator" ∧ o.data = .fields #[.ref l, rawInt ((n : Int) - 1 - (i : Int))]
theorem F_rev {l xs} (hl : H l = some (.list xs)) (q : ∀ r, H r = none → r ≠ c.z → Q (.ref r) (H.set r (.pred (revIt l xs.length 0)))) : WCall c (.type "reversed") [.ref l] σ H Q := fun vs is s S => by
  rcases is with _ | ⟨i, is⟩; cases is; cases i
  obtain ⟨m, news, S⟩ := S
  obtain ⟨ob, hm, vs, n, rfl, is⟩ := S.obj _ _ hl
  obtain ⟨hlt, hz, hL, h0⟩ := iter_news S
  refine call_reversed_list (items := vs.toArray) ⟨_, S.N.get hm, rfl, n, rfl⟩ ⟨_, _, .ref _, ⟨m, _, S.alloc (tk := s.toks) (o := .pred (revIt l xs.length 0)) (S.F.push _) (S.N.push S.F _) hlt ⟨rfl, ?_⟩⟩, Rest.of _ _, q _ (S.fresh hlt) hz⟩
  simp [revObj, all2_length is]
theorem It_rev {r l xs} {Q} (ok : c.OK d) (hr : H r = some (.pred (revIt l xs.length 0))) (hz : r ≠ c.z) (hlr : l ≠ r) (hl : H l = some (.list xs)) (q : Q r xs.reverse (fun H => H l = some (.list xs)) (revIt l xs.length) H) : WIt c (.ref r) σ H Q := fun va i s S => by
  cases i
  obtain ⟨m, news, S'⟩ := id S
  obtain ⟨ob, hm, hc, hd⟩ := S'.obj _ _ hr
  have hN := S'.N _ hm
  refine wpAny_pyIter_revIter ⟨_, hN.1, hc, hd⟩ ⟨r, xs.reverse, fun H => H l = some (.list xs), revIt l xs.length, H, rfl, ?_, S, Rest.refl s, hr, hl, q⟩
  refine ⟨hz, hN.2.1, hN.2.2, fun H H' e h => h _ _ e hlr, fun i a σ' H' s' hx S' hI hs => ?_, fun i σ' H' s' Q E S' hI q => ?_, fun σ' H' s' S' hI hs => ?_⟩
  · obtain ⟨m', news', S'⟩ := S'
    obtain ⟨oi, hmi, hc, hd⟩ := S'.obj _ _ hI
    obtain ⟨ol, hml, vs', n', rfl, is'⟩ := S'.obj _ _ hs
    have hlen := all2_length is'
    have hin : i < xs.length := by simpa using (List.getElem?_eq_some_iff.mp hx).1
    have hx' : xs[xs.length - 1 - i]? = some a := by rw [← List.getElem?_reverse hin]; exact hx
    obtain ⟨v, hv, iv⟩ := all2_get is' _ _ hx'
    refine (Walks.listRev (prog := PP) (w := c.w) ok.hh r l hlr vs'.toArray).item i s' _ _ (by simpa [← hlen] using hin) ⟨by simp; omega, ⟨_, S'.N.get hmi, hc, by rw [hd]; simp [hlen]⟩, ⟨_, S'.N.get hml, rfl, n', rfl⟩⟩ fun u h' tk hP hst hk => ?_
    have hu : u = v := by
      have h1 : vs'[xs.length - 1 - i]? = some u := by simpa [hlen] using hP
      rw [hv] at h1; exact (Option.some.inj h1).symm
    subst hu
    obtain ⟨_, ⟨o', ho', hc', hd'⟩, _⟩ := hst
    obtain ⟨F', N'⟩ := news_keep S'.F S'.N S'.nd hmi (fun b o hb e => hk b o (by simpa using hb) e) ho'
    exact ⟨_, rfl, iv, ⟨m', _, S'.upd (tk := tk) (o := .pred _) hmi F' N' ⟨hc', by rw [hd']; simp [hlen]⟩⟩, Rest.of _ _⟩
  · obtain ⟨m', news', S'⟩ := S'
    obtain ⟨oi, hmi, hc, hd⟩ := S'.obj _ _ hI
    exact wpAny_pyIter_revIter ⟨_, S'.N.get hmi, hc, hd⟩ q
  · obtain ⟨m', news', S''⟩ := id S'
    obtain ⟨oi, hmi, hc, hd⟩ := S''.obj _ _ hI
    obtain ⟨ol, hml, vs', n', rfl, is'⟩ := S''.obj _ _ hs
    have hlen := all2_length is'
    exact (Walks.listRev (prog := PP) (w := c.w) ok.hh r l hlr vs'.toArray).done s' _ _ ⟨by simp, ⟨_, S''.N.get hmi, hc, by rw [hd]; simp [hlen]⟩, ⟨_, S''.N.get hml, rfl, n', rfl⟩⟩ fun h' tk hk => ⟨rfl, S'.drop (tk := tk) hz hN.2.1 hN.2.2 (fun b o hb e => hk b o (by simpa using hb) e), Rest.of _ _⟩

theorem all2_drop {α β : Type} {R : α → β → Prop} {as : List α} {bs : List β} (h : All2 R as bs) : ∀ n : Nat, All2 R (as.drop n) (bs.drop n) := by
  induction h with
  | nil => intro n; simp; exact .nil
  | cons h1 h2 ih =>
    intro n
    cases n with
    | zero => exact .cons h1 h2
    | succ n => exact ih n
theorem all2_take {α β : Type} {R : α → β → Prop} {as : List α} {bs : List β} (h : All2 R as bs) : ∀ n : Nat, All2 R (as.take n) (bs.take n) := by
  induction h with
  | nil => intro n; simp; exact .nil
  | cons h1 h2 ih =>
    intro n
    cases n with
    | zero => exact .nil
    | succ n => exact .cons h1 (ih n)
theorem slice_fin {value slice : Expr} {l xs} {lo hi : Option Int} {vl vu : Value} {zs : List AV} {s0 : Shared} (S : St c σ H s) (r0 : Rest s0 s) (hl : H l = some (.list xs)) (hs : xs.length ≤ 1000) (pl : IsPart vl lo) (pu : IsPart vu hi)
    (hz : ∀ vs : List Value, All2 Is xs vs → ∃ ws : List Value, slicePick vs.toArray lo hi none = ws.toArray ∧ All2 Is zs ws) (q : ∀ r, H r = none → Q (.ref r) (H.set r (.list zs)))
    (hsub : ∀ sl, subscripted slice false (.ref l) (.ref sl) = operate [.ref sl, .ref l] (getItem (.ref l) (.ref sl))) :
    wpAny (model PP c.w) c.A (subscriptTail value slice (.ref l) (.ref s.heap.objs.size)) (PostV c σ Q s0) NoE { s with heap := s.heap.push { cls := .type "slice", data := .fields #[vl, vu, .none] } } := by
  obtain ⟨m, news, S'⟩ := id S
  obtain ⟨ob, hm, vs, n, rfl, is⟩ := S'.obj _ _ hl
  obtain ⟨ws, hw, iw⟩ := hz vs is
  have hlist : s.heap.IsList l vs.toArray := ⟨_, S'.N.get hm, rfl, n, rfl⟩
  have hsz1 : vs.toArray.size ≤ sizeLine := by rw [List.size_toArray, ← all2_length is]; exact Nat.le_trans hs sizeLine_ge
  refine tail_any (Heap.IsList.typeIs (s := { s with heap := s.heap.push { cls := .type "slice", data := .fields #[vl, vu, .none] } }) (hlist.push _)) list_getitem_lookup (wpAny_getItem_list_slice (hlist.push _) (Heap.IsSliceOf.new ..) pl pu .none (by simp) ?_ hsz1) (hsub _)
  have S1 : St c σ H { s with heap := s.heap.push { cls := .type "slice", data := .fields #[vl, vu, .none] } } := S.keeps (tk := s.toks) fun b o e => Heap.get?_push_of_some _ e
  obtain ⟨m1, news1, S1⟩ := S1
  obtain ⟨hlt, hz, hL, h0⟩ := iter_news S1
  have S2 := S1.alloc (tk := s.toks) (o := .list zs) (S1.F.push { cls := .type "list", data := .seq (slicePick vs.toArray lo hi none) }) (S1.N.push S1.F _) hlt ⟨ws, 0, by rw [hw], iw⟩
  exact ⟨_, _, .ref _, ⟨m1, _, S2⟩, ⟨r0.1, r0.2, r0.3⟩, q _ (S1.fresh hlt)⟩
theorem E_slice {value lo hi p pos} (h : WE c env value σ H fun a H1 => WE c env lo σ H1 fun x H2 => WE c env hi σ H2 fun y H3 => ∃ l xs i j, a = .ref l ∧ x = .int i ∧ y = .int j ∧ H3 l = some (.list xs) ∧ 0 ≤ i ∧ 0 ≤ j ∧ xs.length ≤ 1000 ∧
      ∀ r, H3 r = none → Q (.ref r) (H3.set r (.list ((xs.drop i.toNat).take (j.toNat - i.toNat))))) : WE c env (.Subscript value (.Slice (some lo) (some hi) none p) pos) σ H Q := fun s S =>
  Subscript_ (seq2 S h fun va s1 a H1 ia S1 r1 h1 => by
    refine wpAny_Slice ?_
    rw [evalPart_some]
    refine seq2 S1 h1 fun vx s2 x H2 ix S2 r2 h2 => ?_
    rw [evalPart_some]
    refine seq2 S2 h2 fun vy s3 y H3 iy S3 r3 h3 => ?_
    rw [evalPart_none]
    refine wpAny_pure ?_
    obtain ⟨l, xs, i, j, rfl, rfl, rfl, hl, hi0, hj0, hlen, q⟩ := h3
    cases ia; cases ix; cases iy
    refine slice_fin S3 (r1.trans (r2.trans r3)) hl hlen (.int i _) (.int j _) (fun vs is => ⟨(vs.drop i.toNat).take (j.toNat - i.toNat), ?_, all2_take (all2_drop is _) _⟩) q (fun _ => by with_unfolding_all rfl)
    obtain ⟨i, rfl⟩ := Int.eq_ofNat_of_zero_le hi0
    obtain ⟨j, rfl⟩ := Int.eq_ofNat_of_zero_le hj0
    rw [slicePick_plain]
    simp only [Option.elim, clipAt_nat, Int.toNat_natCast]
    congr 1
    simp only [List.size_toArray]
    rcases Nat.le_total i vs.length with h | h
    · rw [Nat.min_eq_left h]
      rcases Nat.le_total j vs.length with h' | h'
      · rw [Nat.min_eq_left h']
      · rw [Nat.min_eq_right h', List.take_of_length_le (by simp), List.take_of_length_le (by simp; omega)]
    · rw [Nat.min_eq_right h, List.drop_eq_nil_of_le (Nat.le_refl _), List.drop_eq_nil_of_le h]; simp)
theorem E_sliceF {value lo p pos} (h : WE c env value σ H fun a H1 => WE c env lo σ H1 fun x H2 => ∃ l xs i, a = .ref l ∧ x = .int i ∧ H2 l = some (.list xs) ∧ 0 ≤ i ∧ xs.length ≤ 1000 ∧
      ∀ r, H2 r = none → Q (.ref r) (H2.set r (.list (xs.drop i.toNat)))) : WE c env (.Subscript value (.Slice (some lo) none none p) pos) σ H Q := fun s S =>
  Subscript_ (seq2 S h fun va s1 a H1 ia S1 r1 h1 => by
    refine wpAny_Slice ?_
    rw [evalPart_some]
    refine seq2 S1 h1 fun vx s2 x H2 ix S2 r2 h2 => ?_
    rw [evalPart_none]
    refine wpAny_pure (wpAny_pure ?_)
    obtain ⟨l, xs, i, rfl, rfl, hl, hi0, hlen, q⟩ := h2
    cases ia; cases ix
    refine slice_fin S2 (r1.trans r2) hl hlen (.int i _) .none (fun vs is => ⟨vs.drop i.toNat, ?_, all2_drop is _⟩) q (fun _ => by with_unfolding_all rfl)
    obtain ⟨i, rfl⟩ := Int.eq_ofNat_of_zero_le hi0
    rw [slicePick_from']; simp)
theorem E_sliceU {value hi p pos} (h : WE c env value σ H fun a H1 => WE c env hi σ H1 fun x H2 => ∃ l xs i, a = .ref l ∧ x = .int i ∧ H2 l = some (.list xs) ∧ 0 ≤ i ∧ xs.length ≤ 1000 ∧
      ∀ r, H2 r = none → Q (.ref r) (H2.set r (.list (xs.take i.toNat)))) : WE c env (.Subscript value (.Slice none (some hi) none p) pos) σ H Q := fun s S =>
  Subscript_ (seq2 S h fun va s1 a H1 ia S1 r1 h1 => by
    refine wpAny_Slice ?_
    rw [evalPart_none]
    refine wpAny_pure ?_
    rw [evalPart_some]
    refine seq2 S1 h1 fun vx s2 x H2 ix S2 r2 h2 => ?_
    refine wpAny_pure ?_
    obtain ⟨l, xs, i, rfl, rfl, hl, hi0, hlen, q⟩ := h2
    cases ia; cases ix
    refine slice_fin S2 (r1.trans r2) hl hlen .none (.int i _) (fun vs is => ⟨vs.take i.toNat, ?_, all2_take is _⟩) q (fun _ => by with_unfolding_all rfl)
    obtain ⟨i, rfl⟩ := Int.eq_ofNat_of_zero_le hi0
    rw [slicePick_upto']; simp)

inductive PostP (c : Cx) (σ : Loc) (Q : List (Int × AV) → AHeap → Prop) (s : Shared) (vs : List (Value × Value)) (s' : Shared) : Prop
  | mk (ps : List (Int × AV)) (H' : AHeap) (is : All2 (fun (p : Int × AV) (q : Value × Value) => Is (.int p.1) q.1 ∧ Is p.2 q.2) ps vs) (S : St c σ H' s') (r : Rest s s') (q : Q ps H')
def WPs (c : Cx) (env : Env) (pos : Pos) (keys : List (Option Expr)) (values : List Expr) (σ : Loc) (H : AHeap) (Q : List (Int × AV) → AHeap → Prop) : Prop :=
  ∀ s, St c σ H s → wpAny (model PP c.w) c.A (evalPairs (pairTrees keys values env pos)) (PostP c σ Q s) NoE s
theorem Ps_nil {pos} {Q : List (Int × AV) → AHeap → Prop} (q : Q [] H) : WPs c env pos [] [] σ H Q := fun s S => evalPairs_nil ⟨[], H, .nil, S, Rest.refl s, q⟩
theorem Ps_cons {pos k ks v vs} {Q : List (Int × AV) → AHeap → Prop} (h : WE c env k σ H fun a H1 => ∃ i, a = .int i ∧ WE c env v σ H1 fun b H2 => WPs c env pos ks vs σ H2 fun ps H3 => Q ((i, b) :: ps) H3) : WPs c env pos (some k :: ks) (v :: vs) σ H Q := fun s S =>
  evalPairs_cons (seq2 S h fun va s1 a H1 ia S1 r1 h1 => by
    obtain ⟨i, rfl, h1⟩ := h1
    refine wpAny_bind (seq2 S1 h1 fun vb s2 b H2 ib S2 r2 h2 => wpAny_bind (wpAny_standAt (wpAny_pure ?_)))
    exact wpAny_mono (h2 s2 S2) (fun vs s3 ⟨ps, H3, is, S3, r3, q⟩ => ⟨(i, b) :: ps, H3, .cons ⟨ia, ib⟩ is, S3, r1.trans (r2.trans r3), q⟩) fun _ _ e => e)

theorem storeAll_of {l : Addr} : ∀ {ps : List (Int × AV)} {vs : List (Value × Value)}, All2 (fun (p : Int × AV) (q : Value × Value) => Is (.int p.1) q.1 ∧ Is p.2 q.2) ps vs → ∀ {H : AHeap} {kvs ep} {s : Shared}, St c σ H s → H l = some (.dict kvs ep) →
    ((kvs ++ ps).map (·.1)).Nodup → (kvs ++ ps).length ≤ 1000 → wpAny (model PP c.w) c.A (storeAll l vs) (fun _ s' => ∃ ep', St c σ (H.set l (.dict (kvs ++ ps) ep')) s' ∧ Rest s s') NoE s := by
  intro ps vs h
  induction h with
  | nil =>
    intro H kvs ep s S hl _ _
    refine wpAny_pure ⟨ep, ?_, Rest.refl s⟩
    rw [List.append_nil]
    refine S.weaken (fun _ _ e => e) fun a o e => ?_
    by_cases ha : a = l
    · subst ha; rw [AHeap.set_self] at e; cases e; exact hl
    · rwa [AHeap.set_ne _ _ ha] at e
  | @cons p q ps vs hr _ ih =>
    intro H kvs ep s S hl hnd hlen
    obtain ⟨pi, pa⟩ := p
    obtain ⟨qk, qv⟩ := q
    obtain ⟨ik, iv⟩ := hr
    cases ik
    obtain ⟨m, news, S'⟩ := id S
    obtain ⟨ob, hm, kv', es, hd1, hd2, hd3, hd4, hd5, is⟩ := S'.obj _ _ hl
    have hdo : s.heap.DictOf (intKind PP c.w) l kv' := Heap.dictOf_iff.mpr ⟨_, S'.N.get hm, ⟨es, _, hd1, hd2, hd3, hd4, hd5⟩⟩
    have hn : lookI kvs pi = none := by
      unfold lookI
      rw [Option.map_eq_none_iff, List.find?_eq_none]
      intro x hx e
      simp only [decide_eq_true_eq] at e
      rw [List.map_append, List.nodup_append] at hnd
      exact hnd.2.2 x.1 (List.mem_map_of_mem hx) pi (by simp) e
    unfold storeAll
    rw [List.forIn_cons]
    refine wpAny_bind (wpAny_bind (wpAny_dictSet_pairs (knd := intKind PP c.w) (k := pi) (intKind_is _ _ _ _) hdo (fun h' hd' hs => wpAny_pure ?_) (by rw [← all2_length is]; simp at hlen; exact Nat.le_trans (by omega) sizeLine_ge)))
    obtain ⟨o', ho', es', ep', e1, e2, e3, e4, e5⟩ := Heap.dictOf_iff.mp hd'
    obtain ⟨F', N'⟩ := news_same S'.F S'.N S'.nd hm hs ho'
    have S2 : St c σ (H.set l (.dict (kvs ++ [(pi, pa)]) ep')) { s with heap := h', toks := s.toks + 1 } := ⟨m, _, S'.upd (tk := s.toks + 1) (o := .dict _ ep') hm F' N' ⟨_, es', e1, e2, e3, e4, e5, storedA_rel is iv pi hn⟩⟩
    have := ih (H := H.set l (.dict (kvs ++ [(pi, pa)]) ep')) S2 (AHeap.set_self _ _ _) (by rw [List.append_assoc]; exact hnd) (by rw [List.append_assoc]; exact hlen)
    refine wpAny_mono this (fun _ s3 ⟨ep3, S3, r3⟩ => ⟨ep3, ?_, (Rest.of _ _).trans r3⟩) fun _ _ e => e
    refine S3.weaken (fun _ _ e => e) fun a o e => ?_
    by_cases ha : a = l
    · subst ha; rw [AHeap.set_self] at e ⊢; rw [List.append_assoc]; exact e
    · rw [AHeap.set_ne _ _ ha] at e; rw [AHeap.set_ne _ _ ha, AHeap.set_ne _ _ ha]; exact e

theorem E_dict {keys values pos} (hall : keys.all (·.isSome) = true) (hlk : keys.length = values.length) (hk0 : keys ≠ []) (hlen : keys.length ≤ 15)
    (h : ∀ l, H l = none → WPs c env pos keys values σ (H.set l (.dict [] 0)) fun ps H1 => H1 l = some (.dict [] 0) ∧ (ps.map (·.1)).Nodup ∧ ps.length ≤ 1000 ∧ ∀ ep, Q (.ref l) (H1.set l (.dict ps ep))) : WE c env (.Dict keys values pos) σ H Q := fun s S => by
  obtain ⟨m, news, S⟩ := S
  obtain ⟨hlt, hz, hL, h0⟩ := iter_news S
  refine wpAny_Dict_any hall hlk hk0 hlen ?_
  have S1 := S.alloc (tk := s.toks) (o := .dict [] 0) (S.F.push { cls := .type "dict", data := .dict #[] }) (S.N.push S.F _) hlt ⟨[], #[], ⟨rfl, rfl, rfl⟩, rfl, fun _ he => by simp at he, Pairs.nil, List.nodup_nil, .nil⟩
  refine wpAny_mono (h _ (S.fresh hlt) _ ⟨m, _, S1⟩) (fun vs s2 ⟨ps, H2, is, S2, r2, hl2, hnd, hl, q⟩ => ?_) fun _ _ e => e
  exact wpAny_mono (storeAll_of is S2 hl2 (by simpa using hnd) (by simpa using hl)) (fun _ s3 ⟨ep, S3, r3⟩ => ⟨_, _, .ref _, S3, ⟨(r2.trans r3).1, (r2.trans r3).2, (r2.trans r3).3⟩, q ep⟩) fun _ _ e => e

theorem E_dget {o apos e1 e2 pos} (ho : WE c env o σ H fun a H1 => ∃ l kvs ep, a = .ref l ∧ H1 l = some (.dict kvs ep) ∧ WE c env e1 σ H1 fun b H2 => WE c env e2 σ H2 fun x H3 => ∃ k, b = .int k ∧ H3 l = some (.dict kvs ep) ∧ Q ((lookI kvs k).getD x) H3) (pl : Sem Bool)
    (hee : eval (.Call (.Attribute o "get" apos) [e1, e2] [] pos) env = (do
      let ov ← eval o env
      standAt apos.atName
      let (f, first) ← holding [ov] (getMethod ov "get" pl)
      callWith pos f first (backTo pos (starEach [e1, e2] env)) (backToKw pos (keywordEach [] env))) := by with_unfolding_all rfl)
    (he : starEach [e1, e2] env = [(false, eval e1 env), (false, eval e2 env)] := by with_unfolding_all rfl) :
    WE c env (.Call (.Attribute o "get" apos) [e1, e2] [] pos) σ H Q := fun s S =>
  methodCall_KW (pl := pl) (seq2 S ho fun vf s1 a H1 ia S1 r1 h1 => by
    obtain ⟨l, kvs, ep, rfl, hl, h1⟩ := h1
    cases ia
    obtain ⟨m, news, S1'⟩ := id S1
    obtain ⟨ob, hm, kv', es, hd1, hd2, hd3, hd4, hd5, is⟩ := S1'.obj _ _ hl
    have hdo : s1.heap.DictOf (intKind PP c.w) l kv' := Heap.dictOf_iff.mpr ⟨_, S1'.N.get hm, ⟨es, _, hd1, hd2, hd3, hd4, hd5⟩⟩
    refine getMethod_builtin hdo.typeIs PySem.F.plainAttrs_dict PySem.F.slot_dict_get PySem.F.type_dict_get hdo.mapOf.noDict ?_
    show wpAny _ _ (callWith pos (.builtin "dict.get") [.ref l] (backTo pos (starEach [e1, e2] env)) []) _ _ _
    refine Calls.callWith_builtin (by rw [he]; rfl) ?_
    rw [he]
    refine Calls.evalArgs_plain (Calls.spliced_cons (seq2 S1 h1 fun vb s2 b H2 ib S2 r2 h2 => Calls.spliced_cons (seq2 S2 h2 fun vx s3 x H3 ix S3 r3 h3 => Calls.spliced_nil ?_)))
    obtain ⟨k, rfl, hl3, q⟩ := h3
    cases ib
    obtain ⟨m3, news3, S3'⟩ := id S3
    obtain ⟨ob3, hm3, kv3, es3, hd1', hd2', hd3', hd4', hd5', is3⟩ := S3'.obj _ _ hl3
    have hdo3 : s3.heap.DictOf (intKind PP c.w) l kv3 := Heap.dictOf_iff.mpr ⟨_, S3'.N.get hm3, ⟨es3, _, hd1', hd2', hd3', hd4', hd5'⟩⟩
    refine call_meetsIn PySem.F.slot_dict_get hdo3.typeIs PySem.F.entry_dict_get (PySem.F.args_dict_get_3 _ _ _) (meets_dict_get_default (intKind PP c.w) l (k := k) (intKind_is _ _ _ _) (not_modules S3' hm3) vx) ⟨_, hdo3.mapOf, ?_⟩
    refine ⟨_, H3, ?_, S3.toks _, (r1.trans (r2.trans r3)).trans (Rest.of s3.heap _), q⟩
    cases e : lookI kvs k with
    | none => rw [lookI_none is3 e]; exact ix
    | some a => obtain ⟨v, hv, iv⟩ := lookI_get is3 e; rw [hv]; exact iv) hee

theorem C_eqL {l l' xs ys ks} (ok : c.OK d) (hl : H l = some (.list xs)) (hl' : H l' = some (.list ys)) (h1 : Nums xs ks) (h2 : Nums ys ks) (q : Q (.bool true) H) : WC2 c .Eq (.ref l) (.ref l') σ H Q := fun va vb i j => by
  cases i; cases j
  refine fun s S => ?_
  obtain ⟨m, news, S'⟩ := id S
  obtain ⟨ob, hm, vs, n, rfl, is⟩ := S'.obj _ _ hl
  obtain ⟨ob', hm', vs', n', rfl, is'⟩ := S'.obj _ _ hl'
  obtain ⟨ps, rfl, hp⟩ := nums_items h1 is
  obtain ⟨ps', rfl, hp'⟩ := nums_items h2 is'
  have hlen : ps.length = ps'.length := by rw [← List.length_map (f := (·.1)), hp, ← hp', List.length_map]
  refine SeqAt.eq_listAt (e := fun _ => true) ⟨_, S'.N.get hm, rfl, n, rfl⟩ ⟨_, S'.N.get hm', rfl, n', rfl⟩ (by simp [hlen]) (by have := ok.units; show c.A.units < 9900; omega) (fun j h1 h2 => ?_) ⟨_, H, ?_, S, Rest.refl s, q⟩
  · simp at h1 h2
    have e1 : ps[j].1 = ps'[j].1 := by
      have a1 : (ps.map (·.1))[j]? = (ps'.map (·.1))[j]? := by rw [hp, hp']
      simp [h1, h2] at a1
      exact a1
    have := SeqAt.EqAt.int_int (A := c.A.in1) (s := s) ps[j].1 ps[j].2 ps'[j].1 ps'[j].2
    rw [e1, beq_self_eq_true] at this
    simpa [e1] using this
  · rw [show (List.range _).all (fun _ => true) = true by simp]; exact .bool _
theorem C_neT {l l' a b x y} (ok : c.OK d) (hl : H l = some (.tup [.int a, .int b])) (hl' : H l' = some (.tup [.int x, .int y])) (q : Q (.bool (decide (¬ (a = x ∧ b = y)))) H) : WC2 c .NotEq (.ref l) (.ref l') σ H Q := fun va vb i j => by
  cases i; cases j
  refine fun s S => ?_
  obtain ⟨m, news, S'⟩ := id S
  obtain ⟨ob, hm, vs, n, rfl, is⟩ := S'.obj _ _ hl
  obtain ⟨ob', hm', vs', n', rfl, is'⟩ := S'.obj _ _ hl'
  rcases is with _ | ⟨i1, is⟩; rcases is with _ | ⟨i2, is⟩; cases is; cases i1; cases i2
  rcases is' with _ | ⟨j1, is⟩; rcases is with _ | ⟨j2, is⟩; cases is; cases j1; cases j2
  rename_i t1 t2 u1 u2
  refine SeqAt.RcNeAt.tuples (e := fun j => if j = 0 then a == x else b == y) (items := #[.int a t1, .int b t2]) (items2 := #[.int x u1, .int y u2]) ⟨_, S'.N.get hm, rfl, n, rfl⟩ ⟨_, S'.N.get hm', rfl, n', rfl⟩ (by have := ok.units; show c.A.units < 9900; omega) (fun j h1 h2 => ?_) PP c.w _ _ ⟨_, H, ?_, S, Rest.refl s, q⟩
  · simp at h1
    have : j = 0 ∨ j = 1 := by omega
    rcases this with rfl | rfl
    · exact SeqAt.EqAt.int_int a t1 x u1
    · exact SeqAt.EqAt.int_int b t2 y u2
  · have e : (!((List.range (min (#[Value.int a t1, Value.int b t2]).size (#[Value.int x u1, Value.int y u2]).size)).all (fun j => if j = 0 then a == x else b == y) && (#[Value.int a t1, Value.int b t2]).size == (#[Value.int x u1, Value.int y u2]).size)) = decide (¬ (a = x ∧ b = y)) := by
      show (!(((List.range 2).all _) && true)) = _
      rw [show List.range 2 = [0, 1] from rfl]
      by_cases h1 : a = x <;> by_cases h2 : b = y <;> simp [h1, h2]
    rw [e]; exact .bool _
theorem C_notinT {x : Str} {t : Addr} {ys : List Str} {o : Obj} (ok : c.OK d) (ho : (Mine.hd.heap_1 c.w.params).lookup t = some o) (hc : o.cls = .type "tuple") {items : Array Value} {n : Nat} (hd : o.data = .seq items n) (hi : StrsAre items.toList ys) (q : Q (.bool (!(ys.any (· == x)))) H) : WC2 c .NotIn (.str x) (.ref t) σ H Q := fun va vb i j => by
  cases i; cases j
  exact WV.leaf q fun s R S r => notin_tuple_strs ⟨o, S.hkeep _ _ (ok.k _ _ ho), hc, n, hd⟩ hi (r _ s.toks (.bool _))
end

theorem warm : (PySem.Challenge.rw_pb0198_01 = PySem.Challenge.rw_pb0198_01) ∧ (Mine.hd.heap_1 = Mine.hd.heap_1) := by
  k_fill
  exact ⟨rfl, rfl⟩

section
variable {c : Cx} {env : Env} {σ : Loc} {H : AHeap} {d : Nat} {Q : Fl → Loc → AHeap → Prop} {rest : List Stmt}
theorem Seq_next (h : WS c rest σ H Q) : Seq c rest Q .next σ H := h
theorem Seq_ret {a} (h : Q (.ret a) σ H) : Seq c rest Q (.ret a) σ H := h
theorem Seq_cont (h : Q .cont σ H) : Seq c rest Q .cont σ H := h

inductive KB : Loc → List (Str × Value) → Prop
  | nil : KB [] []
  | cons {x a v ρ bs} : Is a v → KB ρ bs → KB ((x, a) :: ρ) ((x, v) :: bs)
theorem KB.knows {ρ bs} (h : KB ρ bs) : Knows ρ (fun y => bs.lookup y) := by
  induction h with
  | nil => intro x a e; cases e
  | @cons x a v ρ bs i _ ih =>
    intro y b e
    show ∃ u, List.lookup y ((x, v) :: bs) = some u ∧ _
    rw [List.lookup_cons] at e ⊢
    cases hy : y == x with
    | true => rw [hy] at e; cases e; exact ⟨v, rfl, i⟩
    | false => rw [hy] at e; exact ih y b e

theorem plainCls {K : Frag} {C : Addr} (h1 : plainGet K C "" = true) (h2 : hasDictIn K C = true) (h3 : findIn K (.ref C) "__setattr__" = some (some (.builtin "object.__setattr__"))) (h4 : plainOver K C = true) : PlainCls K C := ⟨fun n => h1, h2, h3, h4⟩
end

section
variable (P : Params)
theorem pc_Anchor : PlainCls (Mine.hd.heap_1 P) 45 := by refine' plainCls ?a ?b ?c ?d; all_goals k_is
theorem pc_Lookup : PlainCls (Mine.hd.heap_1 P) 90 := by refine' plainCls ?a ?b ?c ?d; all_goals k_is
theorem pc_Scene : PlainCls (Mine.hd.heap_1 P) 112 := by refine' plainCls ?a ?b ?c ?d; all_goals k_is
theorem pc_Info : PlainCls (Mine.hd.heap_1 P) 175 := by refine' plainCls ?a ?b ?c ?d; all_goals k_is
theorem pc_Buffer : PlainCls (Mine.hd.heap_1 P) 228 := by refine' plainCls ?a ?b ?c ?d; all_goals k_is
theorem pc_MarkBase : PlainCls (Mine.hd.heap_1 P) 312 := by refine' plainCls ?a ?b ?c ?d; all_goals k_is
theorem pc_MarkMark : PlainCls (Mine.hd.heap_1 P) 340 := by refine' plainCls ?a ?b ?c ?d; all_goals k_is
theorem pc_ClassDef : PlainCls (Mine.hd.heap_1 P) 478 := by refine' plainCls ?a ?b ?c ?d; all_goals k_is
theorem pc_Gdef : PlainCls (Mine.hd.heap_1 P) 526 := by refine' plainCls ?a ?b ?c ?d; all_goals k_is
end

theorem pcls_of {P : Params} {C : Addr} (h : List.elem C [175, 112, 228, 45, 90, 526, 478, 312, 340] = true) : PlainCls (Mine.hd.heap_1 P) C := by
  have h := List.mem_of_elem_eq_true h
  simp only [List.mem_cons, List.not_mem_nil, or_false] at h
  rcases h with rfl | rfl | rfl | rfl | rfl | rfl | rfl | rfl | rfl
  · exact pc_Info _
  · exact pc_Scene _
  · exact pc_Buffer _
  · exact pc_Anchor _
  · exact pc_Lookup _
  · exact pc_Gdef _
  · exact pc_ClassDef _
  · exact pc_MarkBase _
  · exact pc_MarkMark _

theorem ne_of {H : AHeap} {x l : Addr} {o : AO} (hx : H x = some o) (hl : H l = none) : x ≠ l := fun e => by rw [e, hl] at hx; cases hx
theorem set_get {H : AHeap} {x l : Addr} {o o' : AO} (hx : H x = some o) (hl : H l = none) : (H.set l o') x = some o := (AHeap.set_ne _ _ (ne_of hx hl)).trans hx

local macro_rules | `(tactic| wtm_at "mine.hlk") => `(tactic| first | assumption | exact AHeap.set_self _ _ _ | (refine set_get ?_ ?b; (case b => assumption); wtm_at "mine.hlk") | (refine (AHeap.set_ne _ _ ?b).trans ?_; (case b => first | assumption | (apply Ne.symm; assumption) | (refine ne_of ?_ ?n; (case n => assumption); wtm_at "mine.hlk") | (apply Ne.symm; refine ne_of ?_ ?n; (case n => assumption); wtm_at "mine.hlk")); wtm_at "mine.hlk"))

local macro_rules | `(tactic| wtm_at "mine.w_name") => `(tactic| first | ((with_reducible refine' E_local ?k1 ?k2 ?k3 ?_); (case k1 | k2 => exact rfl); (case k3 => first | exact rfl | assumption)) | ((with_reducible refine' E_cell ?k1 ?k2 ?k3 ?k4 ?_); (case k1 | k2 | k3 => exact rfl); (case k4 => wtm_at "mine.hlk")) | ((with_reducible refine' E_clocal ?k1 ?k2 ?k3 ?k4 ?_); (case k1 | k2 => exact rfl); (case k3 => wtm_at "mine.hlk"); (case k4 => exact rfl)) | ((with_reducible refine' E_cfree ?k1 ?k2 ?k3 ?k4 ?_); (case k1 | k2 => exact rfl); (case k3 => first | exact rfl | assumption); (case k4 => wtm_at "mine.hlk")) | ((with_reducible refine' E_global ?k0 ?k1 ?k2 ?k3 ?k4 ?k5 ?_); (case k0 => assumption); (case k1 | k2 | k3 => exact rfl); (case k4 => k_is); (case k5 => first | exact Is.ref _ | exact Is.int _ _)) | ((with_reducible refine' E_builtin ?k0 ?k1 ?k2 ?k3 ?k4 ?k5 ?k6 ?k7 ?k8 ?_); (case k0 => assumption); (case k1 | k2 | k3 | k4 => exact rfl); (case k5 => k_is); (case k6 => boot_fast); (case k7 => decide); (case k8 => first | exact Is.bi _ | exact Is.ty _)))
local macro_rules | `(tactic| wtm_at "mine.w_get") => `(tactic| ((with_reducible refine' G_own ?o ?p ?f ?hx ?hd ?hl ?hp ?_); (case o => assumption); (case hx | hd => wtm_at "mine.hlk"); (case p => (exact pcls_of rfl)); (case f => k_is); (case hl | hp => exact rfl)))
theorem setF_app {name : Str} {a : AV} : ∀ {fs : List (Str × AV)}, fs.lookup name = none → setF name a fs = fs ++ [(name, a)]
  | [], _ => rfl
  | (x, b) :: r, h => by
    rw [List.lookup_cons] at h
    unfold setF
    cases hx : name == x with
    | true => rw [hx] at h; cases h
    | false =>
      rw [hx] at h
      have : (x == name) = false := by rw [beq_eq_false_iff_ne] at hx ⊢; exact Ne.symm hx
      rw [if_neg (by rw [this]; exact Bool.false_ne_true), setF_app h]; rfl
theorem Set_app {c : Cx} {σ H d x C dx fs name b} {Q : AHeap → Prop} (ok : c.OK d) (P : PlainCls (Mine.hd.heap_1 c.w.params) C) (hf : findIn (Mine.hd.heap_1 c.w.params) (.ref C) name = some none) (hx : H x = some (.inst C dx)) (hd : H dx = some (.ns fs)) (hn : fs.lookup name = none) (hlen : fs.length ≤ 900)
    (q : Q (H.set dx (.ns (fs ++ [(name, b)])))) : WSet c (.ref x) name b σ H Q := Set_own ok P hf hx hd hlen (by rw [setF_app hn]; exact q)
local macro_rules | `(tactic| wtm_at "mine.w_setN") => `(tactic| ((with_reducible refine' Set_app ?o ?p ?f ?hx ?hd ?hn ?hl ?_); (case o => assumption); (case hx | hd => wtm_at "mine.hlk"); (case p => (exact pcls_of rfl)); (case f => k_is); (case hn => exact rfl); (case hl => exact Nat.le_of_ble_eq_true rfl)))
local macro_rules | `(tactic| wtm_at "mine.w_set") => `(tactic| ((with_reducible refine' Set_own ?o ?p ?f ?hx ?hd ?hl ?_); (case o => assumption); (case hx | hd => wtm_at "mine.hlk"); (case p => (exact pcls_of rfl)); (case f => k_is); (case hl => exact Nat.le_of_ble_eq_true rfl)))

local macro_rules | `(tactic| wtm_at "mine.wx1") => `(tactic| with_reducible first | refine S_assign (fun Q' k' => ?_) | refine S_expr (fun Q' k' => ?_) | refine S_if (fun Q' k' => ?_) | refine S_ret0' ?_ | refine S_ret0 ?_ | refine S_cont ?_ | refine S_nil ?_ | refine Seq_next ?_ | refine Seq_ret ?_ | refine Seq_cont ?_ | refine E_int ?_ | refine E_str ?_ | refine E_none ?_ | refine E_bool ?_ | refine E_bin ?_ | refine E_un ?_ | refine E_cmp ?_ | refine E_chain ?_ | refine E_attr ?_ | refine E_tuple ?_ | refine E_list ?_ | refine E_ifexp ?_ | refine E_and ?_ | refine E_or ?_ | refine E_bool1 ?_ | refine E_slice ?_ | refine E_sliceF ?_ | refine E_sliceU ?_ | refine E_sub ?_ | refine L_cons ?_ | refine L_nil ?_ | refine O_add ?_ | refine O_sub ?_ | refine O_and ?_ | refine O_or ?_ | refine U_neg ?_ | refine U_inv ?_ | refine U_not ?_ | refine C_lt ?_ | refine C_le ?_ | refine C_gt ?_ | refine C_ge ?_ | refine C_eq ?_ | refine C_ne ?_ | refine C_eqs ?_ | refine C_is ?_ | refine C_isnot ?_ | refine T_bool ?_ | refine T_int ?_ | refine T_none ?_ | refine B_cmp ?_ | refine B_chain ?_ | refine B_not ?_ | refine B_and ?_ | refine B_and_nil ?_ | refine B_or ?_ | refine B_or_nil ?_ | refine As_nil ?_ | refine As_cons ?_ | refine A_attr ?_ | refine A_sub ?_ | refine Ps_cons ?_ | refine Ps_nil ?_ | refine Ts_nil ?_ | refine Ts_one ?_ | refine WSb_in (fun Q' k' => ?_) | refine WEb_in (fun Q' k' => ?_) | refine WTb_in (fun Q' k' => ?_) | refine CutE.go (by assumption) ?_ | refine CutB.go (by assumption) ?_ | refine CutS.go (by assumption) ?_)
local macro_rules | `(tactic| wtm_at "mine.w_store") => `(tactic| ((with_reducible refine A_name ?k1 ?k2 ?_); (case k1 | k2 => exact rfl)))
local macro_rules | `(tactic| wtm_at "mine.wx") => `(tactic| repeat' (first | wtm_at "mine.wx1" | wtm_at "mine.w_name" | wtm_at "mine.w_store" | wtm_at "mine.w_get" | wtm_at "mine.w_setN" | wtm_at "mine.w_set" | (with_reducible refine B_plain ?_)))

theorem bn0 {P : List Value → Prop} (h : P []) : ∀ vs, All2 Is [] vs → P vs := fun _ is => by cases is; exact h
theorem bnc {a as} {P : List Value → Prop} (h : ∀ v, Is a v → ∀ vs, All2 Is as vs → P (v :: vs)) : ∀ vs, All2 Is (a :: as) vs → P vs := fun _ is => by
  cases is with
  | cons i is => exact h _ i _ is
theorem bn1 {a1} {P : List Value → Prop} (h : ∀ v1, Is a1 v1 → P [v1]) : ∀ vs, All2 Is [a1] vs → P vs := bnc fun v1 i1 => bn0 (h v1 i1)
theorem bn2 {a1 a2} {P : List Value → Prop} (h : ∀ v1, Is a1 v1 → ∀ v2, Is a2 v2 → P [v1, v2]) : ∀ vs, All2 Is [a1, a2] vs → P vs := bnc fun v1 i1 => bn1 (h v1 i1)
theorem bn3 {a1 a2 a3} {P : List Value → Prop} (h : ∀ v1, Is a1 v1 → ∀ v2, Is a2 v2 → ∀ v3, Is a3 v3 → P [v1, v2, v3]) : ∀ vs, All2 Is [a1, a2, a3] vs → P vs := bnc fun v1 i1 => bn2 (h v1 i1)
theorem bn4 {a1 a2 a3 a4} {P : List Value → Prop} (h : ∀ v1, Is a1 v1 → ∀ v2, Is a2 v2 → ∀ v3, Is a3 v3 → ∀ v4, Is a4 v4 → P [v1, v2, v3, v4]) : ∀ vs, All2 Is [a1, a2, a3, a4] vs → P vs := bnc fun v1 i1 => bn3 (h v1 i1)
theorem bn5 {a1 a2 a3 a4 a5} {P : List Value → Prop} (h : ∀ v1, Is a1 v1 → ∀ v2, Is a2 v2 → ∀ v3, Is a3 v3 → ∀ v4, Is a4 v4 → ∀ v5, Is a5 v5 → P [v1, v2, v3, v4, v5]) : ∀ vs, All2 Is [a1, a2, a3, a4, a5] vs → P vs := bnc fun v1 i1 => bn4 (h v1 i1)
theorem bn6 {a1 a2 a3 a4 a5 a6} {P : List Value → Prop} (h : ∀ v1, Is a1 v1 → ∀ v2, Is a2 v2 → ∀ v3, Is a3 v3 → ∀ v4, Is a4 v4 → ∀ v5, Is a5 v5 → ∀ v6, Is a6 v6 → P [v1, v2, v3, v4, v5, v6]) : ∀ vs, All2 Is [a1, a2, a3, a4, a5, a6] vs → P vs := bnc fun v1 i1 => bn5 (h v1 i1)
theorem bn7 {a1 a2 a3 a4 a5 a6 a7} {P : List Value → Prop} (h : ∀ v1, Is a1 v1 → ∀ v2, Is a2 v2 → ∀ v3, Is a3 v3 → ∀ v4, Is a4 v4 → ∀ v5, Is a5 v5 → ∀ v6, Is a6 v6 → ∀ v7, Is a7 v7 → P [v1, v2, v3, v4, v5, v6, v7]) : ∀ vs, All2 Is [a1, a2, a3, a4, a5, a6, a7] vs → P vs := bnc fun v1 i1 => bn6 (h v1 i1)

def anc (x y : Int) : List (Str × AV) := [(Str.ofString "x", .int x), (Str.ofString "y", .int y)]
theorem difference_spec {c : Cx} {σ H d} {Q : AV → AHeap → Prop} (ok : c.OK (d + 1)) {x dx a b y dy a' b'} (hx : H x = some (.inst 45 dx)) (hdx : H dx = some (.ns (anc a b))) (hy : H y = some (.inst 45 dy)) (hdy : H dy = some (.ns (anc a' b')))
    (q : ∀ l, H l = none → Q (.ref l) (H.set l (.tup [.int (a - a'), .int (b - b')]))) : WCode c (.ref 63) [.ref x, .ref y] σ H Q := by
  ((refine' F_def (by assumption) ?ho_1 ?hcd_1 ?hb_1 ?h1_1 ?h2_1 ?h3_1 ?h4_1 ?_; (case ho_1 => k_is); (case hcd_1 => k_is); (case hb_1 => (first | exact bn0 ⟨_, fun s _ => BindsTo.of_eq rfl, locs rfl, KB.knows .nil⟩ | exact bn1 fun _ i1 => ⟨_, fun s _ => BindsTo.of_eq rfl, locs rfl, KB.knows (.cons i1 .nil)⟩ | exact bn2 fun _ i1 _ i2 => ⟨_, fun s _ => BindsTo.of_eq rfl, locs rfl, KB.knows (.cons i2 (.cons i1 .nil))⟩ | exact bn3 fun _ i1 _ i2 _ i3 => ⟨_, fun s _ => BindsTo.of_eq rfl, locs rfl, KB.knows (.cons i3 (.cons i2 (.cons i1 .nil)))⟩ | exact bn4 fun _ i1 _ i2 _ i3 _ i4 => ⟨_, fun s _ => BindsTo.of_eq rfl, locs rfl, KB.knows (.cons i4 (.cons i3 (.cons i2 (.cons i1 .nil))))⟩ | exact bn5 fun _ i1 _ i2 _ i3 _ i4 _ i5 => ⟨_, fun s _ => BindsTo.of_eq rfl, locs rfl, KB.knows (.cons i5 (.cons i4 (.cons i3 (.cons i2 (.cons i1 .nil)))))⟩ | exact bn6 fun _ i1 _ i2 _ i3 _ i4 _ i5 _ i6 => ⟨_, fun s _ => BindsTo.of_eq rfl, locs rfl, KB.knows (.cons i6 (.cons i5 (.cons i4 (.cons i3 (.cons i2 (.cons i1 .nil))))))⟩)); (case h1_1 => exact rfl); (case h2_1 => exact rfl); (case h3_1 => exact rfl); (case h4_1 => decide)))
  intro A' L' g ok'
  wtm_at "mine.wx"
  exact ⟨(by simp), q⟩

def Ext (H H' : AHeap) : Prop := ∀ a o, H a = some o → H' a = some o
theorem Ext.refl (H : AHeap) : Ext H H := fun _ _ e => e
theorem Ext.set {H H' : AHeap} (h : Ext H H') {l o} (hl : H' l = none) : Ext H (H'.set l o) := fun a o' e => set_get (h a o' e) hl
theorem Ext.trans {H H' H'' : AHeap} (h : Ext H H') (h' : Ext H' H'') : Ext H H'' := fun a o e => h' a o (h a o e)

def gcls (g : Int) : Int := if g = 1 ∨ g = 2 then 1 else if g = 6 ∨ g = 7 then 3 else 0
def IsGl (g : Int) : Prop := g = 1 ∨ g = 2 ∨ g = 6 ∨ g = 7

structure IR where
  glyph : Int
  cluster : Int
  xa : Int
  xo : Int
  yo : Int
  par : Int
  bond : Str
def infoF (r : IR) (u : Bool) : List (Str × AV) := [(Str.ofString "code", .int 97), (Str.ofString "glyph", .int r.glyph), (Str.ofString "cluster", .int r.cluster), (Str.ofString "mask", .int 1), (Str.ofString "is_unsafe", .bool u), (Str.ofString "lig_id", .int 0), (Str.ofString "lig_part", .int 0), (Str.ofString "lig_count", .int 0), (Str.ofString "split_id", .int 0), (Str.ofString "kind", .str (Str.ofString "")), (Str.ofString "x_advance", .int r.xa), (Str.ofString "y_advance", .int 0), (Str.ofString "x_offset", .int r.xo), (Str.ofString "y_offset", .int r.yo), (Str.ofString "parent", .int r.par), (Str.ofString "bond", .str r.bond)]
structure Sc where
  bu : Addr
  bud : Addr
  rl : Addr
  gd : Addr
  gdd : Addr
  cd : Addr
  cdd : Addr
  cdl : Addr
  ad : Addr
  sl : Addr
  pl : Addr
  ql : Addr
def bufF (rl : Addr) (b : Bool) : List (Str × AV) := [(Str.ofString "row", .ref rl), (Str.ofString "is_backward", .bool b), (Str.ofString "last_lig", .int 0), (Str.ofString "last_split", .int 0)]
def gdefF (A : Sc) : List (Str × AV) := [(Str.ofString "classes", .ref A.cd), (Str.ofString "attach", .ref A.ad), (Str.ofString "sets", .ref A.sl), (Str.ofString "points", .ref A.pl), (Str.ofString "carets", .ref A.ql)]
def clsKV : List (Int × AV) := [(1, .int 1), (2, .int 1), (6, .int 3), (7, .int 3)]
structure StaticOK (H : AHeap) (A : Sc) (b : Bool) : Prop where
  bu : H A.bu = some (.inst 228 A.bud)
  bud : H A.bud = some (.ns (bufF A.rl b))
  gd : H A.gd = some (.inst 526 A.gdd)
  gdd : H A.gdd = some (.ns (gdefF A))
  cd : H A.cd = some (.inst 478 A.cdd)
  cdd : H A.cdd = some (.ns [(Str.ofString "classes", .ref A.cdl)])
  cdl : ∃ ep, H A.cdl = some (.dict clsKV ep)
theorem StaticOK.ext {H H' A b} (S : StaticOK H A b) (h : Ext H H') : StaticOK H' A b := ⟨h _ _ S.bu, h _ _ S.bud, h _ _ S.gd, h _ _ S.gdd, h _ _ S.cd, h _ _ S.cdd, let ⟨ep, e⟩ := S.cdl; ⟨ep, h _ _ e⟩⟩
abbrev IRow := List (Addr × Addr × IR)
structure RowOK (H : AHeap) (rl : Addr) (xs : IRow) : Prop where
  rl : H rl = some (.list (xs.map fun p => .ref p.1))
  at_ : ∀ (k : Nat) (p : Addr × Addr × IR), xs[k]? = some p → H p.1 = some (.inst 175 p.2.1) ∧ ∃ u, H p.2.1 = some (.ns (infoF p.2.2 u))
  gl : ∀ p ∈ xs, IsGl p.2.2.glyph
  nd : (xs.map (·.2.1)).Nodup
  len : xs.length ≤ 100
theorem RowOK.ext {H H' rl xs} (S : RowOK H rl xs) (h : Ext H H') : RowOK H' rl xs := ⟨h _ _ S.rl, fun k p e => let ⟨a, u, b⟩ := S.at_ k p e; ⟨h _ _ a, u, h _ _ b⟩, S.gl, S.nd, S.len⟩

theorem attach_wanted_spec {c : Cx} {σ H d} {Q : AV → AHeap → Prop} (ok : c.OK (d + 1)) (q : Q (.int 0) H) : WCode c (.ref 123) [.int 0] σ H Q := by
  ((refine' F_def (by assumption) ?ho_3 ?hcd_3 ?hb_3 ?h1_3 ?h2_3 ?h3_3 ?h4_3 ?_; (case ho_3 => k_is); (case hcd_3 => k_is); (case hb_3 => (first | exact bn0 ⟨_, fun s _ => BindsTo.of_eq rfl, locs rfl, KB.knows .nil⟩ | exact bn1 fun _ i1 => ⟨_, fun s _ => BindsTo.of_eq rfl, locs rfl, KB.knows (.cons i1 .nil)⟩ | exact bn2 fun _ i1 _ i2 => ⟨_, fun s _ => BindsTo.of_eq rfl, locs rfl, KB.knows (.cons i2 (.cons i1 .nil))⟩ | exact bn3 fun _ i1 _ i2 _ i3 => ⟨_, fun s _ => BindsTo.of_eq rfl, locs rfl, KB.knows (.cons i3 (.cons i2 (.cons i1 .nil)))⟩ | exact bn4 fun _ i1 _ i2 _ i3 _ i4 => ⟨_, fun s _ => BindsTo.of_eq rfl, locs rfl, KB.knows (.cons i4 (.cons i3 (.cons i2 (.cons i1 .nil))))⟩ | exact bn5 fun _ i1 _ i2 _ i3 _ i4 _ i5 => ⟨_, fun s _ => BindsTo.of_eq rfl, locs rfl, KB.knows (.cons i5 (.cons i4 (.cons i3 (.cons i2 (.cons i1 .nil)))))⟩ | exact bn6 fun _ i1 _ i2 _ i3 _ i4 _ i5 _ i6 => ⟨_, fun s _ => BindsTo.of_eq rfl, locs rfl, KB.knows (.cons i6 (.cons i5 (.cons i4 (.cons i3 (.cons i2 (.cons i1 .nil))))))⟩)); (case h1_3 => exact rfl); (case h2_3 => exact rfl); (case h3_3 => exact rfl); (case h4_3 => decide)))
  intro A' L' g ok'
  wtm_at "mine.wx"
  refine O_div (by decide) (PyProof.noPylong_small (by decide)) ?_
  wtm_at "mine.wx"
  refine O_mod (by decide) ?_
  exact q
theorem class_bit_spec {c : Cx} {σ H d} {Q : AV → AHeap → Prop} (ok : c.OK (d + 1)) {n : Int} (hn : n = 1 ∨ n = 3) (q : ∀ H', Ext H H' → Q (.int (if n = 1 then 2 else 8)) H') : WCode c (.ref 130) [.int n] σ H Q := by
  ((refine' F_def (by assumption) ?ho_5 ?hcd_5 ?hb_5 ?h1_5 ?h2_5 ?h3_5 ?h4_5 ?_; (case ho_5 => k_is); (case hcd_5 => k_is); (case hb_5 => (first | exact bn0 ⟨_, fun s _ => BindsTo.of_eq rfl, locs rfl, KB.knows .nil⟩ | exact bn1 fun _ i1 => ⟨_, fun s _ => BindsTo.of_eq rfl, locs rfl, KB.knows (.cons i1 .nil)⟩ | exact bn2 fun _ i1 _ i2 => ⟨_, fun s _ => BindsTo.of_eq rfl, locs rfl, KB.knows (.cons i2 (.cons i1 .nil))⟩ | exact bn3 fun _ i1 _ i2 _ i3 => ⟨_, fun s _ => BindsTo.of_eq rfl, locs rfl, KB.knows (.cons i3 (.cons i2 (.cons i1 .nil)))⟩ | exact bn4 fun _ i1 _ i2 _ i3 _ i4 => ⟨_, fun s _ => BindsTo.of_eq rfl, locs rfl, KB.knows (.cons i4 (.cons i3 (.cons i2 (.cons i1 .nil))))⟩ | exact bn5 fun _ i1 _ i2 _ i3 _ i4 _ i5 => ⟨_, fun s _ => BindsTo.of_eq rfl, locs rfl, KB.knows (.cons i5 (.cons i4 (.cons i3 (.cons i2 (.cons i1 .nil)))))⟩ | exact bn6 fun _ i1 _ i2 _ i3 _ i4 _ i5 _ i6 => ⟨_, fun s _ => BindsTo.of_eq rfl, locs rfl, KB.knows (.cons i6 (.cons i5 (.cons i4 (.cons i3 (.cons i2 (.cons i1 .nil))))))⟩)); (case h1_5 => exact rfl); (case h2_5 => exact rfl); (case h3_5 => exact rfl); (case h4_5 => decide)))
  intro A' L' g ok'
  wtm_at "mine.wx"
  ((refine' E_dget ?_ _ ?he_7 ?hs_7; (case he_7 => with_unfolding_all rfl); (case hs_7 => with_unfolding_all rfl)))
  ((refine E_dict rfl rfl (by simp) (by decide) ?_))
  intro l hl
  wtm_at "mine.wx"
  refine ⟨_, rfl, ?_⟩
  wtm_at "mine.wx"
  refine ⟨_, rfl, ?_⟩
  wtm_at "mine.wx"
  refine ⟨_, rfl, ?_⟩
  wtm_at "mine.wx"
  refine ⟨AHeap.set_self _ _ _, by simp, by simp, fun ep => ⟨_, _, _, rfl, AHeap.set_self _ _ _, ?_⟩⟩
  wtm_at "mine.wx"
  refine ⟨_, rfl, AHeap.set_self _ _ _, ?_⟩
  have h := q (((H.set l (.dict [] 0)).set l (.dict [(1, .int 2), (2, .int 4), (3, .int 8)] ep))) (fun a o e => by
    have := ne_of e hl
    rw [AHeap.set_ne _ _ this, AHeap.set_ne _ _ this]; exact e)
  rcases hn with rfl | rfl <;> exact h
theorem class_of_spec {c : Cx} {σ H d} {Q : AV → AHeap → Prop} (ok : c.OK (d + 1)) {x dx l ep gl} (hx : H x = some (.inst 478 dx)) (hdx : H dx = some (.ns [(Str.ofString "classes", .ref l)])) (hl : H l = some (.dict clsKV ep)) (hg : IsGl gl)
    (q : Q (.int (gcls gl)) H) : WCode c (.ref 456) [.ref x, .int gl] σ H Q := by
  ((refine' F_def (by assumption) ?ho_9 ?hcd_9 ?hb_9 ?h1_9 ?h2_9 ?h3_9 ?h4_9 ?_; (case ho_9 => k_is); (case hcd_9 => k_is); (case hb_9 => (first | exact bn0 ⟨_, fun s _ => BindsTo.of_eq rfl, locs rfl, KB.knows .nil⟩ | exact bn1 fun _ i1 => ⟨_, fun s _ => BindsTo.of_eq rfl, locs rfl, KB.knows (.cons i1 .nil)⟩ | exact bn2 fun _ i1 _ i2 => ⟨_, fun s _ => BindsTo.of_eq rfl, locs rfl, KB.knows (.cons i2 (.cons i1 .nil))⟩ | exact bn3 fun _ i1 _ i2 _ i3 => ⟨_, fun s _ => BindsTo.of_eq rfl, locs rfl, KB.knows (.cons i3 (.cons i2 (.cons i1 .nil)))⟩ | exact bn4 fun _ i1 _ i2 _ i3 _ i4 => ⟨_, fun s _ => BindsTo.of_eq rfl, locs rfl, KB.knows (.cons i4 (.cons i3 (.cons i2 (.cons i1 .nil))))⟩ | exact bn5 fun _ i1 _ i2 _ i3 _ i4 _ i5 => ⟨_, fun s _ => BindsTo.of_eq rfl, locs rfl, KB.knows (.cons i5 (.cons i4 (.cons i3 (.cons i2 (.cons i1 .nil)))))⟩ | exact bn6 fun _ i1 _ i2 _ i3 _ i4 _ i5 _ i6 => ⟨_, fun s _ => BindsTo.of_eq rfl, locs rfl, KB.knows (.cons i6 (.cons i5 (.cons i4 (.cons i3 (.cons i2 (.cons i1 .nil))))))⟩)); (case h1_9 => exact rfl); (case h2_9 => exact rfl); (case h3_9 => exact rfl); (case h4_9 => decide)))
  intro A' L' g ok'
  wtm_at "mine.wx"
  ((refine' E_dget ?_ _ ?he_11 ?hs_11; (case he_11 => with_unfolding_all rfl); (case hs_11 => with_unfolding_all rfl)))
  wtm_at "mine.wx"
  refine ⟨_, _, _, rfl, hl, ?_⟩
  wtm_at "mine.wx"
  refine ⟨_, rfl, hl, ?_⟩
  rcases hg with rfl | rfl | rfl | rfl <;> exact q

theorem glyph_class_spec {c : Cx} {σ H d} {Q : AV → AHeap → Prop} (ok : c.OK (d + 2)) {A b gl} (S : StaticOK H A b) (hg : IsGl gl) (q : Q (.int (gcls gl)) H) : WCode c (.ref 504) [.ref A.gd, .int gl] σ H Q := by
  obtain ⟨h1, h2, h3, h4, h5, h6, ep, h7⟩ := S
  ((refine' F_def (by assumption) ?ho_12 ?hcd_12 ?hb_12 ?h1_12 ?h2_12 ?h3_12 ?h4_12 ?_; (case ho_12 => k_is); (case hcd_12 => k_is); (case hb_12 => (first | exact bn0 ⟨_, fun s _ => BindsTo.of_eq rfl, locs rfl, KB.knows .nil⟩ | exact bn1 fun _ i1 => ⟨_, fun s _ => BindsTo.of_eq rfl, locs rfl, KB.knows (.cons i1 .nil)⟩ | exact bn2 fun _ i1 _ i2 => ⟨_, fun s _ => BindsTo.of_eq rfl, locs rfl, KB.knows (.cons i2 (.cons i1 .nil))⟩ | exact bn3 fun _ i1 _ i2 _ i3 => ⟨_, fun s _ => BindsTo.of_eq rfl, locs rfl, KB.knows (.cons i3 (.cons i2 (.cons i1 .nil)))⟩ | exact bn4 fun _ i1 _ i2 _ i3 _ i4 => ⟨_, fun s _ => BindsTo.of_eq rfl, locs rfl, KB.knows (.cons i4 (.cons i3 (.cons i2 (.cons i1 .nil))))⟩ | exact bn5 fun _ i1 _ i2 _ i3 _ i4 _ i5 => ⟨_, fun s _ => BindsTo.of_eq rfl, locs rfl, KB.knows (.cons i5 (.cons i4 (.cons i3 (.cons i2 (.cons i1 .nil)))))⟩ | exact bn6 fun _ i1 _ i2 _ i3 _ i4 _ i5 _ i6 => ⟨_, fun s _ => BindsTo.of_eq rfl, locs rfl, KB.knows (.cons i6 (.cons i5 (.cons i4 (.cons i3 (.cons i2 (.cons i1 .nil))))))⟩)); (case h1_12 => exact rfl); (case h2_12 => exact rfl); (case h3_12 => exact rfl); (case h4_12 => decide)))
  intro A' L' g ok'
  wtm_at "mine.wx"
  ((refine E_meth (C := 478) (f := 456) (by assumption) ?_ (by (exact pcls_of rfl)) (by k_is) (by k_is) (by k_is) _ (by with_unfolding_all rfl) (by with_unfolding_all rfl) (by with_unfolding_all rfl)))
  wtm_at "mine.wx"
  ((refine ⟨_, _, _, rfl, (by wtm_at "mine.hlk"), (by wtm_at "mine.hlk"), (by exact rfl), ?_⟩))
  wtm_at "mine.wx"
  refine Call_code (class_of_spec (by assumption) h5 h6 h7 hg ?_)
  wtm_at "mine.wx"
  refine ⟨fun e => ?_, fun e => ?_⟩
  · rcases hg with rfl | rfl | rfl | rfl <;> simp [gcls] at e
  wtm_at "mine.wx"
  refine ⟨fun e => ?_, fun e => ?_⟩
  · wtm_at "mine.wx"
    exact q
  · rcases hg with rfl | rfl | rfl | rfl <;> simp [gcls] at e

def lookF (kind : AV) (fl : Int) (tb : Addr) : List (Str × AV) := [(Str.ofString "kind", kind), (Str.ofString "flag", .int fl), (Str.ofString "mark_set", .int 0), (Str.ofString "tables", .ref tb)]
def ign (fl gl : Int) : Bool := decide (fl = 8 ∧ gcls gl = 3)
theorem is_ignored_spec {c : Cx} {σ H d} {Q : AV → AHeap → Prop} (ok : c.OK (d + 3)) {A b gl lk lkd kind fl tb} (S : StaticOK H A b) (hg : IsGl gl) (hk : H lk = some (.inst 90 lkd)) (hkd : H lkd = some (.ns (lookF kind fl tb))) (hf : fl = 0 ∨ fl = 8)
    (q : ∀ H', Ext H H' → Q (.bool (ign fl gl)) H') : WCode c (.ref 137) [.ref A.gd, .ref lk, .int gl] σ H Q := by
  have S' := S
  obtain ⟨h1, h2, h3, h4, h5, h6, ep, h7⟩ := S
  ((refine' F_def (by assumption) ?ho_17 ?hcd_17 ?hb_17 ?h1_17 ?h2_17 ?h3_17 ?h4_17 ?_; (case ho_17 => k_is); (case hcd_17 => k_is); (case hb_17 => (first | exact bn0 ⟨_, fun s _ => BindsTo.of_eq rfl, locs rfl, KB.knows .nil⟩ | exact bn1 fun _ i1 => ⟨_, fun s _ => BindsTo.of_eq rfl, locs rfl, KB.knows (.cons i1 .nil)⟩ | exact bn2 fun _ i1 _ i2 => ⟨_, fun s _ => BindsTo.of_eq rfl, locs rfl, KB.knows (.cons i2 (.cons i1 .nil))⟩ | exact bn3 fun _ i1 _ i2 _ i3 => ⟨_, fun s _ => BindsTo.of_eq rfl, locs rfl, KB.knows (.cons i3 (.cons i2 (.cons i1 .nil)))⟩ | exact bn4 fun _ i1 _ i2 _ i3 _ i4 => ⟨_, fun s _ => BindsTo.of_eq rfl, locs rfl, KB.knows (.cons i4 (.cons i3 (.cons i2 (.cons i1 .nil))))⟩ | exact bn5 fun _ i1 _ i2 _ i3 _ i4 _ i5 => ⟨_, fun s _ => BindsTo.of_eq rfl, locs rfl, KB.knows (.cons i5 (.cons i4 (.cons i3 (.cons i2 (.cons i1 .nil)))))⟩ | exact bn6 fun _ i1 _ i2 _ i3 _ i4 _ i5 _ i6 => ⟨_, fun s _ => BindsTo.of_eq rfl, locs rfl, KB.knows (.cons i6 (.cons i5 (.cons i4 (.cons i3 (.cons i2 (.cons i1 .nil))))))⟩)); (case h1_17 => exact rfl); (case h2_17 => exact rfl); (case h3_17 => exact rfl); (case h4_17 => decide)))
  intro A' L' g ok'
  wtm_at "mine.wx"
  ((refine E_meth (C := 526) (f := 504) (by assumption) ?_ (by (exact pcls_of rfl)) (by k_is) (by k_is) (by k_is) _ (by with_unfolding_all rfl) (by with_unfolding_all rfl) (by with_unfolding_all rfl)))
  wtm_at "mine.wx"
  ((refine ⟨_, _, _, rfl, (by wtm_at "mine.hlk"), (by wtm_at "mine.hlk"), (by exact rfl), ?_⟩))
  wtm_at "mine.wx"
  refine Call_code (glyph_class_spec (by assumption) S' hg ?_)
  wtm_at "mine.wx"
  ((refine E_call (fa := 130) (by assumption) ?_ (by k_is) (by with_unfolding_all rfl) (by with_unfolding_all rfl); wtm_at "mine.w_name"; refine ⟨rfl, ?_⟩))
  wtm_at "mine.wx"
  refine Call_code (class_bit_spec (by assumption) (by rcases hg with rfl | rfl | rfl | rfl <;> decide) fun H1 x1 => ?_)
  have S1 := S'.ext x1
  have hk1 := x1 _ _ hk
  have hkd1 := x1 _ _ hkd
  wtm_at "mine.wx"
  refine ⟨fun e => ?_, fun e => ?_⟩
  · wtm_at "mine.wx"
    have h : ign fl gl = true := by rcases hf with rfl | rfl <;> rcases hg with rfl | rfl | rfl | rfl <;> first | rfl | (revert e; decide)
    have := q H1 x1
    rw [h] at this
    exact this
  · wtm_at "mine.wx"
    refine ⟨fun e' => ?_, fun e' => ?_⟩
    · wtm_at "mine.wx"
      have h : ign fl gl = false := by rcases hf with rfl | rfl <;> rcases hg with rfl | rfl | rfl | rfl <;> first | rfl | (revert e; decide) | (revert e'; decide)
      have := q H1 x1
      rw [h] at this
      exact this
    have hf0 : fl = 0 := by rcases hf with rfl | rfl; rfl; (exfalso; rcases hg with rfl | rfl | rfl | rfl <;> first | (revert e; decide) | (revert e'; decide))
    subst hf0
    wtm_at "mine.wx"
    refine ⟨fun e2 => absurd e2 (by decide), fun e2 => ?_⟩
    wtm_at "mine.wx"
    ((refine E_call (fa := 123) (by assumption) ?_ (by k_is) (by with_unfolding_all rfl) (by with_unfolding_all rfl); wtm_at "mine.w_name"; refine ⟨rfl, ?_⟩))
    wtm_at "mine.wx"
    refine Call_code (attach_wanted_spec (by assumption) ?_)
    wtm_at "mine.wx"
    refine ⟨fun _ => ?_, fun e3 => absurd e3 (by decide)⟩
    have h : ign 0 gl = false := by simp [ign]
    have := q H1 x1
    rw [h] at this
    exact this

def sceneF (A : Sc) (a b : Addr) (lk : Addr) (dp : Int) (st : Addr) : List (Str × AV) := [(Str.ofString "buffer", .ref A.bu), (Str.ofString "gdef", .ref A.gd), (Str.ofString "lookups", .ref a), (Str.ofString "lookup", .ref lk), (Str.ofString "mask", .int 1), (Str.ofString "depth", .int dp), (Str.ofString "steps", .ref st)]
structure SceneOK (H : AHeap) (A : Sc) (sc : Addr) (fl : Int) : Prop where
  ex : ∃ scd a b lk dp st lkd kind tb, H sc = some (.inst 112 scd) ∧ H scd = some (.ns (sceneF A a b lk dp st)) ∧ H lk = some (.inst 90 lkd) ∧ H lkd = some (.ns (lookF kind fl tb)) ∧ kind.plain = true
theorem SceneOK.ext {H H' A sc fl} (S : SceneOK H A sc fl) (h : Ext H H') : SceneOK H' A sc fl := by
  obtain ⟨scd, a, b, lk, dp, st, lkd, kind, tb, h1, h2, h3, h4, h5⟩ := S.ex
  exact ⟨⟨scd, a, b, lk, dp, st, lkd, kind, tb, h _ _ h1, h _ _ h2, h _ _ h3, h _ _ h4, h5⟩⟩

theorem I_row {c : Cx} {σ H} {Q : AV → AHeap → Prop} {value slice rl} {xs : IRow} {k : Nat} {p : Addr × Addr × IR} {i : Int} (R : RowOK H rl xs) (hk : xs[k]? = some p) (hi : i = (k : Int)) (q : Q (.ref p.1) H)
    (hs : ∀ u, subscripted slice false (.ref rl) (.int i u) = operate [.ref rl, .int i u] (getItem (.ref rl) (.int i u)) := by intro _; with_unfolding_all rfl) : WI c value slice (.ref rl) (.int i) σ H Q := by
  have hlt := (List.getElem?_eq_some_iff.mp hk).1
  have hl := R.len
  exact I_list R.rl (by omega) (by omega) (a := .ref p.1) (by rw [hi, Int.toNat_natCast, List.getElem?_map, hk]; rfl) q hs

theorem passes_spec {c : Cx} {σ H d} {Q : AV → AHeap → Prop} (ok : c.OK (d + 4)) {A b sc fl} {xs : IRow} {k : Nat} {p : Addr × Addr × IR} (S : StaticOK H A b) (hS : SceneOK H A sc fl) (R : RowOK H A.rl xs) (hp : xs[k]? = some p) (hf : fl = 0 ∨ fl = 8)
    (q : ∀ H', Ext H H' → Q (.bool (ign fl p.2.2.glyph)) H') : WCode c (.ref 144) [.ref sc, .int (k : Int)] σ H Q := by
  have S' := S
  obtain ⟨scd, a, b', lk, dp, st, lkd, kind, tb, h1, h2, h3, h4, h5⟩ := hS.ex
  have hbu := S.bu
  have hbud := S.bud
  obtain ⟨hi, u, hid⟩ := R.at_ _ _ hp
  have hgl := R.gl p (List.mem_of_getElem? hp)
  ((refine' F_def (by assumption) ?ho_24 ?hcd_24 ?hb_24 ?h1_24 ?h2_24 ?h3_24 ?h4_24 ?_; (case ho_24 => k_is); (case hcd_24 => k_is); (case hb_24 => (first | exact bn0 ⟨_, fun s _ => BindsTo.of_eq rfl, locs rfl, KB.knows .nil⟩ | exact bn1 fun _ i1 => ⟨_, fun s _ => BindsTo.of_eq rfl, locs rfl, KB.knows (.cons i1 .nil)⟩ | exact bn2 fun _ i1 _ i2 => ⟨_, fun s _ => BindsTo.of_eq rfl, locs rfl, KB.knows (.cons i2 (.cons i1 .nil))⟩ | exact bn3 fun _ i1 _ i2 _ i3 => ⟨_, fun s _ => BindsTo.of_eq rfl, locs rfl, KB.knows (.cons i3 (.cons i2 (.cons i1 .nil)))⟩ | exact bn4 fun _ i1 _ i2 _ i3 _ i4 => ⟨_, fun s _ => BindsTo.of_eq rfl, locs rfl, KB.knows (.cons i4 (.cons i3 (.cons i2 (.cons i1 .nil))))⟩ | exact bn5 fun _ i1 _ i2 _ i3 _ i4 _ i5 => ⟨_, fun s _ => BindsTo.of_eq rfl, locs rfl, KB.knows (.cons i5 (.cons i4 (.cons i3 (.cons i2 (.cons i1 .nil)))))⟩ | exact bn6 fun _ i1 _ i2 _ i3 _ i4 _ i5 _ i6 => ⟨_, fun s _ => BindsTo.of_eq rfl, locs rfl, KB.knows (.cons i6 (.cons i5 (.cons i4 (.cons i3 (.cons i2 (.cons i1 .nil))))))⟩)); (case h1_24 => exact rfl); (case h2_24 => exact rfl); (case h3_24 => exact rfl); (case h4_24 => decide)))
  intro A' L' g ok'
  wtm_at "mine.wx"
  ((refine E_call (fa := 137) (by assumption) ?_ (by k_is) (by with_unfolding_all rfl) (by with_unfolding_all rfl); wtm_at "mine.w_name"; refine ⟨rfl, ?_⟩))
  wtm_at "mine.wx"
  refine I_row R hp rfl ?_
  wtm_at "mine.wx"
  refine Call_code (is_ignored_spec (by assumption) S' hgl h3 h4 hf ?_)
  exact q

noncomputable def seek (skip : Nat → Bool) : Nat → Int
  | 0 => -1
  | n + 1 => if skip n then seek skip n else (n : Int)
def rglyph (xs : IRow) (k : Nat) : Int := match xs[k]? with | some p => p.2.2.glyph | none => 0
theorem rglyph_of {xs : IRow} {k : Nat} {p} (h : xs[k]? = some p) : rglyph xs k = p.2.2.glyph := by unfold rglyph; rw [h]

theorem kinds_around {c : Cx} {σ H d} {Q : AV → AHeap → Prop} (ok : c.OK d) (q : Q (.bool true) H) : WC2 c .NotIn (.str (Str.ofString "")) (.ref 238) σ H Q := by
  refine' C_notinT (ys := [Str.ofString "zwj", Str.ofString "zwnj", Str.ofString "hidden"]) ok ?ho ?hc ?hd ?hi ?q
  case ho => k_is
  case hc => rfl
  case hd => rfl
  case hi => exact .cons _ _ (.cons _ _ (.cons _ _ .nil))
  case q => exact q
theorem neighbour_spec {c : Cx} {σ H d} {Q : AV → AHeap → Prop} (ok : c.OK (d + 5)) {A b sc fl} {xs : IRow} {n : Nat} (S : StaticOK H A b) (hS : SceneOK H A sc fl) (R : RowOK H A.rl xs) (hn : n ≤ xs.length) (hf : fl = 0 ∨ fl = 8)
    (q : ∀ H', Ext H H' → Q (.int (seek (fun k => ign fl (rglyph xs k)) n)) H') : WCode c (.ref 245) [.ref sc, .int (n : Int), .int (-1)] σ H Q := by
  ((refine' F_def (by assumption) ?ho_27 ?hcd_27 ?hb_27 ?h1_27 ?h2_27 ?h3_27 ?h4_27 ?_; (case ho_27 => k_is); (case hcd_27 => k_is); (case hb_27 => (first | exact bn0 ⟨_, fun s _ => BindsTo.of_eq rfl, locs rfl, KB.knows .nil⟩ | exact bn1 fun _ i1 => ⟨_, fun s _ => BindsTo.of_eq rfl, locs rfl, KB.knows (.cons i1 .nil)⟩ | exact bn2 fun _ i1 _ i2 => ⟨_, fun s _ => BindsTo.of_eq rfl, locs rfl, KB.knows (.cons i2 (.cons i1 .nil))⟩ | exact bn3 fun _ i1 _ i2 _ i3 => ⟨_, fun s _ => BindsTo.of_eq rfl, locs rfl, KB.knows (.cons i3 (.cons i2 (.cons i1 .nil)))⟩ | exact bn4 fun _ i1 _ i2 _ i3 _ i4 => ⟨_, fun s _ => BindsTo.of_eq rfl, locs rfl, KB.knows (.cons i4 (.cons i3 (.cons i2 (.cons i1 .nil))))⟩ | exact bn5 fun _ i1 _ i2 _ i3 _ i4 _ i5 => ⟨_, fun s _ => BindsTo.of_eq rfl, locs rfl, KB.knows (.cons i5 (.cons i4 (.cons i3 (.cons i2 (.cons i1 .nil)))))⟩ | exact bn6 fun _ i1 _ i2 _ i3 _ i4 _ i5 _ i6 => ⟨_, fun s _ => BindsTo.of_eq rfl, locs rfl, KB.knows (.cons i6 (.cons i5 (.cons i4 (.cons i3 (.cons i2 (.cons i1 .nil))))))⟩)); (case h1_27 => exact rfl); (case h2_27 => exact rfl); (case h3_27 => exact rfl); (case h4_27 => decide)))
  intro A' L' g ok'
  wtm_at "mine.wx"
  refine S_while (fun m ρ H' => ∃ v, v = (m : Int) - 1 ∧ m ≤ n ∧ seek (fun k => ign fl (rglyph xs k)) n = seek (fun k => ign fl (rglyph xs k)) m ∧ Ext H H' ∧ ρ = [(Str.ofString "here", .int v), (Str.ofString "scene", .ref sc), (Str.ofString "step", .int (-1))]) n ⟨_, Sub.cons rfl (Sub.cons rfl (Sub.cons rfl Sub.nil)), _, rfl, Nat.le_refl _, rfl, Ext.refl _, rfl⟩ ?_
  rintro m ρ H1 ⟨v, hv, hm, hseek, x1, rfl⟩
  have S1 := S.ext x1
  have hS1 := hS.ext x1
  have R1 := R.ext x1
  obtain ⟨scd, a, b', lk, dp, st, lkd, kind, tb, h1, h2, h3, h4, h5⟩ := hS1.ex
  have hbu := S1.bu
  have hbud := S1.bud
  wtm_at "mine.wx"
  refine ⟨fun e => ?_, fun e => ?_⟩
  · -- below nought
    refine ⟨(fun e' => nomatch e'), fun _ => ?_⟩
    wtm_at "mine.wx"
    have : m = 0 := by simp at e; omega
    subst this
    rw [hseek] at q
    exact q H1 x1
  wtm_at "mine.wx"
  ((refine E_callB (id := "len") ?_ (by with_unfolding_all rfl) (by with_unfolding_all rfl); wtm_at "mine.w_name"; refine ⟨rfl, ?_⟩))
  wtm_at "mine.wx"
  refine F_len R1.rl (by simp; have := R1.len; omega) ?_
  wtm_at "mine.wx"
  refine ⟨fun e2 => ?_, fun e2 => by simp at e e2; omega⟩
  obtain ⟨k, rfl⟩ : ∃ k, m = k + 1 := ⟨m - 1, by simp at e; omega⟩
  obtain rfl : v = (k : Int) := by omega
  have hklt : k < xs.length := by omega
  have hp : xs[k]? = some xs[k] := List.getElem?_eq_getElem hklt
  wtm_at "mine.wx"
  ((refine E_call (fa := 144) (by assumption) ?_ (by k_is) (by with_unfolding_all rfl) (by with_unfolding_all rfl); wtm_at "mine.w_name"; refine ⟨rfl, ?_⟩))
  wtm_at "mine.wx"
  refine Call_code (passes_spec (by assumption) S1 hS1 R1 hp hf fun H2 x2 => ?_)
  have x12 := x1.trans x2
  have S2 := S1.ext x2
  have hS2 := hS1.ext x2
  have R2 := R1.ext x2
  have g1 := x2 _ _ h1
  have g2 := x2 _ _ h2
  have g3 := x2 _ _ hbu
  have g4 := x2 _ _ hbud
  obtain ⟨hi, u, hid⟩ := R2.at_ _ _ hp
  have hgk := rglyph_of hp
  wtm_at "mine.wx"
  refine ⟨fun e3 => ?_, fun e3 => ?_⟩
  · wtm_at "mine.wx"
    refine ⟨(fun e' => nomatch e'), fun _ => ?_⟩
    wtm_at "mine.wx"
    refine ⟨k, _, by omega, Sub.cons rfl (Sub.cons rfl (Sub.cons rfl Sub.nil)), _, rfl, by omega, ?_, x12, rfl⟩
    rw [hseek, seek, hgk, if_pos (by simpa using e3)]
  · wtm_at "mine.wx"
    refine I_row R2 hp rfl ?_
    wtm_at "mine.wx"
    refine kinds_around (by assumption) ?_
    wtm_at "mine.wx"
    refine ⟨(fun e' => nomatch e'), fun _ => ?_⟩
    wtm_at "mine.wx"
    refine ⟨fun _ => ?_, (fun e' => nomatch e')⟩
    wtm_at "mine.wx"
    rw [hseek, seek, hgk, if_neg (by simpa using e3)] at q
    exact q H2 x12
theorem before_at_spec {c : Cx} {σ H d} {Q : AV → AHeap → Prop} (ok : c.OK (d + 6)) {A b sc fl} {xs : IRow} {n : Nat} (S : StaticOK H A b) (hS : SceneOK H A sc fl) (R : RowOK H A.rl xs) (hn : n ≤ xs.length) (hf : fl = 0 ∨ fl = 8)
    (q : ∀ H', Ext H H' → Q (.int (seek (fun k => ign fl (rglyph xs k)) n)) H') : WCode c (.ref 252) [.ref sc, .int (n : Int)] σ H Q := by
  ((refine' F_def (by assumption) ?ho_31 ?hcd_31 ?hb_31 ?h1_31 ?h2_31 ?h3_31 ?h4_31 ?_; (case ho_31 => k_is); (case hcd_31 => k_is); (case hb_31 => (first | exact bn0 ⟨_, fun s _ => BindsTo.of_eq rfl, locs rfl, KB.knows .nil⟩ | exact bn1 fun _ i1 => ⟨_, fun s _ => BindsTo.of_eq rfl, locs rfl, KB.knows (.cons i1 .nil)⟩ | exact bn2 fun _ i1 _ i2 => ⟨_, fun s _ => BindsTo.of_eq rfl, locs rfl, KB.knows (.cons i2 (.cons i1 .nil))⟩ | exact bn3 fun _ i1 _ i2 _ i3 => ⟨_, fun s _ => BindsTo.of_eq rfl, locs rfl, KB.knows (.cons i3 (.cons i2 (.cons i1 .nil)))⟩ | exact bn4 fun _ i1 _ i2 _ i3 _ i4 => ⟨_, fun s _ => BindsTo.of_eq rfl, locs rfl, KB.knows (.cons i4 (.cons i3 (.cons i2 (.cons i1 .nil))))⟩ | exact bn5 fun _ i1 _ i2 _ i3 _ i4 _ i5 => ⟨_, fun s _ => BindsTo.of_eq rfl, locs rfl, KB.knows (.cons i5 (.cons i4 (.cons i3 (.cons i2 (.cons i1 .nil)))))⟩ | exact bn6 fun _ i1 _ i2 _ i3 _ i4 _ i5 _ i6 => ⟨_, fun s _ => BindsTo.of_eq rfl, locs rfl, KB.knows (.cons i6 (.cons i5 (.cons i4 (.cons i3 (.cons i2 (.cons i1 .nil))))))⟩)); (case h1_31 => exact rfl); (case h2_31 => exact rfl); (case h3_31 => exact rfl); (case h4_31 => decide)))
  intro A' L' g ok'
  wtm_at "mine.wx"
  ((refine E_call (fa := 245) (by assumption) ?_ (by k_is) (by with_unfolding_all rfl) (by with_unfolding_all rfl); wtm_at "mine.w_name"; refine ⟨rfl, ?_⟩))
  wtm_at "mine.wx"
  exact Call_code (neighbour_spec (by assumption) S hS R hn hf q)

theorem lookup_init {c : Cx} {σ H d} {Q : AV → AHeap → Prop} (ok : c.OK (d + 1)) {x dx tb kind fl} (hx : H x = some (.inst 90 dx)) (hd : H dx = some (.ns [])) (hne : x ≠ dx)
    (q : ∀ H', (∀ a, a ≠ dx → H' a = H a) → H' dx = some (.ns (lookF kind fl tb)) → Q .none H') : WCode c (.ref 82) [.ref x, kind, .int fl, .int 0, .ref tb] σ H Q := by
  ((refine' F_def (by assumption) ?ho_34 ?hcd_34 ?hb_34 ?h1_34 ?h2_34 ?h3_34 ?h4_34 ?_; (case ho_34 => k_is); (case hcd_34 => k_is); (case hb_34 => (first | exact bn0 ⟨_, fun s _ => BindsTo.of_eq rfl, locs rfl, KB.knows .nil⟩ | exact bn1 fun _ i1 => ⟨_, fun s _ => BindsTo.of_eq rfl, locs rfl, KB.knows (.cons i1 .nil)⟩ | exact bn2 fun _ i1 _ i2 => ⟨_, fun s _ => BindsTo.of_eq rfl, locs rfl, KB.knows (.cons i2 (.cons i1 .nil))⟩ | exact bn3 fun _ i1 _ i2 _ i3 => ⟨_, fun s _ => BindsTo.of_eq rfl, locs rfl, KB.knows (.cons i3 (.cons i2 (.cons i1 .nil)))⟩ | exact bn4 fun _ i1 _ i2 _ i3 _ i4 => ⟨_, fun s _ => BindsTo.of_eq rfl, locs rfl, KB.knows (.cons i4 (.cons i3 (.cons i2 (.cons i1 .nil))))⟩ | exact bn5 fun _ i1 _ i2 _ i3 _ i4 _ i5 => ⟨_, fun s _ => BindsTo.of_eq rfl, locs rfl, KB.knows (.cons i5 (.cons i4 (.cons i3 (.cons i2 (.cons i1 .nil)))))⟩ | exact bn6 fun _ i1 _ i2 _ i3 _ i4 _ i5 _ i6 => ⟨_, fun s _ => BindsTo.of_eq rfl, locs rfl, KB.knows (.cons i6 (.cons i5 (.cons i4 (.cons i3 (.cons i2 (.cons i1 .nil))))))⟩)); (case h1_34 => exact rfl); (case h2_34 => exact rfl); (case h3_34 => exact rfl); (case h4_34 => decide)))
  intro A' L' g ok'
  wtm_at "mine.wx"
  exact q _ (fun a ha => by simp [AHeap.set, ha]) (AHeap.set_self _ _ _)
theorem new_ext {H H' : AHeap} {x dx : Addr} {o o' : AO} (hx : H x = none) (hdx : H dx = none) (h : ∀ a, a ≠ dx → H' a = ((H.set dx o).set x o') a) : Ext H H' := fun a o e => by
  have h1 := ne_of e hx
  have h2 := ne_of e hdx
  rw [h a h2, AHeap.set_ne _ _ h1, AHeap.set_ne _ _ h2]; exact e
theorem mk_lookup {c : Cx} {σ H d} {Q : AV → AHeap → Prop} (ok : c.OK (d + 2)) {tb kind fl}
    (q : ∀ x dx H', Ext H H' → H x = none → H' x = some (.inst 90 dx) → H' dx = some (.ns (lookF kind fl tb)) → Q (.ref x) H') : WCall c (.ref 90) [kind, .int fl, .int 0, .ref tb] σ H Q := by
  refine F_cls ok (by k_is) (by k_is) (by k_is) fun A' x dx ok2 hx hdx hne => ?_
  refine lookup_init ok2 (AHeap.set_self _ _ _) ((AHeap.set_ne _ _ (Ne.symm hne)).trans (AHeap.set_self _ _ _)) hne fun H' hk hn => ?_
  exact ⟨rfl, q x dx H' (new_ext hx hdx hk) hx ((hk x hne).trans (AHeap.set_self _ _ _)) hn⟩

theorem scene_init {c : Cx} {σ H d} {Q : AV → AHeap → Prop} (ok : c.OK (d + 1)) {x dx : Addr} {A : Sc} {b lk : Addr} {dp : Int} (hx : H x = some (.inst 112 dx)) (hd : H dx = some (.ns [])) (hne : x ≠ dx)
    (q : ∀ H' st, (∀ a, a ≠ dx → H a ≠ none → H' a = H a) → H' dx = some (.ns (sceneF A b b lk dp st)) → Q .none H') : WCode c (.ref 109) [.ref x, .ref A.bu, .ref A.gd, .ref b, .ref lk, .int 1, .int dp] σ H Q := by
  ((refine' F_def (by assumption) ?ho_36 ?hcd_36 ?hb_36 ?h1_36 ?h2_36 ?h3_36 ?h4_36 ?_; (case ho_36 => k_is); (case hcd_36 => k_is); (case hb_36 => (first | exact bn7 fun _ i1 _ i2 _ i3 _ i4 _ i5 _ i6 _ i7 => ⟨_, fun s _ => BindsTo.of_eq rfl, locs rfl, KB.knows (.cons i7 (.cons i6 (.cons i5 (.cons i4 (.cons i3 (.cons i2 (.cons i1 .nil)))))))⟩ | exact bn7 fun _ i1 _ i2 _ i3 _ i4 _ i5 _ i6 _ i7 => ⟨_, fun s X => binds_K X rfl (by k_is) rfl rfl rfl, locs rfl, KB.knows (.cons i7 (.cons i6 (.cons i5 (.cons i4 (.cons i3 (.cons i2 (.cons i1 .nil)))))))⟩)); (case h1_36 => exact rfl); (case h2_36 => exact rfl); (case h3_36 => exact rfl); (case h4_36 => decide)))
  intro A' L' g ok'
  wtm_at "mine.wx"
  refine ⟨by simp, fun st hst => ?_⟩
  wtm_at "mine.wx"
  refine q _ st (fun a ha hn => ?_) (AHeap.set_self _ _ _)
  have h1 : (H.set dx (.ns (((((([] ++ [(Str.ofString "buffer", AV.ref A.bu)]) ++ [(Str.ofString "gdef", AV.ref A.gd)]) ++ [(Str.ofString "lookups", AV.ref b)]) ++ [(Str.ofString "lookup", AV.ref lk)]) ++ [(Str.ofString "mask", AV.int 1)]) ++ [(Str.ofString "depth", AV.int dp)]))) st = none := by
    by_cases h : st = dx
    · subst h; rw [AHeap.set_self] at hst; cases hst
    · simpa [AHeap.set, h] using hst
  have h2 : a ≠ st := fun e => by
    subst e
    rw [AHeap.set_ne _ _ ha] at h1
    exact hn h1
  simp [AHeap.set, ha, h2]

theorem mk_scene {c : Cx} {σ H d} {Q : AV → AHeap → Prop} (ok : c.OK (d + 2)) {A : Sc} {b lk : Addr} {dp : Int}
    (q : ∀ x dx st H', Ext H H' → H' x = some (.inst 112 dx) → H' dx = some (.ns (sceneF A b b lk dp st)) → Q (.ref x) H') : WCall c (.ref 112) [.ref A.bu, .ref A.gd, .ref b, .ref lk, .int 1, .int dp] σ H Q := by
  refine F_cls ok (by k_is) (by k_is) (by k_is) fun A' x dx ok2 hx hdx hne => ?_
  refine scene_init ok2 (AHeap.set_self _ _ _) ((AHeap.set_ne _ _ (Ne.symm hne)).trans (AHeap.set_self _ _ _)) hne fun H' st hk hn => ?_
  refine ⟨rfl, q x dx st H' (fun a o e => ?_) ?_ hn⟩
  · have h1 := ne_of e hx
    have h2 := ne_of e hdx
    have : ((H.set dx (.ns [])).set x (.inst 112 dx)) a = some o := by rw [AHeap.set_ne _ _ h1, AHeap.set_ne _ _ h2]; exact e
    rw [hk a h2 (by rw [this]; simp)]; exact this
  · rw [hk x hne (by rw [AHeap.set_self]; simp)]; exact AHeap.set_self _ _ _

theorem scene_with_spec {c : Cx} {σ H d} {Q : AV → AHeap → Prop} (ok : c.OK (d + 3)) {A b sc fl fl'} (S : StaticOK H A b) (hS : SceneOK H A sc fl)
    (q : ∀ H' sc', Ext H H' → SceneOK H' A sc' fl' → Q (.ref sc') H') : WCode c (.ref 351) [.ref sc, .int fl', .int 0] σ H Q := by
  obtain ⟨scd, a, b', lk, dp, st, lkd, kind, tb, h1, h2, h3, h4, h5⟩ := hS.ex
  ((refine' F_def (by assumption) ?ho_38 ?hcd_38 ?hb_38 ?h1_38 ?h2_38 ?h3_38 ?h4_38 ?_; (case ho_38 => k_is); (case hcd_38 => k_is); (case hb_38 => (first | exact bn0 ⟨_, fun s _ => BindsTo.of_eq rfl, locs rfl, KB.knows .nil⟩ | exact bn1 fun _ i1 => ⟨_, fun s _ => BindsTo.of_eq rfl, locs rfl, KB.knows (.cons i1 .nil)⟩ | exact bn2 fun _ i1 _ i2 => ⟨_, fun s _ => BindsTo.of_eq rfl, locs rfl, KB.knows (.cons i2 (.cons i1 .nil))⟩ | exact bn3 fun _ i1 _ i2 _ i3 => ⟨_, fun s _ => BindsTo.of_eq rfl, locs rfl, KB.knows (.cons i3 (.cons i2 (.cons i1 .nil)))⟩ | exact bn4 fun _ i1 _ i2 _ i3 _ i4 => ⟨_, fun s _ => BindsTo.of_eq rfl, locs rfl, KB.knows (.cons i4 (.cons i3 (.cons i2 (.cons i1 .nil))))⟩ | exact bn5 fun _ i1 _ i2 _ i3 _ i4 _ i5 => ⟨_, fun s _ => BindsTo.of_eq rfl, locs rfl, KB.knows (.cons i5 (.cons i4 (.cons i3 (.cons i2 (.cons i1 .nil)))))⟩ | exact bn6 fun _ i1 _ i2 _ i3 _ i4 _ i5 _ i6 => ⟨_, fun s _ => BindsTo.of_eq rfl, locs rfl, KB.knows (.cons i6 (.cons i5 (.cons i4 (.cons i3 (.cons i2 (.cons i1 .nil))))))⟩)); (case h1_38 => exact rfl); (case h2_38 => exact rfl); (case h3_38 => exact rfl); (case h4_38 => decide)))
  intro A' L' g ok'
  wtm_at "mine.wx"
  ((refine E_call (fa := 90) (by assumption) ?_ (by k_is) (by with_unfolding_all rfl) (by with_unfolding_all rfl); wtm_at "mine.w_name"; refine ⟨rfl, ?_⟩))
  wtm_at "mine.wx"
  refine' G_own ?o ?p ?f ?hx ?hd ?hl ?hp ?_
  case o => assumption
  case hx => exact h3
  case hd => exact h4
  case p => (exact pcls_of rfl)
  case f => k_is
  case hl => rfl
  case hp => exact h5
  wtm_at "mine.wx"
  refine ⟨by simp, fun l hl => ?_⟩
  wtm_at "mine.wx"
  refine mk_lookup (by assumption) fun lk' lkd' H1 x1 hn k1 k2 => ?_
  have x1' : Ext H H1 := fun a o e => x1 _ _ (set_get e hl)
  have g1 := x1' _ _ h1
  have g2 := x1' _ _ h2
  wtm_at "mine.wx"
  ((refine E_call (fa := 112) (by assumption) ?_ (by k_is) (by with_unfolding_all rfl) (by with_unfolding_all rfl); wtm_at "mine.w_name"; refine ⟨rfl, ?_⟩))
  wtm_at "mine.wx"
  refine mk_scene (by assumption) fun sc' scd' st' H2 x2 k3 k4 => ?_
  exact q H2 sc' (x1'.trans x2) ⟨⟨scd', _, _, lk', _, st', lkd', kind, l, k3, k4, x2 _ _ k1, x2 _ _ k2, h5⟩⟩

theorem is_mark_at_spec {c : Cx} {σ H d} {Q : AV → AHeap → Prop} (ok : c.OK (d + 3)) {A b sc fl} {xs : IRow} {k : Nat} {p : Addr × Addr × IR} (S : StaticOK H A b) (hS : SceneOK H A sc fl) (R : RowOK H A.rl xs) (hp : xs[k]? = some p)
    (q : Q (.bool (decide (gcls p.2.2.glyph = 3))) H) : WCode c (.ref 358) [.ref sc, .int (k : Int)] σ H Q := by
  have S' := S
  obtain ⟨scd, a, b', lk, dp, st, lkd, kind, tb, h1, h2, h3, h4, h5⟩ := hS.ex
  have hbu := S.bu
  have hbud := S.bud
  have hgd := S.gd
  have hgdd := S.gdd
  obtain ⟨hi, u, hid⟩ := R.at_ _ _ hp
  have hgl := R.gl p (List.mem_of_getElem? hp)
  ((refine' F_def (by assumption) ?ho_43 ?hcd_43 ?hb_43 ?h1_43 ?h2_43 ?h3_43 ?h4_43 ?_; (case ho_43 => k_is); (case hcd_43 => k_is); (case hb_43 => (first | exact bn0 ⟨_, fun s _ => BindsTo.of_eq rfl, locs rfl, KB.knows .nil⟩ | exact bn1 fun _ i1 => ⟨_, fun s _ => BindsTo.of_eq rfl, locs rfl, KB.knows (.cons i1 .nil)⟩ | exact bn2 fun _ i1 _ i2 => ⟨_, fun s _ => BindsTo.of_eq rfl, locs rfl, KB.knows (.cons i2 (.cons i1 .nil))⟩ | exact bn3 fun _ i1 _ i2 _ i3 => ⟨_, fun s _ => BindsTo.of_eq rfl, locs rfl, KB.knows (.cons i3 (.cons i2 (.cons i1 .nil)))⟩ | exact bn4 fun _ i1 _ i2 _ i3 _ i4 => ⟨_, fun s _ => BindsTo.of_eq rfl, locs rfl, KB.knows (.cons i4 (.cons i3 (.cons i2 (.cons i1 .nil))))⟩ | exact bn5 fun _ i1 _ i2 _ i3 _ i4 _ i5 => ⟨_, fun s _ => BindsTo.of_eq rfl, locs rfl, KB.knows (.cons i5 (.cons i4 (.cons i3 (.cons i2 (.cons i1 .nil)))))⟩ | exact bn6 fun _ i1 _ i2 _ i3 _ i4 _ i5 _ i6 => ⟨_, fun s _ => BindsTo.of_eq rfl, locs rfl, KB.knows (.cons i6 (.cons i5 (.cons i4 (.cons i3 (.cons i2 (.cons i1 .nil))))))⟩)); (case h1_43 => exact rfl); (case h2_43 => exact rfl); (case h3_43 => exact rfl); (case h4_43 => decide)))
  intro A' L' g ok'
  wtm_at "mine.wx"
  ((refine E_meth (C := 526) (f := 504) (by assumption) ?_ (by (exact pcls_of rfl)) (by k_is) (by k_is) (by k_is) _ (by with_unfolding_all rfl) (by with_unfolding_all rfl) (by with_unfolding_all rfl)))
  wtm_at "mine.wx"
  ((refine ⟨_, _, _, rfl, (by wtm_at "mine.hlk"), (by wtm_at "mine.hlk"), (by exact rfl), ?_⟩))
  wtm_at "mine.wx"
  refine I_row R hp rfl ?_
  wtm_at "mine.wx"
  refine Call_code (glyph_class_spec (by assumption) S' hgl ?_)
  wtm_at "mine.wx"
  exact q

theorem is_later_part_spec {c : Cx} {σ H d} {Q : AV → AHeap → Prop} (ok : c.OK (d + 3)) {A b sc fl} {xs : IRow} {k : Nat} {p : Addr × Addr × IR} (S : StaticOK H A b) (hS : SceneOK H A sc fl) (R : RowOK H A.rl xs) (hp : xs[k]? = some p)
    (q : Q (.bool false) H) : WCode c (.ref 365) [.ref sc, .int (k : Int)] σ H Q := by
  have S' := S
  obtain ⟨scd, a, b', lk, dp, st, lkd, kind, tb, h1, h2, h3, h4, h5⟩ := hS.ex
  have hbu := S.bu
  have hbud := S.bud
  obtain ⟨hi, u, hid⟩ := R.at_ _ _ hp
  ((refine' F_def (by assumption) ?ho_48 ?hcd_48 ?hb_48 ?h1_48 ?h2_48 ?h3_48 ?h4_48 ?_; (case ho_48 => k_is); (case hcd_48 => k_is); (case hb_48 => (first | exact bn0 ⟨_, fun s _ => BindsTo.of_eq rfl, locs rfl, KB.knows .nil⟩ | exact bn1 fun _ i1 => ⟨_, fun s _ => BindsTo.of_eq rfl, locs rfl, KB.knows (.cons i1 .nil)⟩ | exact bn2 fun _ i1 _ i2 => ⟨_, fun s _ => BindsTo.of_eq rfl, locs rfl, KB.knows (.cons i2 (.cons i1 .nil))⟩ | exact bn3 fun _ i1 _ i2 _ i3 => ⟨_, fun s _ => BindsTo.of_eq rfl, locs rfl, KB.knows (.cons i3 (.cons i2 (.cons i1 .nil)))⟩ | exact bn4 fun _ i1 _ i2 _ i3 _ i4 => ⟨_, fun s _ => BindsTo.of_eq rfl, locs rfl, KB.knows (.cons i4 (.cons i3 (.cons i2 (.cons i1 .nil))))⟩ | exact bn5 fun _ i1 _ i2 _ i3 _ i4 _ i5 => ⟨_, fun s _ => BindsTo.of_eq rfl, locs rfl, KB.knows (.cons i5 (.cons i4 (.cons i3 (.cons i2 (.cons i1 .nil)))))⟩ | exact bn6 fun _ i1 _ i2 _ i3 _ i4 _ i5 _ i6 => ⟨_, fun s _ => BindsTo.of_eq rfl, locs rfl, KB.knows (.cons i6 (.cons i5 (.cons i4 (.cons i3 (.cons i2 (.cons i1 .nil))))))⟩)); (case h1_48 => exact rfl); (case h2_48 => exact rfl); (case h3_48 => exact rfl); (case h4_48 => decide)))
  intro A' L' g ok'
  wtm_at "mine.wx"
  refine I_row R hp rfl ?_
  wtm_at "mine.wx"
  have last : ∀ (e : Bool), True := fun _ => trivial
  refine ⟨fun e => ?_, fun e => ?_⟩
  · wtm_at "mine.wx"
    refine ⟨fun _ => ?_, (fun e' => nomatch e')⟩
    wtm_at "mine.wx"
    exact q
  wtm_at "mine.wx"
  refine ⟨fun e2 => ?_, fun e2 => absurd e2 (by decide)⟩
  wtm_at "mine.wx"
  refine ⟨fun _ => ?_, (fun e' => nomatch e')⟩
  wtm_at "mine.wx"
  exact q

theorem seek_lt {skip : Nat → Bool} : ∀ {n : Nat}, seek skip n = -1 ∨ ∃ k : Nat, k < n ∧ seek skip n = (k : Int) ∧ skip k = false
  | 0 => .inl rfl
  | n + 1 => by
    unfold seek
    by_cases h : skip n = true
    · rw [if_pos h]
      rcases seek_lt (skip := skip) (n := n) with e | ⟨k, h1, h2, h3⟩
      · exact .inl e
      · exact .inr ⟨k, by omega, h2, h3⟩
    · rw [if_neg h]
      exact .inr ⟨n, by omega, rfl, by simpa using h⟩

theorem base_ahead_spec {c : Cx} {σ H d} {Q : AV → AHeap → Prop} (ok : c.OK (d + 7)) {A b sc fl} {xs : IRow} {n : Nat} (S : StaticOK H A b) (hS : SceneOK H A sc fl) (R : RowOK H A.rl xs) (hn : n ≤ xs.length)
    (q : ∀ H', Ext H H' → Q (.int (seek (fun k => ign 8 (rglyph xs k)) n)) H') : WCode c (.ref 372) [.ref sc, .int (n : Int)] σ H Q := by
  ((refine' F_def (by assumption) ?ho_50 ?hcd_50 ?hb_50 ?h1_50 ?h2_50 ?h3_50 ?h4_50 ?_; (case ho_50 => k_is); (case hcd_50 => k_is); (case hb_50 => (first | exact bn0 ⟨_, fun s _ => BindsTo.of_eq rfl, locs rfl, KB.knows .nil⟩ | exact bn1 fun _ i1 => ⟨_, fun s _ => BindsTo.of_eq rfl, locs rfl, KB.knows (.cons i1 .nil)⟩ | exact bn2 fun _ i1 _ i2 => ⟨_, fun s _ => BindsTo.of_eq rfl, locs rfl, KB.knows (.cons i2 (.cons i1 .nil))⟩ | exact bn3 fun _ i1 _ i2 _ i3 => ⟨_, fun s _ => BindsTo.of_eq rfl, locs rfl, KB.knows (.cons i3 (.cons i2 (.cons i1 .nil)))⟩ | exact bn4 fun _ i1 _ i2 _ i3 _ i4 => ⟨_, fun s _ => BindsTo.of_eq rfl, locs rfl, KB.knows (.cons i4 (.cons i3 (.cons i2 (.cons i1 .nil))))⟩ | exact bn5 fun _ i1 _ i2 _ i3 _ i4 _ i5 => ⟨_, fun s _ => BindsTo.of_eq rfl, locs rfl, KB.knows (.cons i5 (.cons i4 (.cons i3 (.cons i2 (.cons i1 .nil)))))⟩ | exact bn6 fun _ i1 _ i2 _ i3 _ i4 _ i5 _ i6 => ⟨_, fun s _ => BindsTo.of_eq rfl, locs rfl, KB.knows (.cons i6 (.cons i5 (.cons i4 (.cons i3 (.cons i2 (.cons i1 .nil))))))⟩)); (case h1_50 => exact rfl); (case h2_50 => exact rfl); (case h3_50 => exact rfl); (case h4_50 => decide)))
  intro A' L' g ok'
  wtm_at "mine.wx"
  ((refine E_call (fa := 351) (by assumption) ?_ (by k_is) (by with_unfolding_all rfl) (by with_unfolding_all rfl); wtm_at "mine.w_name"; refine ⟨rfl, ?_⟩))
  wtm_at "mine.wx"
  refine Call_code (scene_with_spec (by assumption) S hS fun H1 sc' x1 hS1 => ?_)
  have S1 := S.ext x1
  have R1 := R.ext x1
  wtm_at "mine.wx"
  ((refine E_call (fa := 252) (by assumption) ?_ (by k_is) (by with_unfolding_all rfl) (by with_unfolding_all rfl); wtm_at "mine.w_name"; refine ⟨rfl, ?_⟩))
  wtm_at "mine.wx"
  refine Call_code (before_at_spec (by assumption) S1 hS1 R1 hn (.inr rfl) fun H2 x2 => ?_)
  have x12 := x1.trans x2
  have S2 := S.ext x12
  have R2 := R.ext x12
  have hS2 := hS.ext x12
  wtm_at "mine.wx"
  refine S_while (fun m ρ H' => m = 0 ∧ H' = H2 ∧ ρ = [(Str.ofString "here", .int (seek (fun k => ign 8 (rglyph xs k)) n)), (Str.ofString "scene", .ref sc)]) 0 ⟨_, Sub.cons rfl (Sub.cons rfl Sub.nil), rfl, rfl, rfl⟩ ?_
  rintro m ρ H3 ⟨rfl, rfl, rfl⟩
  wtm_at "mine.wx"
  refine ⟨fun e => ?_, fun e => ?_⟩
  · refine ⟨(fun e' => nomatch e'), fun _ => ?_⟩
    wtm_at "mine.wx"
    exact q _ x12
  wtm_at "mine.wx"
  ((refine E_call (fa := 365) (by assumption) ?_ (by k_is) (by with_unfolding_all rfl) (by with_unfolding_all rfl); wtm_at "mine.w_name"; refine ⟨rfl, ?_⟩))
  wtm_at "mine.wx"
  rcases seek_lt (skip := fun k => ign 8 (rglyph xs k)) (n := n) with h | ⟨k, h1, h2, h3⟩
  · rw [h] at e; exact absurd e (by decide)
  · have hp : xs[k]? = some xs[k] := List.getElem?_eq_getElem (by omega)
    rw [h2]
    refine Call_code (is_later_part_spec (by assumption) S2 hS2 R2 hp ?_)
    wtm_at "mine.wx"
    refine ⟨fun _ => ?_, (fun e' => nomatch e')⟩
    refine ⟨(fun e' => nomatch e'), fun _ => ?_⟩
    wtm_at "mine.wx"
    rw [h2] at q
    exact q _ x12

def AO.notInfo : AO → Bool
  | .ns fs => !(fs.length == 16)
  | _ => true
def ExtI (H H' : AHeap) : Prop := ∀ a o, H a = some o → o.notInfo = true → H' a = some o
theorem ExtI.refl (H : AHeap) : ExtI H H := fun _ _ e _ => e
theorem Ext.toI {H H' : AHeap} (h : Ext H H') : ExtI H H' := fun a o e _ => h a o e
theorem ExtI.trans {H H' H'' : AHeap} (h : ExtI H H') (h' : ExtI H' H'') : ExtI H H'' := fun a o e n => h' a o (h a o e n) n
theorem StaticOK.extI {H H' A b} (S : StaticOK H A b) (h : ExtI H H') : StaticOK H' A b := ⟨h _ _ S.bu rfl, h _ _ S.bud rfl, h _ _ S.gd rfl, h _ _ S.gdd rfl, h _ _ S.cd rfl, h _ _ S.cdd rfl, let ⟨ep, e⟩ := S.cdl; ⟨ep, h _ _ e rfl⟩⟩
theorem SceneOK.extI {H H' A sc fl} (S : SceneOK H A sc fl) (h : ExtI H H') : SceneOK H' A sc fl := by
  obtain ⟨scd, a, b, lk, dp, st, lkd, kind, tb, h1, h2, h3, h4, h5⟩ := S.ex
  exact ⟨⟨scd, a, b, lk, dp, st, lkd, kind, tb, h _ _ h1 rfl, h _ _ h2 rfl, h _ _ h3 rfl, h _ _ h4 rfl, h5⟩⟩
theorem ExtI.info {H : AHeap} {dx r u r' u'} (h : H dx = some (.ns (infoF r u))) : ExtI H (H.set dx (.ns (infoF r' u'))) := fun a o e n => by
  by_cases ha : a = dx
  · subst ha; rw [h] at e; cases e; cases n
  · rw [AHeap.set_ne _ _ ha]; exact e
theorem nodup_get {α : Type} {a : α} : ∀ {l : List α} {i j : Nat}, l.Nodup → l[i]? = some a → l[j]? = some a → i = j
  | [], i, j, _, h1, _ => by simp at h1
  | x :: r, i, j, hn, h1, h2 => by
    rw [List.nodup_cons] at hn
    cases i with
    | zero =>
      cases j with
      | zero => rfl
      | succ j =>
        simp at h1 h2
        exact absurd (List.mem_of_getElem? h2) (by rw [← h1]; exact hn.1)
    | succ i =>
      cases j with
      | zero =>
        simp at h1 h2
        exact absurd (List.mem_of_getElem? h1) (by rw [← h2]; exact hn.1)
      | succ j => exact congrArg Nat.succ (nodup_get hn.2 (by simpa using h1) (by simpa using h2))
theorem RowOK.upd {H rl} {xs : IRow} (R : RowOK H rl xs) {k : Nat} {p : Addr × Addr × IR} (hk : xs[k]? = some p) {r' : IR} {u : Bool} (hg : IsGl r'.glyph) : RowOK (H.set p.2.1 (.ns (infoF r' u))) rl (xs.set k (p.1, p.2.1, r')) where
  rl := by
    obtain ⟨_, u', h⟩ := R.at_ _ _ hk
    have hne : rl ≠ p.2.1 := fun e => by have := R.rl; rw [e, h] at this; cases this
    rw [AHeap.set_ne _ _ hne, List.map_set, R.rl]
    congr 2
    apply List.ext_getElem?
    intro j
    by_cases hj : k = j
    · subst hj
      have := (List.getElem?_eq_some_iff.mp hk).1
      rw [List.getElem?_set_self (by simpa using this), List.getElem?_map, hk]; rfl
    · rw [List.getElem?_set_ne hj]
  at_ := fun j q hq => by
    obtain ⟨hp1, up, hp2⟩ := R.at_ _ _ hk
    by_cases hj : k = j
    · subst hj
      rw [List.getElem?_set_self (List.getElem?_eq_some_iff.mp hk).1] at hq
      cases hq
      have hne : p.1 ≠ p.2.1 := fun e => by rw [e, hp2] at hp1; cases hp1
      exact ⟨(AHeap.set_ne _ _ hne).trans hp1, u, AHeap.set_self _ _ _⟩
    · rw [List.getElem?_set_ne hj] at hq
      obtain ⟨h1, u1, h2⟩ := R.at_ _ _ hq
      have hne : q.1 ≠ p.2.1 := fun e => by rw [e, hp2] at h1; cases h1
      have hne2 : q.2.1 ≠ p.2.1 := fun e => by
        have hnd := R.nd
        have a1 : (xs.map (·.2.1))[j]? = some q.2.1 := by rw [List.getElem?_map, hq]; rfl
        have a2 : (xs.map (·.2.1))[k]? = some p.2.1 := by rw [List.getElem?_map, hk]; rfl
        rw [e] at a1
        exact hj (nodup_get hnd a2 a1)
      exact ⟨(AHeap.set_ne _ _ hne).trans h1, u1, (AHeap.set_ne _ _ hne2).trans h2⟩
  gl := fun q hq => by
    rcases List.mem_or_eq_of_mem_set hq with h | h
    · exact R.gl q h
    · rw [h]; exact hg
  nd := by
    have : (xs.set k (p.1, p.2.1, r')).map (·.2.1) = xs.map (·.2.1) := by
      rw [List.map_set]
      apply List.ext_getElem?
      intro j
      by_cases hj : k = j
      · subst hj
        have := (List.getElem?_eq_some_iff.mp hk).1
        rw [List.getElem?_set_self (by simpa using this), List.getElem?_map, hk]; rfl
      · rw [List.getElem?_set_ne hj]
    rw [this]; exact R.nd
  len := by rw [List.length_set]; exact R.len
theorem RowOK.updU {H rl} {xs : IRow} (R : RowOK H rl xs) {k : Nat} {p : Addr × Addr × IR} (hk : xs[k]? = some p) {u : Bool} : RowOK (H.set p.2.1 (.ns (infoF p.2.2 u))) rl xs := by
  have := R.upd hk (r' := p.2.2) (u := u) (R.gl p (List.mem_of_getElem? hk))
  have e : xs.set k (p.1, p.2.1, p.2.2) = xs := by
    apply List.ext_getElem?
    intro j
    by_cases hj : k = j
    · subst hj
      rw [List.getElem?_set_self (List.getElem?_eq_some_iff.mp hk).1, hk]
    · rw [List.getElem?_set_ne hj]
  rwa [e] at this

theorem Ext.del {H H' : AHeap} (h : Ext H H') {I} (hI : H I = none) : Ext H (H'.del I) := fun a o e => by
  rw [AHeap.del_ne _ (ne_of e hI)]; exact h a o e
theorem Ext.setI {H H' : AHeap} (h : Ext H H') {I} (hI : H I = none) {o} : Ext H (H'.set I o) := fun a o' e => by
  rw [AHeap.set_ne _ _ (ne_of e hI)]; exact h a o' e
theorem ExtI.del {H H' : AHeap} (h : ExtI H H') {I} (hI : H I = none) : ExtI H (H'.del I) := fun a o e n => by
  rw [AHeap.del_ne _ (ne_of e hI)]; exact h a o e n
theorem ExtI.setI {H H' : AHeap} (h : ExtI H H') {I} (hI : H I = none) {o} : ExtI H (H'.set I o) := fun a o' e n => by
  rw [AHeap.set_ne _ _ (ne_of e hI)]; exact h a o' e n

def Down (xs : IRow) (n : Nat) : Prop := ∀ (k : Nat) (p : Addr × Addr × IR), k < n → xs[k]? = some p → p.2.2.par = 0 ∨ (p.2.2.par < 0 ∧ 0 ≤ (k : Int) + p.2.2.par)

inductive RngIn (c : Cx) (σ : Loc) (target : Expr) (body rest : List Stmt) (Q : Fl → Loc → AHeap → Prop) (n : Int) (H1 : AHeap) (I : Addr) : Prop
  | mk (Inv : Nat → Loc → AHeap → Prop) (h0 : Kept (Inv 0) σ (H1.set I (.pred (rngIt n 0))))
      (turn : ∀ (i : Nat) σ1 H1, (i : Int) < n → Inv i σ1 H1 → H1 I = some (.pred (rngIt n i)) → WA c target (.int (i : Int)) σ1 (H1.set I (.pred (rngIt n (i + 1)))) fun σ2 H2 => WSb c body σ2 H2 fun fl σ3 H3 => match fl with
        | .next | .cont => Kept (Inv (i + 1)) σ3 H3 ∧ H3 I = some (.pred (rngIt n (i + 1)))
        | .brk => WS c rest σ3 H3 Q
        | .ret a => Q (.ret a) σ3 H3)
      (fin : ∀ σ1 H1, Inv n.toNat σ1 H1 → WS c rest σ1 (H1.del I) Q)
inductive RngOK (c : Cx) (σ : Loc) (target : Expr) (body rest : List Stmt) (Q : Fl → Loc → AHeap → Prop) (n : Int) (a : AV) (H1 : AHeap) : Prop
  | mk (r : Addr) (ha : a = .ref r) (hr : H1 r = some (.rng n)) (k : ∀ I, H1 I = none → RngIn c σ target body rest Q n H1 I)
theorem loop_rng {c : Cx} {σ H d} {Q : Fl → Loc → AHeap → Prop} {rest : List Stmt} {target iter body pos} (ok : c.OK d) (n : Int) (hn : 0 ≤ n) (hb : n < 2 ^ 60)
    (h : WE c c.env iter σ H (RngOK c σ target body rest Q n))
    (hs : ∀ x, foldedSetIterable iter c.env x = pure x := by intro _; with_unfolding_all rfl) (ht : ∀ it v, letOwnedTupleGo target it v = pure () := by intro _ _; with_unfolding_all rfl) : WS c (.For target iter body [] pos :: rest) σ H Q := by
  refine S_for (h.mono fun a H1 ⟨r, ha, hr, hI⟩ => ?_) hs ht
  subst ha
  refine It_rng ok hr hn hb fun I hIn => ?_
  obtain ⟨Inv, h0, h1, h2⟩ := hI I hIn
  refine ⟨Inv, h0, fun i a σ1 H1 hx hInv hI _ => ?_, fun σ1 H1 hInv _ => ?_⟩
  · unfold upto at hx
    rw [List.getElem?_map, Option.map_eq_some_iff] at hx
    obtain ⟨j, hj, rfl⟩ := hx
    obtain ⟨g1, g2⟩ := List.getElem?_eq_some_iff.mp hj
    simp at g1 g2
    subst g2
    have := h1 i σ1 H1 (by omega) hInv hI
    intro va ia s S
    refine wpAny_mono (this va ia s S) (fun _ s' ⟨σ2, H2, S2, r2, q⟩ => ⟨σ2, H2, S2, r2, ?_⟩) fun _ _ e => e
    refine fun Q' kQ => q Q' fun fl σ3 H3 q3 => kQ _ _ _ ?_
    cases fl with
    | next => exact ⟨q3.1, q3.2, trivial⟩
    | cont => exact ⟨q3.1, q3.2, trivial⟩
    | brk => exact q3
    | ret a => exact q3
  · have : (upto n).length = n.toNat := by simp [upto]
    rw [this] at hInv
    exact h2 σ1 H1 hInv

theorem break_ring_spec {c : Cx} {σ H d} {Q : AV → AHeap → Prop} (ok : c.OK (d + 2)) {rl} {xs : IRow} {n k : Nat} (R : RowOK H rl xs) (hD : Down xs n) (hk : k < n) (hn : n < xs.length)
    (q : ∀ H', Ext H H' → Q .none H') : WCode c (.ref 266) [.ref rl, .int (n : Int), .int (k : Int)] σ H Q := by
  ((refine' F_def (by assumption) ?ho_55 ?hcd_55 ?hb_55 ?h1_55 ?h2_55 ?h3_55 ?h4_55 ?_; (case ho_55 => k_is); (case hcd_55 => k_is); (case hb_55 => (first | exact bn0 ⟨_, fun s _ => BindsTo.of_eq rfl, locs rfl, KB.knows .nil⟩ | exact bn1 fun _ i1 => ⟨_, fun s _ => BindsTo.of_eq rfl, locs rfl, KB.knows (.cons i1 .nil)⟩ | exact bn2 fun _ i1 _ i2 => ⟨_, fun s _ => BindsTo.of_eq rfl, locs rfl, KB.knows (.cons i2 (.cons i1 .nil))⟩ | exact bn3 fun _ i1 _ i2 _ i3 => ⟨_, fun s _ => BindsTo.of_eq rfl, locs rfl, KB.knows (.cons i3 (.cons i2 (.cons i1 .nil)))⟩ | exact bn4 fun _ i1 _ i2 _ i3 _ i4 => ⟨_, fun s _ => BindsTo.of_eq rfl, locs rfl, KB.knows (.cons i4 (.cons i3 (.cons i2 (.cons i1 .nil))))⟩ | exact bn5 fun _ i1 _ i2 _ i3 _ i4 _ i5 => ⟨_, fun s _ => BindsTo.of_eq rfl, locs rfl, KB.knows (.cons i5 (.cons i4 (.cons i3 (.cons i2 (.cons i1 .nil)))))⟩ | exact bn6 fun _ i1 _ i2 _ i3 _ i4 _ i5 _ i6 => ⟨_, fun s _ => BindsTo.of_eq rfl, locs rfl, KB.knows (.cons i6 (.cons i5 (.cons i4 (.cons i3 (.cons i2 (.cons i1 .nil))))))⟩)); (case h1_55 => exact rfl); (case h2_55 => exact rfl); (case h3_55 => exact rfl); (case h4_55 => decide)))
  intro A' L' g ok'
  wtm_at "mine.wx"
  refine loop_rng (by assumption) (xs.length : Int) (by omega) (by have := R.len; omega) ?_
  ((refine E_callT (T := "range") ?_ (by with_unfolding_all rfl) (by with_unfolding_all rfl); wtm_at "mine.w_name"; refine ⟨rfl, ?_⟩))
  wtm_at "mine.wx"
  ((refine E_callB (id := "len") ?_ (by with_unfolding_all rfl) (by with_unfolding_all rfl); wtm_at "mine.w_name"; refine ⟨rfl, ?_⟩))
  wtm_at "mine.wx"
  refine F_len R.rl (by simp; have := R.len; omega) ?_
  wtm_at "mine.wx"
  rw [show ((List.map (fun p : Addr × Addr × IR => AV.ref p.1) xs).length : Int) = (xs.length : Int) by simp]
  refine F_range fun r hr => ?_
  refine ⟨r, rfl, AHeap.set_self _ _ _, fun I hI => ⟨fun i ρ H' => ∃ v : Nat, v < n ∧ Ext H H' ∧ ρ = [(Str.ofString "here", .int (v : Int)), (Str.ofString "row", .ref rl), (Str.ofString "child", .int (n : Int))], ⟨_, Sub.cons rfl (Sub.cons rfl (Sub.cons rfl Sub.nil)), k, hk, ((Ext.refl _).set hr).set hI, rfl⟩, ?_, ?_⟩⟩
  · rintro i σ1 H1 hi ⟨v, hv, x1, rfl⟩ hIi
    have hIn : H I = none := by
      by_cases h : I = r
      · subst h; exact hr
      · rw [AHeap.set_ne _ _ h] at hI; exact hI
    have x2 := x1.setI hIn (o := .pred (rngIt (xs.length : Int) (i + 1)))
    have hself : (H1.set I (.pred (rngIt (xs.length : Int) (i + 1)))) I = some (.pred (rngIt (xs.length : Int) (i + 1))) := AHeap.set_self _ _ _
    generalize (H1.set I (.pred (rngIt (xs.length : Int) (i + 1)))) = H2 at x2 hself
    have R2 := R.ext x2
    have hp : xs[v]? = some xs[v] := List.getElem?_eq_getElem (by omega)
    obtain ⟨hi1, u, hid⟩ := R2.at_ _ _ hp
    have hd := hD v _ hv hp
    wtm_at "mine.wx"
    refine I_row R2 hp rfl ?_
    wtm_at "mine.wx"
    refine ⟨fun e => ?_, fun e => ?_⟩
    · wtm_at "mine.wx"
      exact q _ x2
    wtm_at "mine.wx"
    refine I_row R2 hp rfl ?_
    wtm_at "mine.wx"
    refine ⟨fun e2 => ?_, fun e2 => ?_⟩
    · exfalso; simp at e e2; omega
    wtm_at "mine.wx"
    refine I_row R2 hp rfl ?_
    wtm_at "mine.wx"
    have e' : xs[v].2.2.par ≠ 0 := by simpa using e
    obtain ⟨w, hw⟩ := Int.eq_ofNat_of_zero_le (show 0 ≤ (v : Int) + xs[v].2.2.par by omega)
    rw [hw]
    exact ⟨⟨_, Sub.cons rfl (Sub.cons rfl (Sub.cons rfl Sub.nil)), w, by omega, x2, rfl⟩, hself⟩
  · rintro σ1 H1 ⟨v, hv, x1, rfl⟩
    wtm_at "mine.wx"
    have hIn : H I = none := by
      by_cases h : I = r
      · subst h; exact hr
      · rw [AHeap.set_ne _ _ h] at hI; exact hI
    exact q _ (x1.del hIn)

theorem set_none {H : AHeap} {a b o} (h : (H.set a o) b = none) : H b = none ∧ b ≠ a := by
  by_cases e : b = a
  · subst e; rw [AHeap.set_self] at h; cases h
  · exact ⟨by rwa [AHeap.set_ne _ _ e] at h, e⟩
def ItG (H1 : AHeap) (xs : List AV) : Addr → List AV → (AHeap → Prop) → (Nat → Obj → Prop) → AHeap → Prop := fun I ys src _ H2 =>
  ys = xs ∧ Ext H1 H2 ∧ H1 I = none ∧ (∀ H H' : AHeap, src H → (∀ a o, H a = some o → a ≠ I → H' a = some o) → src H') ∧ src H2
theorem ItG_list {c : Cx} {σ H d l xs} (ok : c.OK d) (hl : H l = some (.list xs)) : WIt c (.ref l) σ H (ItG H xs) :=
  It_list ok hl fun I hI => ⟨rfl, (Ext.refl _).set hI, hI, fun _ _ h k => k _ _ h (ne_of hl hI), set_get hl hI⟩
theorem ItG_tup {c : Cx} {σ H d l xs} (ok : c.OK d) (hl : H l = some (.tup xs)) : WIt c (.ref l) σ H (ItG H xs) :=
  It_tup ok hl fun I hI => ⟨rfl, (Ext.refl _).set hI, hI, fun _ _ h k => k _ _ h (ne_of hl hI), set_get hl hI⟩
theorem ItG_dict {c : Cx} {σ H d l kvs ep} (ok : c.OK d) (hl : H l = some (.dict kvs ep)) : WIt c (.ref l) σ H (ItG H (kvs.map fun p => .int p.1)) :=
  It_dict ok hl fun I hI => ⟨rfl, (Ext.refl _).set hI, hI, fun _ _ h k => k _ _ h (ne_of hl hI), set_get hl hI⟩

def AO.solid : AO → Bool
  | .list _ => false
  | .pred _ => false
  | .locals _ => false
  | _ => true
def ExtS (H H' : AHeap) : Prop := ∀ a o, H a = some o → o.solid = true → H' a = some o
theorem Ext.toS {H H' : AHeap} (h : Ext H H') : ExtS H H' := fun a o e _ => h a o e
theorem ExtS.set {H : AHeap} {a o o'} (h : H a = some o) (hn : o.solid = false) : ExtS H (H.set a o') := fun b x e n => by
  by_cases hb : b = a
  · subst hb; rw [h] at e; cases e; rw [hn] at n; cases n
  · rw [AHeap.set_ne _ _ hb]; exact e
theorem ExtS.del {H : AHeap} {a o} (h : H a = some o) (hn : o.solid = false) : ExtS H (H.del a) := fun b x e n => by
  by_cases hb : b = a
  · subst hb; rw [h] at e; cases e; rw [hn] at n; cases n
  · rw [AHeap.del_ne _ hb]; exact e
theorem ExtS.trans {H H' H'' : AHeap} (h : ExtS H H') (h' : ExtS H' H'') : ExtS H H'' := fun a o e n => h' a o (h a o e n) n

theorem comp_all {c : Cx} {env : Env} {σ H d} {elt iter : Expr} {x : Str} {px : Pos} {scope : Scope} {pos : Pos} {cl : List (Str × Addr)} {Q : AV → AHeap → Prop} (ok : c.OK d) (xs : List AV) (P : Nat → AV → AHeap → Prop)
    (hmono : ∀ i y H H', ExtS H H' → P i y H → P i y H')
    (hclos : closureFor scope env = pure cl) (hcell : ∀ y ∈ scope.names, y.2 ≠ .cell) (hkind : scope.kind = .function) (hnames : ∀ y ∈ scope.names, y.2 = .local → scope.names.lookup y.1 = some .local)
    (hx : scope.names.lookup x = some .local)
    (h : WE c env iter σ H fun a H1 => xs.length ≤ 1000 ∧ WIt c a σ H1 (ItG H1 xs) ∧
      (∀ i a C H3, xs[i]? = some a → Ext H1 H3 → H3 C = some (.locals [(x, a)]) → WEb c (compEnvC scope cl C env) elt σ H3 fun y H5 => Ext H3 H5 ∧ P i y H5) ∧
      (∀ D ys H3, Ext H1 H3 → H1 D = none → H3 D = some (.list ys) → ys.length = xs.length → (∀ i y, ys[i]? = some y → P i y H3) → Q (.ref D) H3))
    (hs : ∀ x, foldedSetIterable iter env x = pure x := by intro _; with_unfolding_all rfl) :
    WE c env (.ListComp elt [⟨.Name x px, iter, [], 0⟩] scope pos) σ H Q := by
  refine E_comp ok hclos hcell hkind hnames hx (WV.mono h fun a H1 ⟨hlen, hIt, turn, fin⟩ => ?_) hs
  intro va ia s S
  refine wpAny_mono (hIt va ia s S) (fun v s' ⟨I, ys, src, it, H2, hv, X, S2, r2, hI, hsrc, hys, x12, hI1, mono, _⟩ => ⟨I, ys, src, it, H2, hv, X, S2, r2, hI, hsrc, ?_⟩) fun _ _ e => e
  subst hys
  refine ⟨hlen, fun D C hD hC hCD => ?_⟩
  have hD1 : H1 D = none := by
    cases e : H1 D with
    | none => rfl
    | some o => rw [x12 _ _ e] at hD; cases hD
  have hC1 : H1 C = none := by
    cases e : H1 C with
    | none => rfl
    | some o => rw [x12 _ _ e] at hC; cases hC
  have hID : I ≠ D := fun e => by rw [e, hD] at hI; cases hI
  have hIC : I ≠ C := fun e => by rw [e, hC] at hI; cases hI
  refine ⟨fun i zs H3 => Ext H1 H3 ∧ (∀ a o, H2 a = some o → a ≠ I → H3 a = some o) ∧ (∃ o, H3 I = some (.pred o)) ∧ zs.length = i ∧ (∃ ρ, H3 C = some (.locals ρ)) ∧ ∀ j y, zs[j]? = some y → P j y H3, ?_, ?_, ?_⟩
  · refine ⟨(x12.setI hD1).setI hC1, fun a o e hne => ?_, ⟨it 0, ?_⟩, rfl, ⟨_, AHeap.set_self _ _ _⟩, fun j y e => by simp at e⟩
    · rw [AHeap.set_ne _ _ (ne_of e hC), AHeap.set_ne _ _ (ne_of e hD)]; exact e
    · rw [AHeap.set_ne _ _ hIC, AHeap.set_ne _ _ hID]; exact hI
  · rintro i a zs H3 hx3 ⟨y1, y2, _, y3, ⟨ρ, y4⟩, y5⟩ hzs hI3 hsrc3 hD3
    refine WTb_in fun Q' kQ => Ts_nil (kQ _ _ ⟨(fun e => nomatch e), fun _ => ?_⟩)
    refine WEb_in fun Q' kQ => ?_
    have z1 : Ext H1 ((H3.set I (.pred (it (i + 1)))).set C (.locals [(x, a)])) := (y1.setI hI1).setI hC1
    refine WV.mono (turn i a C _ hx3 z1 (AHeap.set_self _ _ _)).out fun y H5 ⟨w1, w2⟩ => kQ _ _ ?_
    have hD5 : H5 D = some (.list zs) := w1 _ _ (by rw [AHeap.set_ne _ _ (Ne.symm hCD), AHeap.set_ne _ _ (Ne.symm hID)]; exact hD3)
    have hI5 : H5 I = some (.pred (it (i + 1))) := w1 _ _ (by rw [AHeap.set_ne _ _ hIC]; exact AHeap.set_self _ _ _)
    have hC5 : H5 C = some (.locals [(x, a)]) := w1 _ _ (AHeap.set_self _ _ _)
    have k2 : ∀ b o, H2 b = some o → b ≠ I → (H5.set D (.list (zs ++ [y]))) b = some o := fun b o e hb => by
      rw [AHeap.set_ne _ _ (ne_of e hD)]
      exact w1 _ _ (by rw [AHeap.set_ne _ _ (ne_of e hC), AHeap.set_ne _ _ hb]; exact y2 b o e hb)
    have s35 : ExtS H3 H5 := ((ExtS.set hI3 rfl).trans (ExtS.set (o := .locals ρ) (by rw [AHeap.set_ne _ _ (Ne.symm hIC)]; exact y4) rfl)).trans w1.toS
    have s5D : ExtS H5 (H5.set D (.list (zs ++ [y]))) := ExtS.set hD5 rfl
    refine ⟨hD5, ⟨(z1.trans w1).setI hD1, k2, ⟨_, by rw [AHeap.set_ne _ _ hID]; exact hI5⟩, by simp [y3], ⟨_, by rw [AHeap.set_ne _ _ hCD]; exact hC5⟩, fun j u e => ?_⟩, hI5, mono _ _ hsrc k2, ⟨_, hC5⟩⟩
    by_cases hj : j < zs.length
    · rw [List.getElem?_append_left hj] at e
      exact hmono _ _ _ _ (s35.trans s5D) (y5 j u e)
    · have hj' : j = i := by
        have := (List.getElem?_eq_some_iff.mp e).1
        simp at this; omega
      subst hj'
      rw [← y3, List.getElem?_concat_length] at e
      cases e
      exact hmono _ _ _ _ s5D w2
  · rintro zs H3 ⟨y1, y2, ⟨o, y0⟩, y3, ⟨ρ, y4⟩, y5⟩ hD3 hsrc3
    have e1 : (H3.del I) C = some (.locals ρ) := by rw [AHeap.del_ne _ (Ne.symm hIC)]; exact y4
    refine fin D zs _ ((y1.del hI1).del hC1) hD1 (by rw [AHeap.del_ne _ (Ne.symm hCD), AHeap.del_ne _ (Ne.symm hID)]; exact hD3) y3 fun j y e => hmono _ _ _ _ ((ExtS.del y0 rfl).trans (ExtS.del e1 rfl)) (y5 j y e)

theorem nums_of {ys : List AV} : ∀ (n : Nat), ys.length = n → (∀ (i : Nat) (y : AV), ys[i]? = some y → ∃ k, y = .int k) → ∃ ks, Nums ys ks ∧ ks.length = n := by
  induction ys with
  | nil => intro n h _; exact ⟨[], .nil, by simpa using h⟩
  | cons y r ih =>
    intro n h hy
    obtain ⟨k, rfl⟩ := hy 0 y rfl
    obtain ⟨ks, h1, h2⟩ := ih r.length rfl fun i z e => hy (i + 1) z (by simpa using e)
    exact ⟨k :: ks, .cons h1, by simp [h2]; simpa using h⟩

inductive LstIn (c : Cx) (σ : Loc) (target : Expr) (body rest : List Stmt) (Q : Fl → Loc → AHeap → Prop) (l : Addr) (xs : List AV) (H1 : AHeap) (I : Addr) : Prop
  | mk (Inv : Nat → Loc → AHeap → Prop) (h0 : Kept (Inv 0) σ (H1.set I (.pred (listIt l 0))))
      (turn : ∀ (i : Nat) a σ1 H1, xs[i]? = some a → Inv i σ1 H1 → H1 I = some (.pred (listIt l i)) → H1 l = some (.list xs) → WA c target a σ1 (H1.set I (.pred (listIt l (i + 1)))) fun σ2 H2 => WSb c body σ2 H2 fun fl σ3 H3 => match fl with
        | .next | .cont => Kept (Inv (i + 1)) σ3 H3 ∧ H3 I = some (.pred (listIt l (i + 1))) ∧ H3 l = some (.list xs)
        | .brk => WS c rest σ3 H3 Q
        | .ret a => Q (.ret a) σ3 H3)
      (fin : ∀ σ1 H1, Inv xs.length σ1 H1 → H1 l = some (.list xs) → WS c rest σ1 (H1.del I) Q)
inductive LstOK (c : Cx) (σ : Loc) (target : Expr) (body rest : List Stmt) (Q : Fl → Loc → AHeap → Prop) (a : AV) (H1 : AHeap) : Prop
  | mk (l : Addr) (xs : List AV) (ha : a = .ref l) (hl : H1 l = some (.list xs)) (k : ∀ I, H1 I = none → l ≠ I → LstIn c σ target body rest Q l xs H1 I)
theorem loop_list {c : Cx} {σ H d} {Q : Fl → Loc → AHeap → Prop} {rest : List Stmt} {target iter body pos} (ok : c.OK d)
    (h : WE c c.env iter σ H (LstOK c σ target body rest Q))
    (hs : ∀ x, foldedSetIterable iter c.env x = pure x := by intro _; with_unfolding_all rfl) (ht : ∀ it v, letOwnedTupleGo target it v = pure () := by intro _ _; with_unfolding_all rfl) : WS c (.For target iter body [] pos :: rest) σ H Q := by
  refine S_for (h.mono fun a H1 ⟨l, xs, ha, hl, hI⟩ => ?_) hs ht
  subst ha
  refine It_list ok hl fun I hIn => ?_
  obtain ⟨Inv, h0, h1, h2⟩ := hI I hIn (ne_of hl hIn)
  exact ⟨Inv, h0, h1, h2⟩

theorem infoF_unsafe (r : IR) (u b : Bool) : setF (Str.ofString "is_unsafe") (.bool b) (infoF r u) = infoF r b := rfl

theorem RowOK.predSet {H rl} {xs : IRow} (R : RowOK H rl xs) {I P o} (hI : H I = some (.pred P)) : RowOK (H.set I o) rl xs := by
  refine ⟨?_, fun j p hj => ?_, R.gl, R.nd, R.len⟩
  · rw [AHeap.set_ne _ _ (fun e => by have := R.rl; rw [e, hI] at this; cases this)]; exact R.rl
  · obtain ⟨h1, u1, h2⟩ := R.at_ _ _ hj
    refine ⟨?_, u1, ?_⟩
    · rw [AHeap.set_ne _ _ (fun e => by rw [e, hI] at h1; cases h1)]; exact h1
    · rw [AHeap.set_ne _ _ (fun e => by rw [e, hI] at h2; cases h2)]; exact h2
theorem RowOK.predDel {H rl} {xs : IRow} (R : RowOK H rl xs) {I P} (hI : H I = some (.pred P)) : RowOK (H.del I) rl xs := by
  refine ⟨?_, fun j p hj => ?_, R.gl, R.nd, R.len⟩
  · rw [AHeap.del_ne _ (fun e => by have := R.rl; rw [e, hI] at this; cases this)]; exact R.rl
  · obtain ⟨h1, u1, h2⟩ := R.at_ _ _ hj
    refine ⟨?_, u1, ?_⟩
    · rw [AHeap.del_ne _ (fun e => by rw [e, hI] at h1; cases h1)]; exact h1
    · rw [AHeap.del_ne _ (fun e => by rw [e, hI] at h2; cases h2)]; exact h2
theorem none_back {H H' : AHeap} (x : Ext H H') {I} (hI : H' I = none) : H I = none := by
  cases e : H I with
  | none => rfl
  | some o => rw [x _ _ e] at hI; cases hI
theorem hang_spec {c : Cx} {σ H d} {Q : AV → AHeap → Prop} (ok : c.OK (d + 2)) {A b} {xs : IRow} {k n : Nat} (S : StaticOK H A b) (R : RowOK H A.rl xs) (hk : k ≤ n) (hn : n < xs.length)
    (q : ∀ H', ExtI H H' → RowOK H' A.rl xs → Q .none H') : WCode c (.ref 237) [.ref A.bu, .int (k : Int), .int ((n : Int) + 1)] σ H Q := by
  have hbu := S.bu
  have hbud := S.bud
  ((refine' F_def (by assumption) ?ho_59 ?hcd_59 ?hb_59 ?h1_59 ?h2_59 ?h3_59 ?h4_59 ?_; (case ho_59 => k_is); (case hcd_59 => k_is); (case hb_59 => (first | exact bn0 ⟨_, fun s _ => BindsTo.of_eq rfl, locs rfl, KB.knows .nil⟩ | exact bn1 fun _ i1 => ⟨_, fun s _ => BindsTo.of_eq rfl, locs rfl, KB.knows (.cons i1 .nil)⟩ | exact bn2 fun _ i1 _ i2 => ⟨_, fun s _ => BindsTo.of_eq rfl, locs rfl, KB.knows (.cons i2 (.cons i1 .nil))⟩ | exact bn3 fun _ i1 _ i2 _ i3 => ⟨_, fun s _ => BindsTo.of_eq rfl, locs rfl, KB.knows (.cons i3 (.cons i2 (.cons i1 .nil)))⟩ | exact bn4 fun _ i1 _ i2 _ i3 _ i4 => ⟨_, fun s _ => BindsTo.of_eq rfl, locs rfl, KB.knows (.cons i4 (.cons i3 (.cons i2 (.cons i1 .nil))))⟩ | exact bn5 fun _ i1 _ i2 _ i3 _ i4 _ i5 => ⟨_, fun s _ => BindsTo.of_eq rfl, locs rfl, KB.knows (.cons i5 (.cons i4 (.cons i3 (.cons i2 (.cons i1 .nil)))))⟩ | exact bn6 fun _ i1 _ i2 _ i3 _ i4 _ i5 _ i6 => ⟨_, fun s _ => BindsTo.of_eq rfl, locs rfl, KB.knows (.cons i6 (.cons i5 (.cons i4 (.cons i3 (.cons i2 (.cons i1 .nil))))))⟩)); (case h1_59 => exact rfl); (case h2_59 => exact rfl); (case h3_59 => exact rfl); (case h4_59 => decide)))
  intro A' L' g ok'
  wtm_at "mine.wx"
  refine ⟨_, _, _, _, rfl, rfl, rfl, R.rl, by omega, by omega, by simp; have := R.len; omega, fun sl hsl => ?_⟩
  wtm_at "mine.wx"
  ((refine E_callB (id := "len") ?_ (by with_unfolding_all rfl) (by with_unfolding_all rfl); wtm_at "mine.w_name"; refine ⟨rfl, ?_⟩))
  wtm_at "mine.wx"
  refine F_len (AHeap.set_self _ _ _) (by simp; have := R.len; omega) ?_
  wtm_at "mine.wx"
  refine ⟨fun e => ?_, fun e => ?_⟩
  · wtm_at "mine.wx"
    exact q _ ((Ext.refl _).set hsl).toI (R.ext ((Ext.refl _).set hsl))
  wtm_at "mine.wx"
  ((refine E_callB (id := "min") ?_ (by with_unfolding_all rfl) (by with_unfolding_all rfl); wtm_at "mine.w_name"; refine ⟨rfl, ?_⟩))
  wtm_at "mine.wx"
  generalize hzs : List.take (((n : Int) + 1).toNat - (k : Int).toNat) (List.drop (k : Int).toNat (List.map (fun p : Addr × Addr × IR => AV.ref p.1) xs)) = zs at *
  have hz : ∀ (i : Nat) (a : AV), zs[i]? = some a → ∃ p, xs[k + i]? = some p ∧ a = .ref p.1 := by
    intro i a e
    rw [← hzs, List.getElem?_take] at e
    split at e
    · rw [List.getElem?_drop, List.getElem?_map, Option.map_eq_some_iff] at e
      obtain ⟨p, hp, rfl⟩ := e
      exact ⟨p, by simpa using hp, rfl⟩
    · cases e
  have hzl : zs.length ≤ 100 := by rw [← hzs]; simp; have := R.len; omega
  have x1 : Ext H (H.set sl (.list zs)) := (Ext.refl _).set hsl
  have hsl1 : (H.set sl (.list zs)) sl = some (.list zs) := AHeap.set_self _ _ _
  generalize H.set sl (.list zs) = H1 at x1 hsl1
  have R1 := R.ext x1
  refine comp_all (cl := []) (by assumption) zs (fun i y H' => ∃ k, y = .int k) (fun _ _ _ _ _ h => h) rfl (by decide) rfl (by decide) rfl ?_
  wtm_at "mine.wx"
  refine ⟨by omega, ItG_list (by assumption) hsl1, fun i a C H3 hx x3 hC => ?_, fun D ys H3 x3 hD hys hlen hP => ?_⟩
  · obtain ⟨p, hp, rfl⟩ := hz i a hx
    obtain ⟨hi, u, hid⟩ := (R1.ext x3).at_ _ _ hp
    (wtm_at "mine.wx")
    exact ⟨Ext.refl _, _, rfl⟩
  obtain ⟨ks, hks, hkl⟩ := nums_of _ hlen hP
  wtm_at "mine.wx"
  refine F_min (by assumption) hys hks (by rw [hkl]; simp at e; omega) fun M => ?_
  wtm_at "mine.wx"
  have x13 := x1.trans x3
  have R3 := R.ext x13
  refine loop_list (by assumption) ?_
  wtm_at "mine.wx"
  refine ⟨sl, zs, rfl, x3 _ _ hsl1, fun I hI hne => ⟨fun i ρ H' => RowOK H' A.rl xs ∧ ExtI H H' ∧ (∃ P, H' I = some (.pred P)) ∧ ρ = [(Str.ofString "least_cluster", .int M)], ⟨_, Sub.cons rfl Sub.nil, R3.ext ((Ext.refl _).set hI), (x13.set hI).toI, ⟨_, AHeap.set_self _ _ _⟩, rfl⟩, ?_, ?_⟩⟩
  · rintro i a σ1 H4 hx ⟨R4, x4, _, rfl⟩ hI4 hl4
    obtain ⟨p, hp, rfl⟩ := hz i a hx
    have hHI : H I = none := none_back x13 hI
    have hself : (H4.set I (.pred (listIt sl (i + 1)))) I = some (.pred (listIt sl (i + 1))) := AHeap.set_self _ _ _
    have hl5 : (H4.set I (.pred (listIt sl (i + 1)))) sl = some (.list zs) := by rw [AHeap.set_ne _ _ hne]; exact hl4
    have R5 := R4.predSet hI4 (o := .pred (listIt sl (i + 1)))
    have x5 := x4.setI hHI (o := .pred (listIt sl (i + 1)))
    generalize (H4.set I (.pred (listIt sl (i + 1)))) = H5 at R5 x5 hself hl5
    obtain ⟨hi, u, hid⟩ := R5.at_ _ _ hp
    have hI5 : (H5.set p.2.1 (.ns (infoF p.2.2 true))) I = some (.pred (listIt sl (i + 1))) := by
      rw [AHeap.set_ne _ _ (fun e => by rw [e, hid] at hself; cases hself)]; exact hself
    have hs5 : (H5.set p.2.1 (.ns (infoF p.2.2 true))) sl = some (.list zs) := by
      rw [AHeap.set_ne _ _ (fun e => by rw [e, hid] at hl5; cases hl5)]; exact hl5
    wtm_at "mine.wx"
    refine ⟨fun e2 => ?_, fun e2 => ?_⟩
    · wtm_at "mine.wx"
      exact ⟨⟨_, Sub.cons rfl Sub.nil, R5.updU hp, x5.trans (ExtI.info hid), ⟨_, hI5⟩, rfl⟩, hI5, hs5⟩
    · wtm_at "mine.wx"
      exact ⟨⟨_, Sub.cons rfl Sub.nil, R5, x5, ⟨_, hself⟩, rfl⟩, hself, hl5⟩
  · rintro σ1 H4 ⟨R4, x4, ⟨P, hP⟩, rfl⟩ hl4
    wtm_at "mine.wx"
    exact q _ (x4.del (none_back x13 hI)) (R4.predDel hP)

def anchAt (H : AHeap) (a : AV) (o : Option (Int × Int)) : Prop := match o with
  | none => a = .none
  | some (x, y) => ∃ l dl, a = .ref l ∧ H l = some (.inst 45 dl) ∧ H dl = some (.ns (anc x y))
theorem anchAt.extI {H H' a o} (h : anchAt H a o) (x : ExtI H H') : anchAt H' a o := by
  unfold anchAt at *
  split at h
  · exact h
  · obtain ⟨l, dl, h1, h2, h3⟩ := h; exact ⟨l, dl, h1, x _ _ h2 rfl, x _ _ h3 rfl⟩
structure MarksOK (H : AHeap) (ml : Addr) (own : Int → Int × Int) : Prop where
  ex : ∃ ep t6 t7 a6 a7, H ml = some (.dict [(6, .ref t6), (7, .ref t7)] ep) ∧ H t6 = some (.tup [.int 0, a6]) ∧ H t7 = some (.tup [.int 1, a7]) ∧ anchAt H a6 (some (own 6)) ∧ anchAt H a7 (some (own 7))
theorem MarksOK.extI {H H' ml own} (h : MarksOK H ml own) (x : ExtI H H') : MarksOK H' ml own := by
  obtain ⟨ep, t6, t7, a6, a7, h1, h2, h3, h4, h5⟩ := h.ex
  exact ⟨⟨ep, t6, t7, a6, a7, x _ _ h1 rfl, x _ _ h2 rfl, x _ _ h3 rfl, h4.extI x, h5.extI x⟩⟩

theorem AHeap.set_set (H : AHeap) (a : Addr) (o o' : AO) : (H.set a o).set a o' = H.set a o' := by
  funext b; simp only [AHeap.set]; split <;> rfl
def num (gl : Int) : Int := if gl = 6 then 0 else 1
theorem num_bounds (gl : Int) : 0 ≤ num gl ∧ num gl < 2 := by unfold num; split <;> decide
theorem num_pick (gl : Int) {α : Type} (a b : α) : [a, b][(num gl).toNat]? = some (if gl = 6 then a else b) := by unfold num; split <;> rfl
theorem MarksOK.get {H ml own} (h : MarksOK H ml own) {gl : Int} (hg : gl = 6 ∨ gl = 7) : ∃ kv ep t a, H ml = some (.dict kv ep) ∧ lookI kv gl = some (.ref t) ∧ H t = some (.tup [.int (num gl), a]) ∧ anchAt H a (some (own gl)) := by
  obtain ⟨ep, t6, t7, a6, a7, h1, h2, h3, h4, h5⟩ := h.ex
  rcases hg with rfl | rfl
  · exact ⟨_, ep, t6, a6, h1, rfl, h2, h4⟩
  · exact ⟨_, ep, t7, a7, h1, rfl, h3, h5⟩
def IR.put (r : IR) (xo yo par : Int) : IR := { r with xo := xo, yo := yo, par := par, bond := Str.ofString "mark" }

theorem set_on_spec {c : Cx} {σ H d} {Q : AV → AHeap → Prop} (ok : c.OK (d + 8)) {A b sc fl ml own tl b0 b1 o0 o1} {xs : IRow} {k n : Nat} {p : Addr × Addr × IR} (S : StaticOK H A b) (hS : SceneOK H A sc fl) (R : RowOK H A.rl xs) (hp : xs[n]? = some p) (hk : k < n) (hD : Down xs n)
    (hg : p.2.2.glyph = 6 ∨ p.2.2.glyph = 7) (M : MarksOK H ml own) (ht : H tl = some (.tup [b0, b1])) (hb0 : anchAt H b0 o0) (hb1 : anchAt H b1 o1)
    (q0 : (if p.2.2.glyph = 6 then o0 else o1) = none → ∀ H', Ext H H' → Q (.int (-1)) H')
    (q1 : ∀ ax ay, (if p.2.2.glyph = 6 then o0 else o1) = some (ax, ay) → ∀ H', ExtI H H' → RowOK H' A.rl (xs.set n (p.1, p.2.1, p.2.2.put (ax - (own p.2.2.glyph).1) (ay - (own p.2.2.glyph).2) ((k : Int) - (n : Int)))) → Q (.int ((n : Int) + 1)) H') :
    WCode c (.ref 379) [.ref sc, .ref ml, .ref tl, .int (n : Int), .int (k : Int)] σ H Q := by
  have S' := S
  have hn := (List.getElem?_eq_some_iff.mp hp).1
  obtain ⟨scd, a, b', lk, dp, st, lkd, kind, tb, h1, h2, h3, h4, h5⟩ := hS.ex
  have hbu := S.bu
  have hbud := S.bud
  obtain ⟨hi, u, hid⟩ := R.at_ _ _ hp
  obtain ⟨kv, ep, t, av, m1, m2, m3, m4⟩ := M.get hg
  obtain ⟨al, adl, rfl, a1, a2⟩ := m4
  obtain ⟨n0, n2⟩ := num_bounds p.2.2.glyph
  have hsel : anchAt H (if p.2.2.glyph = 6 then b0 else b1) (if p.2.2.glyph = 6 then o0 else o1) := by split <;> assumption
  ((refine' F_def (by assumption) ?ho_64 ?hcd_64 ?hb_64 ?h1_64 ?h2_64 ?h3_64 ?h4_64 ?_; (case ho_64 => k_is); (case hcd_64 => k_is); (case hb_64 => (first | exact bn0 ⟨_, fun s _ => BindsTo.of_eq rfl, locs rfl, KB.knows .nil⟩ | exact bn1 fun _ i1 => ⟨_, fun s _ => BindsTo.of_eq rfl, locs rfl, KB.knows (.cons i1 .nil)⟩ | exact bn2 fun _ i1 _ i2 => ⟨_, fun s _ => BindsTo.of_eq rfl, locs rfl, KB.knows (.cons i2 (.cons i1 .nil))⟩ | exact bn3 fun _ i1 _ i2 _ i3 => ⟨_, fun s _ => BindsTo.of_eq rfl, locs rfl, KB.knows (.cons i3 (.cons i2 (.cons i1 .nil)))⟩ | exact bn4 fun _ i1 _ i2 _ i3 _ i4 => ⟨_, fun s _ => BindsTo.of_eq rfl, locs rfl, KB.knows (.cons i4 (.cons i3 (.cons i2 (.cons i1 .nil))))⟩ | exact bn5 fun _ i1 _ i2 _ i3 _ i4 _ i5 => ⟨_, fun s _ => BindsTo.of_eq rfl, locs rfl, KB.knows (.cons i5 (.cons i4 (.cons i3 (.cons i2 (.cons i1 .nil)))))⟩ | exact bn6 fun _ i1 _ i2 _ i3 _ i4 _ i5 _ i6 => ⟨_, fun s _ => BindsTo.of_eq rfl, locs rfl, KB.knows (.cons i6 (.cons i5 (.cons i4 (.cons i3 (.cons i2 (.cons i1 .nil))))))⟩)); (case h1_64 => exact rfl); (case h2_64 => exact rfl); (case h3_64 => exact rfl); (case h4_64 => decide)))
  intro A' L' g ok'
  wtm_at "mine.wx"
  refine I_row R hp rfl ?_
  wtm_at "mine.wx"
  refine I_dict m1 m2 ?_
  wtm_at "mine.wx"
  refine A_tup (by assumption) m3 ?_ rfl rfl
  wtm_at "mine.wx"
  ((refine E_callB (id := "len") ?_ (by with_unfolding_all rfl) (by with_unfolding_all rfl); wtm_at "mine.w_name"; refine ⟨rfl, ?_⟩))
  wtm_at "mine.wx"
  refine F_lenT ht (by simp) ?_
  wtm_at "mine.wx"
  refine ⟨fun e => ?_, fun e => by simp at e; omega⟩
  wtm_at "mine.wx"
  refine I_tup ht n0 (by omega) (num_pick _ _ _) ?_
  wtm_at "mine.wx"
  refine ⟨fun e2 => ?_, fun e2 => ?_⟩
  · have : (if p.2.2.glyph = 6 then o0 else o1) = none := by
      cases h : (if p.2.2.glyph = 6 then o0 else o1) with
      | none => rfl
      | some o =>
        rw [h] at hsel
        obtain ⟨l, dl, e3, _⟩ := hsel
        rw [e3] at e2; cases e2
    wtm_at "mine.wx"
    exact q0 this _ (Ext.refl _)
  cases h : (if p.2.2.glyph = 6 then o0 else o1) with
  | none =>
    rw [h] at hsel
    have : (if p.2.2.glyph = 6 then b0 else b1) = .none := hsel
    rw [this] at e2; cases e2
  | some o =>
  obtain ⟨ax, ay⟩ := o
  rw [h] at hsel
  obtain ⟨l, dl, e3, c1, c2⟩ := hsel
  rw [e3]
  wtm_at "mine.wx"
  ((refine E_call (fa := 266) (by assumption) ?_ (by k_is) (by with_unfolding_all rfl) (by with_unfolding_all rfl); wtm_at "mine.w_name"; refine ⟨rfl, ?_⟩))
  wtm_at "mine.wx"
  refine Call_code (break_ring_spec (by assumption) R hD hk hn fun H1 x1 => ?_)
  have S1 := S.ext x1
  have R1 := R.ext x1
  have k1 := x1 _ _ h1
  have k2 := x1 _ _ h2
  have k3 := x1 _ _ hbu
  have k4 := x1 _ _ hbud
  have k5 := x1 _ _ c1
  have k6 := x1 _ _ c2
  have k7 := x1 _ _ a1
  have k8 := x1 _ _ a2
  obtain ⟨hi1, u1, hid1⟩ := R1.at_ _ _ hp
  have hne : p.1 ≠ p.2.1 := fun e => by rw [e, hid1] at hi1; cases hi1
  wtm_at "mine.wx"
  ((refine E_call (fa := 63) (by assumption) ?_ (by k_is) (by with_unfolding_all rfl) (by with_unfolding_all rfl); wtm_at "mine.w_name"; refine ⟨rfl, ?_⟩))
  wtm_at "mine.wx"
  refine Call_code (difference_spec (by assumption) k5 k6 k7 k8 fun tl2 htl2 => ?_)
  wtm_at "mine.wx"
  refine A_tup (by assumption) (AHeap.set_self _ _ _) ?_ rfl rfl
  wtm_at "mine.wx"
  have x2 : Ext H1 (H1.set tl2 (.tup [.int (ax - (own p.2.2.glyph).1), .int (ay - (own p.2.2.glyph).2)])) := (Ext.refl _).set htl2
  generalize H1.set tl2 (.tup [.int (ax - (own p.2.2.glyph).1), .int (ay - (own p.2.2.glyph).2)]) = H2 at x2 ⊢
  have R2 := R1.ext x2
  have hid2 := x2 _ _ hid1
  have R3 := R2.upd hp (r' := p.2.2.put (ax - (own p.2.2.glyph).1) (ay - (own p.2.2.glyph).2) ((k : Int) - (n : Int))) (u := u1) (R.gl p (List.mem_of_getElem? hp))
  have x3 : ExtI H2 (H2.set p.2.1 (.ns (infoF (p.2.2.put (ax - (own p.2.2.glyph).1) (ay - (own p.2.2.glyph).2) ((k : Int) - (n : Int))) u1))) := ExtI.info hid2
  have hHH : (((H2.set p.2.1 (.ns (setF (Str.ofString "x_offset") (.int (ax - (own p.2.2.glyph).1)) (infoF p.2.2 u1)))).set p.2.1 (.ns (setF (Str.ofString "y_offset") (.int (ay - (own p.2.2.glyph).2)) (setF (Str.ofString "x_offset") (.int (ax - (own p.2.2.glyph).1)) (infoF p.2.2 u1))))).set p.2.1 (.ns (setF (Str.ofString "parent") (.int ((k : Int) - (n : Int))) (setF (Str.ofString "y_offset") (.int (ay - (own p.2.2.glyph).2)) (setF (Str.ofString "x_offset") (.int (ax - (own p.2.2.glyph).1)) (infoF p.2.2 u1)))))).set p.2.1 (.ns (setF (Str.ofString "bond") (.str (Str.ofString "mark")) (setF (Str.ofString "parent") (.int ((k : Int) - (n : Int))) (setF (Str.ofString "y_offset") (.int (ay - (own p.2.2.glyph).2)) (setF (Str.ofString "x_offset") (.int (ax - (own p.2.2.glyph).1)) (infoF p.2.2 u1)))))) = H2.set p.2.1 (.ns (infoF (p.2.2.put (ax - (own p.2.2.glyph).1) (ay - (own p.2.2.glyph).2) ((k : Int) - (n : Int))) u1)) := by
    rw [AHeap.set_set, AHeap.set_set, AHeap.set_set]; rfl
  rw [hHH]
  have x13 := (x1.trans x2).toI.trans x3
  generalize H2.set p.2.1 (.ns (infoF (p.2.2.put (ax - (own p.2.2.glyph).1) (ay - (own p.2.2.glyph).2) ((k : Int) - (n : Int))) u1)) = H3 at R3 x13 ⊢
  have S3 := S.extI x13
  have g1 := x13 _ _ h1 rfl
  have g2 := x13 _ _ h2 rfl
  ((refine E_call (fa := 237) (by assumption) ?_ (by k_is) (by with_unfolding_all rfl) (by with_unfolding_all rfl); wtm_at "mine.w_name"; refine ⟨rfl, ?_⟩))
  wtm_at "mine.wx"
  refine Call_code (hang_spec (by assumption) S3 R3 (Nat.le_of_lt hk) (by rw [List.length_set]; exact hn) fun H4 x4 R4 => ?_)
  wtm_at "mine.wx"
  exact q1 ax ay h H4 (x13.trans x4) R4

abbrev Tab := Int → Option (Option (Int × Int) × Option (Int × Int))
structure TabOK (H : AHeap) (dl : Addr) (f : Tab) : Prop where
  ex : ∃ kv ep, H dl = some (.dict kv ep) ∧ ∀ gl, match f gl with
    | none => lookI kv gl = none
    | some (o0, o1) => ∃ t b0 b1, lookI kv gl = some (.ref t) ∧ H t = some (.tup [b0, b1]) ∧ anchAt H b0 o0 ∧ anchAt H b1 o1
theorem TabOK.extI {H H' dl f} (h : TabOK H dl f) (x : ExtI H H') : TabOK H' dl f := by
  obtain ⟨kv, ep, h1, h2⟩ := h.ex
  refine ⟨⟨kv, ep, x _ _ h1 rfl, fun gl => ?_⟩⟩
  have := h2 gl
  split at this
  · exact this
  · obtain ⟨t, b0, b1, k1, k2, k3, k4⟩ := this
    exact ⟨t, b0, b1, k1, x _ _ k2 rfl, k3.extI x, k4.extI x⟩
theorem MarksOK.keys {H ml own} (h : MarksOK H ml own) {gl : Int} (hg : IsGl gl) : ∃ kv ep, H ml = some (.dict kv ep) ∧ (lookI kv gl).isSome = decide (gl = 6 ∨ gl = 7) := by
  obtain ⟨ep, t6, t7, a6, a7, h1, _⟩ := h.ex
  exact ⟨_, ep, h1, by rcases hg with rfl | rfl | rfl | rfl <;> rfl⟩

def sel (gl : Int) (p : Option (Int × Int) × Option (Int × Int)) : Option (Int × Int) := if gl = 6 then p.1 else p.2
def setOn (own : Int → Int × Int) (xs : IRow) (n k : Nat) (o : Option (Int × Int)) : IRow :=
  match xs[n]?, o with
  | some p, some (ax, ay) => xs.set n (p.1, p.2.1, p.2.2.put (ax - (own p.2.2.glyph).1) (ay - (own p.2.2.glyph).2) ((k : Int) - (n : Int)))
  | _, _ => xs
def tabF (s : String) (ml bl : Addr) : List (Str × AV) := [(Str.ofString "marks", .ref ml), (Str.ofString s, .ref bl)]

theorem apply_base0 {c : Cx} {σ H d} {Q : AV → AHeap → Prop} (ok : c.OK (d + 9)) {A b sc fl ml own tb td bl} {xs : IRow} {n : Nat} {p : Addr × Addr × IR} (S : StaticOK H A b) (hS : SceneOK H A sc fl) (R : RowOK H A.rl xs) (hp : xs[n]? = some p)
    (hg : p.2.2.glyph = 1 ∨ p.2.2.glyph = 2) (M : MarksOK H ml own) (ht : H tb = some (.inst 312 td)) (htd : H td = some (.ns (tabF "bases" ml bl)))
    (q : Q (.int (-1)) H) : WCode c (.ref 386) [.ref sc, .ref tb, .int (n : Int)] σ H Q := by
  obtain ⟨scd, a, b', lk, dp, st, lkd, kind, tb', h1, h2, h3, h4, h5⟩ := hS.ex
  have hbu := S.bu
  have hbud := S.bud
  obtain ⟨hi, u, hid⟩ := R.at_ _ _ hp
  have hgl := R.gl p (List.mem_of_getElem? hp)
  obtain ⟨kv, ep, m1, m2⟩ := M.keys hgl
  ((refine' F_def (by assumption) ?ho_70 ?hcd_70 ?hb_70 ?h1_70 ?h2_70 ?h3_70 ?h4_70 ?_; (case ho_70 => k_is); (case hcd_70 => k_is); (case hb_70 => (first | exact bn0 ⟨_, fun s _ => BindsTo.of_eq rfl, locs rfl, KB.knows .nil⟩ | exact bn1 fun _ i1 => ⟨_, fun s _ => BindsTo.of_eq rfl, locs rfl, KB.knows (.cons i1 .nil)⟩ | exact bn2 fun _ i1 _ i2 => ⟨_, fun s _ => BindsTo.of_eq rfl, locs rfl, KB.knows (.cons i2 (.cons i1 .nil))⟩ | exact bn3 fun _ i1 _ i2 _ i3 => ⟨_, fun s _ => BindsTo.of_eq rfl, locs rfl, KB.knows (.cons i3 (.cons i2 (.cons i1 .nil)))⟩ | exact bn4 fun _ i1 _ i2 _ i3 _ i4 => ⟨_, fun s _ => BindsTo.of_eq rfl, locs rfl, KB.knows (.cons i4 (.cons i3 (.cons i2 (.cons i1 .nil))))⟩ | exact bn5 fun _ i1 _ i2 _ i3 _ i4 _ i5 => ⟨_, fun s _ => BindsTo.of_eq rfl, locs rfl, KB.knows (.cons i5 (.cons i4 (.cons i3 (.cons i2 (.cons i1 .nil)))))⟩ | exact bn6 fun _ i1 _ i2 _ i3 _ i4 _ i5 _ i6 => ⟨_, fun s _ => BindsTo.of_eq rfl, locs rfl, KB.knows (.cons i6 (.cons i5 (.cons i4 (.cons i3 (.cons i2 (.cons i1 .nil))))))⟩)); (case h1_70 => exact rfl); (case h2_70 => exact rfl); (case h3_70 => exact rfl); (case h4_70 => decide)))
  intro A' L' g ok'
  wtm_at "mine.wx"
  refine I_row R hp rfl ?_
  wtm_at "mine.wx"
  refine C_notin m1 ?_
  wtm_at "mine.wx"
  refine ⟨fun e => ?_, fun e => ?_⟩
  · wtm_at "mine.wx"
    exact q
  · rw [m2] at e
    rcases hg with h | h <;> rw [h] at e <;> exact absurd e (by decide)
theorem apply_base1 {c : Cx} {σ H d} {Q : AV → AHeap → Prop} (ok : c.OK (d + 9)) {A b sc fl ml own tb td bl f o} {xs : IRow} {n k : Nat} {p pk : Addr × Addr × IR} (S : StaticOK H A b) (hS : SceneOK H A sc fl) (R : RowOK H A.rl xs) (hp : xs[n]? = some p) (hD : Down xs n)
    (hg : p.2.2.glyph = 6 ∨ p.2.2.glyph = 7) (hk : seek (fun k => ign 8 (rglyph xs k)) n = (k : Int)) (hkn : k < n) (hpk : xs[k]? = some pk) (M : MarksOK H ml own) (ht : H tb = some (.inst 312 td)) (htd : H td = some (.ns (tabF "bases" ml bl)))
    (T : TabOK H bl f) (hf : f pk.2.2.glyph = some o)
    (q : ∀ v H', ExtI H H' → RowOK H' A.rl (setOn own xs n k (sel p.2.2.glyph o)) → Q (.int v) H') : WCode c (.ref 386) [.ref sc, .ref tb, .int (n : Int)] σ H Q := by
  obtain ⟨scd, a, b', lk, dp, st, lkd, kind, tb', h1, h2, h3, h4, h5⟩ := hS.ex
  have hbu := S.bu
  have hbud := S.bud
  have hn := (List.getElem?_eq_some_iff.mp hp).1
  obtain ⟨hi, u, hid⟩ := R.at_ _ _ hp
  have hgl := R.gl p (List.mem_of_getElem? hp)
  obtain ⟨kv, ep, m1, m2⟩ := M.keys hgl
  ((refine' F_def (by assumption) ?ho_72 ?hcd_72 ?hb_72 ?h1_72 ?h2_72 ?h3_72 ?h4_72 ?_; (case ho_72 => k_is); (case hcd_72 => k_is); (case hb_72 => (first | exact bn0 ⟨_, fun s _ => BindsTo.of_eq rfl, locs rfl, KB.knows .nil⟩ | exact bn1 fun _ i1 => ⟨_, fun s _ => BindsTo.of_eq rfl, locs rfl, KB.knows (.cons i1 .nil)⟩ | exact bn2 fun _ i1 _ i2 => ⟨_, fun s _ => BindsTo.of_eq rfl, locs rfl, KB.knows (.cons i2 (.cons i1 .nil))⟩ | exact bn3 fun _ i1 _ i2 _ i3 => ⟨_, fun s _ => BindsTo.of_eq rfl, locs rfl, KB.knows (.cons i3 (.cons i2 (.cons i1 .nil)))⟩ | exact bn4 fun _ i1 _ i2 _ i3 _ i4 => ⟨_, fun s _ => BindsTo.of_eq rfl, locs rfl, KB.knows (.cons i4 (.cons i3 (.cons i2 (.cons i1 .nil))))⟩ | exact bn5 fun _ i1 _ i2 _ i3 _ i4 _ i5 => ⟨_, fun s _ => BindsTo.of_eq rfl, locs rfl, KB.knows (.cons i5 (.cons i4 (.cons i3 (.cons i2 (.cons i1 .nil)))))⟩ | exact bn6 fun _ i1 _ i2 _ i3 _ i4 _ i5 _ i6 => ⟨_, fun s _ => BindsTo.of_eq rfl, locs rfl, KB.knows (.cons i6 (.cons i5 (.cons i4 (.cons i3 (.cons i2 (.cons i1 .nil))))))⟩)); (case h1_72 => exact rfl); (case h2_72 => exact rfl); (case h3_72 => exact rfl); (case h4_72 => decide)))
  intro A' L' g ok'
  wtm_at "mine.wx"
  refine I_row R hp rfl ?_
  wtm_at "mine.wx"
  refine C_notin m1 ?_
  wtm_at "mine.wx"
  refine ⟨fun e => ?_, fun e => ?_⟩
  · rw [m2] at e
    rcases hg with h | h <;> rw [h] at e <;> exact absurd e (by decide)
  wtm_at "mine.wx"
  ((refine E_call (fa := 372) (by assumption) ?_ (by k_is) (by with_unfolding_all rfl) (by with_unfolding_all rfl); wtm_at "mine.w_name"; refine ⟨rfl, ?_⟩))
  wtm_at "mine.wx"
  refine Call_code (base_ahead_spec (by assumption) S hS R (Nat.le_of_lt hn) fun H1 x1 => ?_)
  rw [hk]
  have S1 := S.ext x1
  have hS1 := hS.ext x1
  have R1 := R.ext x1
  have M1 := M.extI x1.toI
  have T1 := T.extI x1.toI
  have g1 := x1 _ _ h1
  have g2 := x1 _ _ h2
  have g3 := x1 _ _ hbu
  have g4 := x1 _ _ hbud
  have g5 := x1 _ _ ht
  have g6 := x1 _ _ htd
  obtain ⟨hik, uk, hidk⟩ := R1.at_ _ _ hpk
  obtain ⟨kvT, epT, t1, t2⟩ := T1.ex
  have t3 := t2 pk.2.2.glyph
  rw [hf] at t3
  obtain ⟨o0, o1⟩ := o
  obtain ⟨t, b0, b1, k1, k2, k3, k4⟩ := t3
  wtm_at "mine.wx"
  refine ⟨fun e => by simp at e; omega, fun _ => ?_⟩
  wtm_at "mine.wx"
  refine I_row R1 hpk rfl ?_
  wtm_at "mine.wx"
  refine C_notin t1 ?_
  rw [k1]
  wtm_at "mine.wx"
  refine ⟨(fun e => nomatch e), fun _ => ?_⟩
  wtm_at "mine.wx"
  refine ⟨(fun e => nomatch e), fun _ => ?_⟩
  wtm_at "mine.wx"
  ((refine E_call (fa := 379) (by assumption) ?_ (by k_is) (by with_unfolding_all rfl) (by with_unfolding_all rfl); wtm_at "mine.w_name"; refine ⟨rfl, ?_⟩))
  wtm_at "mine.wx"
  refine I_row R1 hpk rfl ?_
  wtm_at "mine.wx"
  refine I_dict t1 k1 ?_
  wtm_at "mine.wx"
  refine Call_code (set_on_spec (by assumption) S1 hS1 R1 hp hkn hD hg M1 k2 k3 k4 (fun e0 H2 x2 => ?_) fun ax ay e0 H2 x2 R2 => ?_)
  · refine q _ H2 (x1.trans x2).toI ?_
    have : setOn own xs n k (sel p.2.2.glyph (o0, o1)) = xs := by
      unfold setOn sel; rw [hp]; simp only [e0]
    rw [this]; exact R1.ext x2
  · refine q _ H2 (x1.toI.trans x2) ?_
    have : setOn own xs n k (sel p.2.2.glyph (o0, o1)) = xs.set n (p.1, p.2.1, p.2.2.put (ax - (own p.2.2.glyph).1) (ay - (own p.2.2.glyph).2) ((k : Int) - (n : Int))) := by
      unfold setOn sel; rw [hp]; simp only [e0]
    rw [this]; exact R2

theorem are_of_one_spec {c : Cx} {σ H d} {Q : AV → AHeap → Prop} (ok : c.OK (d + 1)) {rl} {xs : IRow} {n k : Nat} {p pk : Addr × Addr × IR} (R : RowOK H rl xs) (hp : xs[n]? = some p) (hpk : xs[k]? = some pk)
    (q : Q (.bool true) H) : WCode c (.ref 393) [.ref p.1, .ref pk.1] σ H Q := by
  obtain ⟨hi, u, hid⟩ := R.at_ _ _ hp
  obtain ⟨hik, uk, hidk⟩ := R.at_ _ _ hpk
  ((refine' F_def (by assumption) ?ho_76 ?hcd_76 ?hb_76 ?h1_76 ?h2_76 ?h3_76 ?h4_76 ?_; (case ho_76 => k_is); (case hcd_76 => k_is); (case hb_76 => (first | exact bn0 ⟨_, fun s _ => BindsTo.of_eq rfl, locs rfl, KB.knows .nil⟩ | exact bn1 fun _ i1 => ⟨_, fun s _ => BindsTo.of_eq rfl, locs rfl, KB.knows (.cons i1 .nil)⟩ | exact bn2 fun _ i1 _ i2 => ⟨_, fun s _ => BindsTo.of_eq rfl, locs rfl, KB.knows (.cons i2 (.cons i1 .nil))⟩ | exact bn3 fun _ i1 _ i2 _ i3 => ⟨_, fun s _ => BindsTo.of_eq rfl, locs rfl, KB.knows (.cons i3 (.cons i2 (.cons i1 .nil)))⟩ | exact bn4 fun _ i1 _ i2 _ i3 _ i4 => ⟨_, fun s _ => BindsTo.of_eq rfl, locs rfl, KB.knows (.cons i4 (.cons i3 (.cons i2 (.cons i1 .nil))))⟩ | exact bn5 fun _ i1 _ i2 _ i3 _ i4 _ i5 => ⟨_, fun s _ => BindsTo.of_eq rfl, locs rfl, KB.knows (.cons i5 (.cons i4 (.cons i3 (.cons i2 (.cons i1 .nil)))))⟩ | exact bn6 fun _ i1 _ i2 _ i3 _ i4 _ i5 _ i6 => ⟨_, fun s _ => BindsTo.of_eq rfl, locs rfl, KB.knows (.cons i6 (.cons i5 (.cons i4 (.cons i3 (.cons i2 (.cons i1 .nil))))))⟩)); (case h1_76 => exact rfl); (case h2_76 => exact rfl); (case h3_76 => exact rfl); (case h4_76 => decide)))
  intro A' L' g ok'
  wtm_at "mine.wx"
  refine ⟨fun _ => ?_, fun e => absurd e (by decide)⟩
  wtm_at "mine.wx"
  refine ⟨fun _ => ?_, fun e => absurd e (by decide)⟩
  exact q

theorem seek0 (g : Nat → Int) (n : Nat) : seek (fun k => ign 0 (g k)) n = (n : Int) - 1 := by
  cases n with
  | zero => rfl
  | succ n =>
    unfold seek
    rw [if_neg (by simp [ign])]; omega

def markStep (own : Int → Int × Int) (f : Tab) (xs : IRow) (n : Nat) : IRow :=
  if rglyph xs n = 6 ∨ rglyph xs n = 7 then
    if rglyph xs (n - 1) = 6 ∨ rglyph xs (n - 1) = 7 then
      match f (rglyph xs (n - 1)) with
      | some o => setOn own xs n (n - 1) (sel (rglyph xs n) o)
      | none => xs
    else xs
  else xs
theorem apply_mark_spec {c : Cx} {σ H d} {Q : AV → AHeap → Prop} (ok : c.OK (d + 9)) {A b sc ml own tb td ol f} {xs : IRow} {n : Nat} (S : StaticOK H A b) (hS : SceneOK H A sc 0) (R : RowOK H A.rl xs) (hn : n < xs.length) (hD : Down xs n)
    (h0 : 0 < n ∨ ¬ (rglyph xs n = 6 ∨ rglyph xs n = 7)) (M : MarksOK H ml own) (ht : H tb = some (.inst 340 td)) (htd : H td = some (.ns (tabF "others" ml ol))) (T : TabOK H ol f)
    (q : ∀ v H', ExtI H H' → RowOK H' A.rl (markStep own f xs n) → Q (.int v) H') : WCode c (.ref 400) [.ref sc, .ref tb, .int (n : Int)] σ H Q := by
  obtain ⟨scd, a, b', lk, dp, st, lkd, kind, tb', h1, h2, h3, h4, h5⟩ := hS.ex
  have hbu := S.bu
  have hbud := S.bud
  have hp : xs[n]? = some xs[n] := List.getElem?_eq_getElem hn
  generalize xs[n] = p at hp
  have hrg := rglyph_of hp
  obtain ⟨hi, u, hid⟩ := R.at_ _ _ hp
  have hgl := R.gl p (List.mem_of_getElem? hp)
  obtain ⟨kv, ep, m1, m2⟩ := M.keys hgl
  ((refine' F_def (by assumption) ?ho_78 ?hcd_78 ?hb_78 ?h1_78 ?h2_78 ?h3_78 ?h4_78 ?_; (case ho_78 => k_is); (case hcd_78 => k_is); (case hb_78 => (first | exact bn0 ⟨_, fun s _ => BindsTo.of_eq rfl, locs rfl, KB.knows .nil⟩ | exact bn1 fun _ i1 => ⟨_, fun s _ => BindsTo.of_eq rfl, locs rfl, KB.knows (.cons i1 .nil)⟩ | exact bn2 fun _ i1 _ i2 => ⟨_, fun s _ => BindsTo.of_eq rfl, locs rfl, KB.knows (.cons i2 (.cons i1 .nil))⟩ | exact bn3 fun _ i1 _ i2 _ i3 => ⟨_, fun s _ => BindsTo.of_eq rfl, locs rfl, KB.knows (.cons i3 (.cons i2 (.cons i1 .nil)))⟩ | exact bn4 fun _ i1 _ i2 _ i3 _ i4 => ⟨_, fun s _ => BindsTo.of_eq rfl, locs rfl, KB.knows (.cons i4 (.cons i3 (.cons i2 (.cons i1 .nil))))⟩ | exact bn5 fun _ i1 _ i2 _ i3 _ i4 _ i5 => ⟨_, fun s _ => BindsTo.of_eq rfl, locs rfl, KB.knows (.cons i5 (.cons i4 (.cons i3 (.cons i2 (.cons i1 .nil)))))⟩ | exact bn6 fun _ i1 _ i2 _ i3 _ i4 _ i5 _ i6 => ⟨_, fun s _ => BindsTo.of_eq rfl, locs rfl, KB.knows (.cons i6 (.cons i5 (.cons i4 (.cons i3 (.cons i2 (.cons i1 .nil))))))⟩)); (case h1_78 => exact rfl); (case h2_78 => exact rfl); (case h3_78 => exact rfl); (case h4_78 => decide)))
  intro A' L' g ok'
  wtm_at "mine.wx"
  refine I_row R hp rfl ?_
  wtm_at "mine.wx"
  refine C_notin m1 ?_
  wtm_at "mine.wx"
  refine ⟨fun e => ?_, fun e => ?_⟩
  · wtm_at "mine.wx"
    refine q _ H (ExtI.refl _) ?_
    have : markStep own f xs n = xs := by
      unfold markStep
      rw [if_neg]
      rw [hrg]
      intro h; rw [m2, decide_eq_true h] at e; cases e
    rw [this]; exact R
  have hg : p.2.2.glyph = 6 ∨ p.2.2.glyph = 7 := by rw [m2, Bool.not_eq_false'] at e; exact of_decide_eq_true e
  obtain ⟨k, rfl⟩ : ∃ k, n = k + 1 := ⟨n - 1, by rw [hrg] at h0; rcases h0 with h | h; omega; exact absurd hg h⟩
  have hpk : xs[k]? = some xs[k] := List.getElem?_eq_getElem (by omega)
  generalize xs[k] = pk at hpk
  have hrk := rglyph_of hpk
  have hgk := R.gl pk (List.mem_of_getElem? hpk)
  have hz : Builtin.bitAnd 0 (Builtin.bitNot (Builtin.bitOr (Builtin.bitOr 2 4) 8)) = 0 := by decide
  wtm_at "mine.wx"
  ((refine E_call (fa := 252) (by assumption) ?_ (by k_is) (by with_unfolding_all rfl) (by with_unfolding_all rfl); wtm_at "mine.w_name"; refine ⟨rfl, ?_⟩))
  wtm_at "mine.wx"
  ((refine E_call (fa := 351) (by assumption) ?_ (by k_is) (by with_unfolding_all rfl) (by with_unfolding_all rfl); wtm_at "mine.w_name"; refine ⟨rfl, ?_⟩))
  wtm_at "mine.wx"
  rw [hz]
  refine Call_code (scene_with_spec (fl' := 0) (by assumption) S hS fun H1 sc' x1 hS1 => ?_)
  have S1 := S.ext x1
  have R1 := R.ext x1
  wtm_at "mine.wx"
  refine Call_code (before_at_spec (by assumption) S1 hS1 R1 (Nat.le_of_lt hn) (.inl rfl) fun H2 x2 => ?_)
  rw [seek0, show ((k + 1 : Nat) : Int) - 1 = (k : Int) by omega]
  have x12 := x1.trans x2
  have S2 := S.ext x12
  have R2 := R.ext x12
  have hS2 := hS.ext x12
  have M2 := M.extI x12.toI
  have T2 := T.extI x12.toI
  have g1 := x12 _ _ h1
  have g2 := x12 _ _ h2
  have g3 := x12 _ _ hbu
  have g4 := x12 _ _ hbud
  have g5 := x12 _ _ ht
  have g6 := x12 _ _ htd
  have R2rl := R2.rl
  obtain ⟨hik, uk, hidk⟩ := R2.at_ _ _ hpk
  wtm_at "mine.wx"
  refine ⟨fun e => by simp at e; omega, fun _ => ?_⟩
  wtm_at "mine.wx"
  ((refine E_call (fa := 358) (by assumption) ?_ (by k_is) (by with_unfolding_all rfl) (by with_unfolding_all rfl); wtm_at "mine.w_name"; refine ⟨rfl, ?_⟩))
  wtm_at "mine.wx"
  refine Call_code (is_mark_at_spec (by assumption) S2 hS2 R2 hpk ?_)
  wtm_at "mine.wx"
  refine ⟨fun e2 => ?_, fun e2 => ?_⟩
  · wtm_at "mine.wx"
    refine ⟨fun _ => ?_, (fun e' => nomatch e')⟩
    wtm_at "mine.wx"
    refine q _ H2 x12.toI ?_
    have : markStep own f xs (k + 1) = xs := by
      unfold markStep
      rw [if_pos (by rw [hrg]; exact hg), Nat.add_sub_cancel, if_neg]
      rw [hrk]
      intro h; rcases h with h | h <;> rw [h] at e2 <;> exact absurd e2 (by decide)
    rw [this]; exact R2
  have hgk' : pk.2.2.glyph = 6 ∨ pk.2.2.glyph = 7 := by
    rcases hgk with h | h | h | h <;> first | (exact .inl h) | (exact .inr h) | (rw [h] at e2; exact absurd e2 (by decide))
  wtm_at "mine.wx"
  ((refine E_call (fa := 393) (by assumption) ?_ (by k_is) (by with_unfolding_all rfl) (by with_unfolding_all rfl); wtm_at "mine.w_name"; refine ⟨rfl, ?_⟩))
  wtm_at "mine.wx"
  refine I_row R2 hp rfl ?_
  wtm_at "mine.wx"
  refine I_row R2 hpk rfl ?_
  wtm_at "mine.wx"
  refine Call_code (are_of_one_spec (by assumption) R2 hp hpk ?_)
  wtm_at "mine.wx"
  refine ⟨(fun e' => nomatch e'), fun _ => ?_⟩
  wtm_at "mine.wx"
  refine ⟨(fun e' => nomatch e'), fun _ => ?_⟩
  wtm_at "mine.wx"
  refine I_row R2 hpk rfl ?_
  wtm_at "mine.wx"
  obtain ⟨kvT, epT, t1, t2⟩ := T2.ex
  have t3 := t2 pk.2.2.glyph
  refine C_notin t1 ?_
  cases hf : f pk.2.2.glyph with
  | none =>
    rw [hf] at t3
    rw [t3]
    wtm_at "mine.wx"
    refine ⟨fun _ => ?_, (fun e' => nomatch e')⟩
    wtm_at "mine.wx"
    refine q _ H2 x12.toI ?_
    have : markStep own f xs (k + 1) = xs := by
      unfold markStep
      rw [if_pos (by rw [hrg]; exact hg), Nat.add_sub_cancel, if_pos (by rw [hrk]; exact hgk'), hrk, hf]
    rw [this]; exact R2
  | some o =>
    rw [hf] at t3
    obtain ⟨o0, o1⟩ := o
    obtain ⟨t, b0, b1, k1, k2, k3, k4⟩ := t3
    have hst : markStep own f xs (k + 1) = setOn own xs (k + 1) k (sel p.2.2.glyph (o0, o1)) := by
      unfold markStep
      rw [if_pos (by rw [hrg]; exact hg), Nat.add_sub_cancel, if_pos (by rw [hrk]; exact hgk'), hrk, hf, hrg]
    rw [k1]
    wtm_at "mine.wx"
    refine ⟨(fun e' => nomatch e'), fun _ => ?_⟩
    wtm_at "mine.wx"
    ((refine E_call (fa := 379) (by assumption) ?_ (by k_is) (by with_unfolding_all rfl) (by with_unfolding_all rfl); wtm_at "mine.w_name"; refine ⟨rfl, ?_⟩))
    wtm_at "mine.wx"
    refine I_row R2 hpk rfl ?_
    wtm_at "mine.wx"
    refine I_dict t1 k1 ?_
    wtm_at "mine.wx"
    refine Call_code (set_on_spec (by assumption) S2 hS2 R2 hp (Nat.lt_succ_self k) hD hg M2 k2 k3 k4 (fun e0 H3 x3 => ?_) fun ax ay e0 H3 x3 R3 => ?_)
    · refine q _ H3 (x12.trans x3).toI ?_
      have : setOn own xs (k + 1) k (sel p.2.2.glyph (o0, o1)) = xs := by
        unfold setOn sel; rw [hp]; simp only [e0]
      rw [hst, this]; exact R2.ext x3
    · refine q _ H3 (x12.toI.trans x3) ?_
      have : setOn own xs (k + 1) k (sel p.2.2.glyph (o0, o1)) = xs.set (k + 1) (p.1, p.2.1, p.2.2.put (ax - (own p.2.2.glyph).1) (ay - (own p.2.2.glyph).2) ((k : Int) - ((k + 1 : Nat) : Int))) := by
        unfold setOn sel; rw [hp]; simp only [e0]
      rw [hst, this]; exact R3

theorem E_dict0 {c : Cx} {env : Env} {σ H d pos} {Q : AV → AHeap → Prop} (ok : c.OK d) (q : ∀ l ep, H l = none → Q (.ref l) (H.set l (.dict [] ep))) : WE c env (.Dict [] [] pos) σ H Q := fun s S => by
  obtain ⟨m, news, S⟩ := S
  obtain ⟨mg, mb, mean, T⟩ := ok.top
  obtain ⟨hlt, hz, hL, h0⟩ := iter_news S
  refine Dict_empty_made2 (prog := PP) (w := c.w) S.F S.N (modules_low T.nolimit) fun h' o F' N' _ _ _ hd _ _ => ?_
  obtain ⟨es, ep, e1, e2, e3, e4, e5⟩ := hd
  exact ⟨_, _, .ref _, ⟨m, _, S.alloc (tk := s.toks) (o := .dict [] ep) F' N' hlt ⟨[], es, e1, e2, e3, e4, e5, .nil⟩⟩, Rest.of _ _, q _ ep (S.fresh hlt)⟩

theorem chain_from_spec {c : Cx} {σ H d} {Q : AV → AHeap → Prop} (ok : c.OK (d + 1)) {rl} {xs : IRow} {n : Nat} {p : Addr × Addr × IR} (R : RowOK H rl xs) (hp : xs[n]? = some p)
    (h0 : ∀ (k : Nat) q, k < n → xs[k]? = some q → q.2.2.par = 0) (hpar : p.2.2.par = 0 ∨ (p.2.2.par < 0 ∧ 0 ≤ (n : Int) + p.2.2.par))
    (q : ∀ l H', Ext H H' → H l = none → H' l = some (.list (if p.2.2.par = 0 then [] else [.int (n : Int)])) → Q (.ref l) H') : WCode c (.ref 407) [.ref rl, .int (n : Int)] σ H Q := by
  have hn := (List.getElem?_eq_some_iff.mp hp).1
  ((refine' F_def (by assumption) ?ho_85 ?hcd_85 ?hb_85 ?h1_85 ?h2_85 ?h3_85 ?h4_85 ?_; (case ho_85 => k_is); (case hcd_85 => k_is); (case hb_85 => (first | exact bn0 ⟨_, fun s _ => BindsTo.of_eq rfl, locs rfl, KB.knows .nil⟩ | exact bn1 fun _ i1 => ⟨_, fun s _ => BindsTo.of_eq rfl, locs rfl, KB.knows (.cons i1 .nil)⟩ | exact bn2 fun _ i1 _ i2 => ⟨_, fun s _ => BindsTo.of_eq rfl, locs rfl, KB.knows (.cons i2 (.cons i1 .nil))⟩ | exact bn3 fun _ i1 _ i2 _ i3 => ⟨_, fun s _ => BindsTo.of_eq rfl, locs rfl, KB.knows (.cons i3 (.cons i2 (.cons i1 .nil)))⟩ | exact bn4 fun _ i1 _ i2 _ i3 _ i4 => ⟨_, fun s _ => BindsTo.of_eq rfl, locs rfl, KB.knows (.cons i4 (.cons i3 (.cons i2 (.cons i1 .nil))))⟩ | exact bn5 fun _ i1 _ i2 _ i3 _ i4 _ i5 => ⟨_, fun s _ => BindsTo.of_eq rfl, locs rfl, KB.knows (.cons i5 (.cons i4 (.cons i3 (.cons i2 (.cons i1 .nil)))))⟩ | exact bn6 fun _ i1 _ i2 _ i3 _ i4 _ i5 _ i6 => ⟨_, fun s _ => BindsTo.of_eq rfl, locs rfl, KB.knows (.cons i6 (.cons i5 (.cons i4 (.cons i3 (.cons i2 (.cons i1 .nil))))))⟩)); (case h1_85 => exact rfl); (case h2_85 => exact rfl); (case h3_85 => exact rfl); (case h4_85 => decide)))
  intro A' L' g ok'
  wtm_at "mine.wx"
  refine ⟨by simp, fun l hl => ?_⟩
  wtm_at "mine.wx"
  refine E_dict0 (by assumption) fun sd ep hsd => ?_
  wtm_at "mine.wx"
  have hl2 := set_none hsd
  have e1 : Ext H ((H.set l (.list [])).set sd (.dict [] ep)) := ((Ext.refl _).set hl).set hsd
  have e2 : ((H.set l (.list [])).set sd (.dict [] ep)) l = some (.list []) := by rw [AHeap.set_ne _ _ (Ne.symm hl2.2)]; exact AHeap.set_self _ _ _
  have e3 : ((H.set l (.list [])).set sd (.dict [] ep)) sd = some (.dict [] ep) := AHeap.set_self _ _ _
  generalize ((H.set l (.list [])).set sd (.dict [] ep)) = H1 at e1 e2 e3
  refine S_while (fun m ρ H' => ∃ h : Nat, Ext H H' ∧ ρ = [(Str.ofString "line", .ref l), (Str.ofString "seen", .ref sd), (Str.ofString "here", .int (h : Int)), (Str.ofString "row", .ref rl)] ∧
    ((m = 1 ∧ h = n ∧ H' l = some (.list []) ∧ H' sd = some (.dict [] ep)) ∨ (m = 0 ∧ h < n ∧ p.2.2.par ≠ 0 ∧ H' l = some (.list [.int (n : Int)])))) 1 ⟨_, Sub.cons rfl (Sub.cons rfl (Sub.cons rfl (Sub.cons rfl Sub.nil))), n, e1, rfl, .inl ⟨rfl, rfl, e2, e3⟩⟩ ?_
  rintro m ρ H2 ⟨h, x2, rfl, hcase⟩
  have R2 := R.ext x2
  have R2rl := R2.rl
  have hh : h ≤ n := by rcases hcase with ⟨_, rfl, _⟩ | ⟨_, h1, _⟩ <;> omega
  have hph : xs[h]? = some xs[h] := List.getElem?_eq_getElem (by omega)
  obtain ⟨hi, u, hid⟩ := R2.at_ _ _ hph
  wtm_at "mine.wx"
  refine I_row R2 hph rfl ?_
  wtm_at "mine.wx"
  refine ⟨fun e => ?_, fun e => ?_⟩
  · refine ⟨(fun e' => nomatch e'), fun _ => ?_⟩
    wtm_at "mine.wx"
    have ez : xs[h].2.2.par = 0 := by simpa using e
    rcases hcase with ⟨_, rfl, k1, _⟩ | ⟨_, h1, h2, k1⟩
    · rw [hp] at hph; rw [← Option.some.inj hph] at ez
      exact q l H2 x2 hl (by rw [if_pos ez]; exact k1)
    · exact q l H2 x2 hl (by rw [if_neg h2]; exact k1)
  have ez : xs[h].2.2.par ≠ 0 := by simpa using e
  rcases hcase with ⟨rfl, rfl, k1, k2⟩ | ⟨_, h1, _, _⟩
  · have hpe : xs[h] = p := by rw [hp] at hph; exact (Option.some.inj hph).symm
    rw [hpe] at ez hid hi hph
    rcases hpar with hpar | ⟨hneg, hge⟩
    · exact absurd hpar ez
    wtm_at "mine.wx"
    refine C_notin k2 ?_
    wtm_at "mine.wx"
    refine ⟨(fun e => nomatch e), fun _ => ?_⟩
    wtm_at "mine.wx"
    refine I_row R2 hph rfl ?_
    wtm_at "mine.wx"
    refine ⟨fun e3 => by simp at e3; omega, fun _ => ?_⟩
    wtm_at "mine.wx"
    ((refine E_callB (id := "len") ?_ (by with_unfolding_all rfl) (by with_unfolding_all rfl); wtm_at "mine.w_name"; refine ⟨rfl, ?_⟩))
    wtm_at "mine.wx"
    refine F_len R2rl (by simp; have := R2.len; omega) ?_
    wtm_at "mine.wx"
    refine ⟨fun e3 => by simp at e3; omega, fun _ => ?_⟩
    wtm_at "mine.wx"
    refine ⟨fun _ => ?_, (fun e => nomatch e)⟩
    wtm_at "mine.wx"
    refine StI_dict k2 rfl (by simp) fun ep2 => ?_
    have hlsd : l ≠ sd := fun e => by rw [e] at k1; rw [k1] at k2; cases k2
    have hHsd : H sd = none := (set_none hsd).1
    have x3 : Ext H (H2.set sd (.dict ([] ++ [((h : Int), .bool true)]) ep2)) := x2.setI hHsd
    have k1' : (H2.set sd (.dict ([] ++ [((h : Int), .bool true)]) ep2)) l = some (.list []) := by rw [AHeap.set_ne _ _ hlsd]; exact k1
    generalize (H2.set sd (.dict ([] ++ [((h : Int), .bool true)]) ep2)) = H3 at x3 k1'
    have R3 := R.ext x3
    obtain ⟨hi3, u3, hid3⟩ := R3.at_ _ _ hph
    wtm_at "mine.wx"
    refine' E_append ?ok ?_ _ ?hee ?he
    case hee => with_unfolding_all rfl
    case he => with_unfolding_all rfl
    case ok => assumption
    wtm_at "mine.wx"
    refine ⟨l, [], rfl, k1', ?_⟩
    wtm_at "mine.wx"
    refine ⟨[], k1', by simp, ?_⟩
    have x4 : Ext H (H3.set l (.list ([] ++ [.int (h : Int)]))) := x3.setI hl
    have k4 : (H3.set l (.list ([] ++ [.int (h : Int)]))) l = some (.list [.int (h : Int)]) := AHeap.set_self _ _ _
    generalize (H3.set l (.list ([] ++ [.int (h : Int)]))) = H4 at x4 k4
    have R4 := R.ext x4
    obtain ⟨hi4, u4, hid4⟩ := R4.at_ _ _ hph
    wtm_at "mine.wx"
    refine I_row R4 hph rfl ?_
    wtm_at "mine.wx"
    obtain ⟨w, hw⟩ := Int.eq_ofNat_of_zero_le hge
    rw [hw]
    exact ⟨0, _, by omega, Sub.cons rfl (Sub.cons rfl (Sub.cons rfl (Sub.cons rfl Sub.nil))), w, x4, rfl, .inr ⟨rfl, by omega, ez, k4⟩⟩
  · exact absurd (h0 h _ h1 hph) ez

def IR.sx (r : IR) (x : Int) : IR := ⟨r.glyph, r.cluster, r.xa, x, r.yo, r.par, r.bond⟩
def IR.sxy (r : IR) (x y : Int) : IR := ⟨r.glyph, r.cluster, r.xa, x, y, r.par, r.bond⟩
def IR.sp (r : IR) (q : Int) : IR := ⟨r.glyph, r.cluster, r.xa, r.xo, r.yo, q, r.bond⟩
theorem RowOK.ne {H rl} {xs : IRow} (R : RowOK H rl xs) {k j : Nat} {p q : Addr × Addr × IR} (hp : xs[k]? = some p) (hq : xs[j]? = some q) : p.1 ≠ q.2.1 := fun e => by
  obtain ⟨h1, _, _⟩ := R.at_ _ _ hp
  obtain ⟨_, u, h2⟩ := R.at_ _ _ hq
  rw [e, h2] at h1; cases h1

theorem add_place_spec {c : Cx} {σ H d} {Q : AV → AHeap → Prop} (ok : c.OK (d + 1)) {rl} {xs : IRow} {n k : Nat} {p q : Addr × Addr × IR} (R : RowOK H rl xs) (hp : xs[n]? = some p) (hq : xs[k]? = some q) (hnk : k ≠ n) (hb : p.2.2.bond = Str.ofString "mark")
    (qq : ∀ H', ExtI H H' → RowOK H' rl (xs.set n (p.1, p.2.1, (p.2.2.sxy (p.2.2.xo + q.2.2.xo) (p.2.2.yo + q.2.2.yo)))) → Q .none H') : WCode c (.ref 414) [.ref p.1, .ref q.1] σ H Q := by
  obtain ⟨hi, u, hid⟩ := R.at_ _ _ hp
  obtain ⟨hi2, u2, hid2⟩ := R.at_ _ _ hq
  have ne1 := R.ne hp hp
  have ne2 := R.ne hq hp
  have ne3 : q.2.1 ≠ p.2.1 := fun e => by
    refine hnk (nodup_get R.nd (a := p.2.1) ?_ ?_)
    · rw [List.getElem?_map, hq, ← e]; rfl
    · rw [List.getElem?_map, hp]; rfl
  ((refine' F_def (by assumption) ?ho_88 ?hcd_88 ?hb_88 ?h1_88 ?h2_88 ?h3_88 ?h4_88 ?_; (case ho_88 => k_is); (case hcd_88 => k_is); (case hb_88 => (first | exact bn0 ⟨_, fun s _ => BindsTo.of_eq rfl, locs rfl, KB.knows .nil⟩ | exact bn1 fun _ i1 => ⟨_, fun s _ => BindsTo.of_eq rfl, locs rfl, KB.knows (.cons i1 .nil)⟩ | exact bn2 fun _ i1 _ i2 => ⟨_, fun s _ => BindsTo.of_eq rfl, locs rfl, KB.knows (.cons i2 (.cons i1 .nil))⟩ | exact bn3 fun _ i1 _ i2 _ i3 => ⟨_, fun s _ => BindsTo.of_eq rfl, locs rfl, KB.knows (.cons i3 (.cons i2 (.cons i1 .nil)))⟩ | exact bn4 fun _ i1 _ i2 _ i3 _ i4 => ⟨_, fun s _ => BindsTo.of_eq rfl, locs rfl, KB.knows (.cons i4 (.cons i3 (.cons i2 (.cons i1 .nil))))⟩ | exact bn5 fun _ i1 _ i2 _ i3 _ i4 _ i5 => ⟨_, fun s _ => BindsTo.of_eq rfl, locs rfl, KB.knows (.cons i5 (.cons i4 (.cons i3 (.cons i2 (.cons i1 .nil)))))⟩ | exact bn6 fun _ i1 _ i2 _ i3 _ i4 _ i5 _ i6 => ⟨_, fun s _ => BindsTo.of_eq rfl, locs rfl, KB.knows (.cons i6 (.cons i5 (.cons i4 (.cons i3 (.cons i2 (.cons i1 .nil))))))⟩)); (case h1_88 => exact rfl); (case h2_88 => exact rfl); (case h3_88 => exact rfl); (case h4_88 => decide)))
  intro A' L' g ok'
  wtm_at "mine.wx"
  rw [hb]
  refine ⟨fun _ => ?_, fun e => absurd e (by decide)⟩
  wtm_at "mine.wx"
  have hHH : ((H.set p.2.1 (.ns (setF (Str.ofString "x_offset") (.int (p.2.2.xo + q.2.2.xo)) (infoF p.2.2 u)))).set p.2.1 (.ns (setF (Str.ofString "y_offset") (.int (p.2.2.yo + q.2.2.yo)) (setF (Str.ofString "x_offset") (.int (p.2.2.xo + q.2.2.xo)) (infoF p.2.2 u))))) = H.set p.2.1 (.ns (infoF (p.2.2.sxy (p.2.2.xo + q.2.2.xo) (p.2.2.yo + q.2.2.yo)) u)) := by
    rw [AHeap.set_set]; rfl
  have := qq _ (ExtI.info hid (r' := (p.2.2.sxy (p.2.2.xo + q.2.2.xo) (p.2.2.yo + q.2.2.yo))) (u' := u)) (R.upd hp (r' := (p.2.2.sxy (p.2.2.xo + q.2.2.xo) (p.2.2.yo + q.2.2.yo))) (u := u) (R.gl p (List.mem_of_getElem? hp)))
  rw [← hHH] at this
  exact this

def sumXa (xs : IRow) (i m : Nat) : Int := (((xs.drop i).take m).map fun p => p.2.2.xa).sum
theorem sumXa_succ (xs : IRow) (i m : Nat) {p : Addr × Addr × IR} (hp : xs[i + m]? = some p) : sumXa xs i (m + 1) = sumXa xs i m + p.2.2.xa := by
  unfold sumXa
  rw [List.take_add_one, List.getElem?_drop, hp]
  simp

theorem take_advances_spec {c : Cx} {σ H d} {Q : AV → AHeap → Prop} (ok : c.OK (d + 1)) {rl bl} {xs : IRow} {n i m : Nat} {p : Addr × Addr × IR} {s : Int} (R : RowOK H rl xs) (hp : xs[n]? = some p) (him : i + m ≤ xs.length) (hs : s = 1 ∨ s = -1)
    (hbl : H bl = some (.list (((xs.map fun p => AV.ref p.1).drop i).take m)))
    (qq : ∀ H', ExtI H H' → RowOK H' rl (xs.set n (p.1, p.2.1, (p.2.2.sx (p.2.2.xo - s * sumXa xs i m)))) → Q .none H') : WCode c (.ref 421) [.ref p.1, .ref bl, .int s] σ H Q := by
  have hn := (List.getElem?_eq_some_iff.mp hp).1
  ((refine' F_def (by assumption) ?ho_90 ?hcd_90 ?hb_90 ?h1_90 ?h2_90 ?h3_90 ?h4_90 ?_; (case ho_90 => k_is); (case hcd_90 => k_is); (case hb_90 => (first | exact bn0 ⟨_, fun s _ => BindsTo.of_eq rfl, locs rfl, KB.knows .nil⟩ | exact bn1 fun _ i1 => ⟨_, fun s _ => BindsTo.of_eq rfl, locs rfl, KB.knows (.cons i1 .nil)⟩ | exact bn2 fun _ i1 _ i2 => ⟨_, fun s _ => BindsTo.of_eq rfl, locs rfl, KB.knows (.cons i2 (.cons i1 .nil))⟩ | exact bn3 fun _ i1 _ i2 _ i3 => ⟨_, fun s _ => BindsTo.of_eq rfl, locs rfl, KB.knows (.cons i3 (.cons i2 (.cons i1 .nil)))⟩ | exact bn4 fun _ i1 _ i2 _ i3 _ i4 => ⟨_, fun s _ => BindsTo.of_eq rfl, locs rfl, KB.knows (.cons i4 (.cons i3 (.cons i2 (.cons i1 .nil))))⟩ | exact bn5 fun _ i1 _ i2 _ i3 _ i4 _ i5 => ⟨_, fun s _ => BindsTo.of_eq rfl, locs rfl, KB.knows (.cons i5 (.cons i4 (.cons i3 (.cons i2 (.cons i1 .nil)))))⟩ | exact bn6 fun _ i1 _ i2 _ i3 _ i4 _ i5 _ i6 => ⟨_, fun s _ => BindsTo.of_eq rfl, locs rfl, KB.knows (.cons i6 (.cons i5 (.cons i4 (.cons i3 (.cons i2 (.cons i1 .nil))))))⟩)); (case h1_90 => exact rfl); (case h2_90 => exact rfl); (case h3_90 => exact rfl); (case h4_90 => decide)))
  intro A' L' g ok'
  refine loop_list (by assumption) ?_
  wtm_at "mine.wx"
  refine ⟨bl, _, rfl, hbl, fun I hI hne => ⟨fun j ρ H' => RowOK H' rl (xs.set n (p.1, p.2.1, (p.2.2.sx (p.2.2.xo - s * sumXa xs i j)))) ∧ ExtI H H' ∧ (∃ P, H' I = some (.pred P)) ∧ ρ = [(Str.ofString "info", .ref p.1), (Str.ofString "sign", .int s)], ⟨_, Sub.cons rfl (Sub.cons rfl Sub.nil), ?_, ((Ext.refl _).set hI).toI, ⟨_, AHeap.set_self _ _ _⟩, rfl⟩, ?_, ?_⟩⟩
  · have e : xs.set n (p.1, p.2.1, (p.2.2.sx (p.2.2.xo - s * sumXa xs i 0))) = xs := by
      have : (p.2.2.sx (p.2.2.xo - s * sumXa xs i 0)) = p.2.2 := by simp [sumXa, IR.sx]
      rw [this]
      apply List.ext_getElem?
      intro j
      by_cases hj : n = j
      · subst hj; rw [List.getElem?_set_self hn, hp]
      · rw [List.getElem?_set_ne hj]
    rw [e]; exact R.ext ((Ext.refl _).set hI)
  · rintro j a σ1 H4 hx ⟨R4, x4, _, rfl⟩ hI4 hl4
    have hj : j < m := by
      have := (List.getElem?_eq_some_iff.mp hx).1
      simp at this; omega
    have hq : xs[i + j]? = some xs[i + j] := List.getElem?_eq_getElem (by omega)
    generalize xs[i + j] = q at hq
    have ha : a = .ref q.1 := by
      rw [List.getElem?_take, if_pos hj, List.getElem?_drop, List.getElem?_map, hq] at hx
      exact (Option.some.inj hx).symm
    subst ha
    have hHI : H I = none := hI
    have hself : (H4.set I (.pred (listIt bl (j + 1)))) I = some (.pred (listIt bl (j + 1))) := AHeap.set_self _ _ _
    have hl5 := (AHeap.set_ne H4 (.pred (listIt bl (j + 1))) hne).trans hl4
    have R5 := R4.predSet hI4 (o := .pred (listIt bl (j + 1)))
    have x5 := x4.setI hHI (o := .pred (listIt bl (j + 1)))
    generalize (H4.set I (.pred (listIt bl (j + 1)))) = H5 at R5 x5 hself hl5
    have hp5 : (xs.set n (p.1, p.2.1, (p.2.2.sx (p.2.2.xo - s * sumXa xs i j))))[n]? = some (p.1, p.2.1, (p.2.2.sx (p.2.2.xo - s * sumXa xs i j))) := List.getElem?_set_self hn
    obtain ⟨hi, u, hid⟩ := R5.at_ _ _ hp5
    have ne1 := R5.ne hp5 hp5
    dsimp only at hi hid ne1
    have hmul : ∀ z, IntMulOk s z := fun z => IntMulOk.of_left (by rcases hs with rfl | rfl <;> decide)
    have hval : p.2.2.xo - s * sumXa xs i j - s * q.2.2.xa = p.2.2.xo - s * sumXa xs i (j + 1) := by rw [sumXa_succ _ _ _ hq, Int.mul_add]; omega
    have fin : ∀ H6, H6 = (H5.set p.2.1 (.ns (setF (Str.ofString "x_offset") (.int (p.2.2.xo - s * sumXa xs i j - s * q.2.2.xa)) (infoF (p.2.2.sx (p.2.2.xo - s * sumXa xs i j)) u)))).set p.2.1 (.ns (setF (Str.ofString "y_offset") (.int (p.2.2.yo - s * 0)) (setF (Str.ofString "x_offset") (.int (p.2.2.xo - s * sumXa xs i j - s * q.2.2.xa)) (infoF (p.2.2.sx (p.2.2.xo - s * sumXa xs i j)) u)))) →
        (RowOK H6 rl (xs.set n (p.1, p.2.1, (p.2.2.sx (p.2.2.xo - s * sumXa xs i (j + 1))))) ∧ ExtI H H6) ∧ H6 I = some (.pred (listIt bl (j + 1))) ∧ H6 bl = some (.list (((xs.map fun p => AV.ref p.1).drop i).take m)) := by
      intro H6 e
      have e' : H6 = H5.set p.2.1 (.ns (infoF (p.2.2.sx (p.2.2.xo - s * sumXa xs i (j + 1))) u)) := by
        rw [e, AHeap.set_set, hval, show p.2.2.yo - s * 0 = p.2.2.yo by omega]; rfl
      have R6 := R5.upd hp5 (r' := (p.2.2.sx (p.2.2.xo - s * sumXa xs i (j + 1)))) (u := u) (R.gl p (List.mem_of_getElem? hp))
      rw [List.set_set] at R6
      have x6 := x5.trans (ExtI.info hid (r' := (p.2.2.sx (p.2.2.xo - s * sumXa xs i (j + 1)))) (u' := u))
      rw [e']
      exact ⟨⟨R6, x6⟩, by rw [AHeap.set_ne _ _ (fun e => by rw [e, hid] at hself; cases hself)]; exact hself, by rw [AHeap.set_ne _ _ (fun e => by rw [e, hid] at hl5; cases hl5)]; exact hl5⟩
    by_cases e : n = i + j
    · rw [← e, hp] at hq; cases hq
      wtm_at "mine.wx"
      refine O_mul (hmul _) ?_
      wtm_at "mine.wx"
      refine O_mul (hmul _) ?_
      wtm_at "mine.wx"
      obtain ⟨⟨f1, f2⟩, f3, f4⟩ := fin _ rfl
      exact ⟨⟨_, Sub.cons rfl (Sub.cons rfl Sub.nil), f1, f2, ⟨_, f3⟩, rfl⟩, f3, f4⟩
    · have hq5 : (xs.set n (p.1, p.2.1, (p.2.2.sx (p.2.2.xo - s * sumXa xs i j))))[i + j]? = some q := by rw [List.getElem?_set_ne e]; exact hq
      obtain ⟨hi2, u2, hid2⟩ := R5.at_ _ _ hq5
      have ne2 := R5.ne hq5 hp5
      have ne3 : q.2.1 ≠ p.2.1 := fun e' => by
        refine e (nodup_get R.nd (a := p.2.1) ?_ ?_)
        · rw [List.getElem?_map, hp]; rfl
        · rw [List.getElem?_map, hq, ← e']; rfl
      dsimp only at ne2
      wtm_at "mine.wx"
      refine O_mul (hmul _) ?_
      wtm_at "mine.wx"
      refine O_mul (hmul _) ?_
      wtm_at "mine.wx"
      obtain ⟨⟨f1, f2⟩, f3, f4⟩ := fin _ rfl
      exact ⟨⟨_, Sub.cons rfl (Sub.cons rfl Sub.nil), f1, f2, ⟨_, f3⟩, rfl⟩, f3, f4⟩
  · rintro σ1 H4 ⟨R4, x4, ⟨P, hP⟩, rfl⟩ hl4
    wtm_at "mine.wx"
    have : (((xs.map fun p => AV.ref p.1).drop i).take m).length = m := by simp; omega
    rw [this] at R4
    exact qq _ (x4.del hI) (R4.predDel hP)

def settOne (b : Bool) (xs : IRow) (n k : Nat) (p q : Addr × Addr × IR) : IRow :=
  xs.set n (p.1, p.2.1, ((p.2.2.sp 0).sxy (p.2.2.xo + q.2.2.xo) (p.2.2.yo + q.2.2.yo)).sx (p.2.2.xo + q.2.2.xo + (if b then sumXa xs (k + 1) (n - k) else - sumXa xs k (n - k))))
theorem sumXa_set (xs : IRow) (i m n : Nat) {p : Addr × Addr × IR} {r : IR} (hp : xs[n]? = some p) (hr : r.xa = p.2.2.xa) : sumXa (xs.set n (p.1, p.2.1, r)) i m = sumXa xs i m := by
  unfold sumXa
  have e : (xs.set n (p.1, p.2.1, r)).map (fun p => p.2.2.xa) = xs.map (fun p => p.2.2.xa) := by
    rw [List.map_set]
    apply List.ext_getElem?
    intro j
    by_cases hj : n = j
    · subst hj
      have := (List.getElem?_eq_some_iff.mp hp).1
      rw [List.getElem?_set_self (by simpa using this), List.getElem?_map, hp, Option.map_some, hr]
    · rw [List.getElem?_set_ne hj]
  rw [List.map_take, List.map_drop, List.map_take, List.map_drop, e]

theorem settle_one_spec {c : Cx} {σ H d} {Q : AV → AHeap → Prop} (ok : c.OK (d + 2)) {A b} {xs : IRow} {n k : Nat} {p q : Addr × Addr × IR} (S : StaticOK H A b) (R : RowOK H A.rl xs) (hp : xs[n]? = some p) (hq : xs[k]? = some q) (hkn : k < n) (hpar : (n : Int) + p.2.2.par = (k : Int)) (hb : p.2.2.bond = Str.ofString "mark")
    (qq : ∀ v H', ExtI H H' → RowOK H' A.rl (settOne b xs n k p q) → Q v H') : WCode c (.ref 428) [.ref A.bu, .int (n : Int)] σ H Q := by
  have hn := (List.getElem?_eq_some_iff.mp hp).1
  have hbu := S.bu
  have hbud := S.bud
  obtain ⟨hi, u, hid⟩ := R.at_ _ _ hp
  have ne1 := R.ne hp hp
  have gl := R.gl p (List.mem_of_getElem? hp)
  ((refine' F_def (by assumption) ?ho_92 ?hcd_92 ?hb_92 ?h1_92 ?h2_92 ?h3_92 ?h4_92 ?_; (case ho_92 => k_is); (case hcd_92 => k_is); (case hb_92 => (first | exact bn0 ⟨_, fun s _ => BindsTo.of_eq rfl, locs rfl, KB.knows .nil⟩ | exact bn1 fun _ i1 => ⟨_, fun s _ => BindsTo.of_eq rfl, locs rfl, KB.knows (.cons i1 .nil)⟩ | exact bn2 fun _ i1 _ i2 => ⟨_, fun s _ => BindsTo.of_eq rfl, locs rfl, KB.knows (.cons i2 (.cons i1 .nil))⟩ | exact bn3 fun _ i1 _ i2 _ i3 => ⟨_, fun s _ => BindsTo.of_eq rfl, locs rfl, KB.knows (.cons i3 (.cons i2 (.cons i1 .nil)))⟩ | exact bn4 fun _ i1 _ i2 _ i3 _ i4 => ⟨_, fun s _ => BindsTo.of_eq rfl, locs rfl, KB.knows (.cons i4 (.cons i3 (.cons i2 (.cons i1 .nil))))⟩ | exact bn5 fun _ i1 _ i2 _ i3 _ i4 _ i5 => ⟨_, fun s _ => BindsTo.of_eq rfl, locs rfl, KB.knows (.cons i5 (.cons i4 (.cons i3 (.cons i2 (.cons i1 .nil)))))⟩ | exact bn6 fun _ i1 _ i2 _ i3 _ i4 _ i5 _ i6 => ⟨_, fun s _ => BindsTo.of_eq rfl, locs rfl, KB.knows (.cons i6 (.cons i5 (.cons i4 (.cons i3 (.cons i2 (.cons i1 .nil))))))⟩)); (case h1_92 => exact rfl); (case h2_92 => exact rfl); (case h3_92 => exact rfl); (case h4_92 => decide)))
  intro A' L' g ok'
  wtm_at "mine.wx"
  refine I_row R hp rfl ?_
  wtm_at "mine.wx"
  rename_i Q9 k9
  rw [hpar] at k9 ⊢
  have R1 := R.upd hp (r' := (p.2.2.sp 0)) (u := u) gl
  have x1 : ExtI H (H.set p.2.1 (.ns (infoF (p.2.2.sp 0) u))) := ExtI.info hid
  rw [show setF (Str.ofString "parent") (.int 0) (infoF p.2.2 u) = infoF (p.2.2.sp 0) u from rfl]
  generalize (H.set p.2.1 (.ns (infoF (p.2.2.sp 0) u))) = H1 at R1 x1 ⊢
  have hp1 : (xs.set n (p.1, p.2.1, (p.2.2.sp 0)))[n]? = some (p.1, p.2.1, (p.2.2.sp 0)) := List.getElem?_set_self hn
  have hq1 : (xs.set n (p.1, p.2.1, (p.2.2.sp 0)))[k]? = some q := by rw [List.getElem?_set_ne (by omega)]; exact hq
  ((refine E_call (fa := 414) (by assumption) ?_ (by k_is) (by with_unfolding_all rfl) (by with_unfolding_all rfl); wtm_at "mine.w_name"; refine ⟨rfl, ?_⟩))
  wtm_at "mine.wx"
  refine I_row R1 hq1 rfl ?_
  wtm_at "mine.wx"
  refine Call_code (add_place_spec (p := (p.1, p.2.1, p.2.2.sp 0)) (by assumption) R1 hp1 hq1 (Nat.ne_of_lt hkn) hb fun H2 x2 R2 => ?_)
  rw [List.set_set] at R2
  have x12 := x1.trans x2
  have g1 := x12 _ _ hbu rfl
  have g2 := x12 _ _ hbud rfl
  dsimp only at R2
  have hp2 : (xs.set n (p.1, p.2.1, ((p.2.2.sp 0).sxy (p.2.2.xo + q.2.2.xo) (p.2.2.yo + q.2.2.yo))))[n]? = some (p.1, p.2.1, ((p.2.2.sp 0).sxy (p.2.2.xo + q.2.2.xo) (p.2.2.yo + q.2.2.yo))) := List.getElem?_set_self hn
  obtain ⟨hi2, u2, hid2⟩ := R2.at_ _ _ hp2
  dsimp only at hi2 hid2
  have R2rl := R2.rl
  have hb2 : ((p.2.2.sp 0).sxy (p.2.2.xo + q.2.2.xo) (p.2.2.yo + q.2.2.yo)).bond = Str.ofString "mark" := hb
  wtm_at "mine.wx"
  rw [hb2]
  refine ⟨fun _ => ?_, fun e => absurd e (by decide)⟩
  wtm_at "mine.wx"
  have hlen := R2.len
  have z1 : ((k : Int) + 1).toNat = k + 1 := by omega
  have z2 : ((n : Int) + 1).toNat - (k + 1) = n - k := by omega
  have z3 : (k : Int).toNat = k := by omega
  have z4 : (n : Int).toNat - k = n - k := by omega
  refine ⟨fun e => ?_, fun e => ?_⟩
  · wtm_at "mine.wx"
    ((refine E_call (fa := 421) (by assumption) ?_ (by k_is) (by with_unfolding_all rfl) (by with_unfolding_all rfl); wtm_at "mine.w_name"; refine ⟨rfl, ?_⟩))
    wtm_at "mine.wx"
    refine ⟨_, _, _, _, rfl, rfl, rfl, R2rl, by omega, by omega, by simp at hlen ⊢; omega, fun bl hbl => ?_⟩
    rw [z1, z2]
    wtm_at "mine.wx"
    refine Call_code (take_advances_spec (p := (p.1, p.2.1, ((p.2.2.sp 0).sxy (p.2.2.xo + q.2.2.xo) (p.2.2.yo + q.2.2.yo)))) (i := k + 1) (m := n - k) (by assumption) (R2.ext ((Ext.refl _).set hbl)) hp2 (by simp; omega) (.inr rfl) (AHeap.set_self _ _ _) fun H3 x3 R3 => ?_)
    wtm_at "mine.wx"
    refine qq _ H3 ((x12.trans ((Ext.refl _).set hbl).toI).trans x3) ?_
    rw [List.set_set] at R3
    have hs := sumXa_set xs (k + 1) (n - k) n hp (r := (p.2.2.sp 0).sxy (p.2.2.xo + q.2.2.xo) (p.2.2.yo + q.2.2.yo)) rfl
    unfold settOne
    subst e
    rw [if_pos rfl, show p.2.2.xo + q.2.2.xo + sumXa xs (k + 1) (n - k) = p.2.2.xo + q.2.2.xo - -1 * sumXa (xs.set n (p.1, p.2.1, (p.2.2.sp 0).sxy (p.2.2.xo + q.2.2.xo) (p.2.2.yo + q.2.2.yo))) (k + 1) (n - k) by rw [hs]; omega]
    exact R3
  · wtm_at "mine.wx"
    ((refine E_call (fa := 421) (by assumption) ?_ (by k_is) (by with_unfolding_all rfl) (by with_unfolding_all rfl); wtm_at "mine.w_name"; refine ⟨rfl, ?_⟩))
    wtm_at "mine.wx"
    refine ⟨_, _, _, _, rfl, rfl, rfl, R2rl, by omega, by omega, by simp at hlen ⊢; omega, fun bl hbl => ?_⟩
    rw [z3, z4]
    wtm_at "mine.wx"
    refine Call_code (take_advances_spec (p := (p.1, p.2.1, ((p.2.2.sp 0).sxy (p.2.2.xo + q.2.2.xo) (p.2.2.yo + q.2.2.yo)))) (i := k) (m := n - k) (by assumption) (R2.ext ((Ext.refl _).set hbl)) hp2 (by simp; omega) (.inl rfl) (AHeap.set_self _ _ _) fun H3 x3 R3 => ?_)
    wtm_at "mine.wx"
    refine qq _ H3 ((x12.trans ((Ext.refl _).set hbl).toI).trans x3) ?_
    rw [List.set_set] at R3
    have hs := sumXa_set xs k (n - k) n hp (r := (p.2.2.sp 0).sxy (p.2.2.xo + q.2.2.xo) (p.2.2.yo + q.2.2.yo)) rfl
    unfold settOne
    subst e
    rw [if_neg (by decide), show p.2.2.xo + q.2.2.xo + - sumXa xs k (n - k) = p.2.2.xo + q.2.2.xo - 1 * sumXa (xs.set n (p.1, p.2.1, (p.2.2.sp 0).sxy (p.2.2.xo + q.2.2.xo) (p.2.2.yo + q.2.2.yo))) k (n - k) by rw [hs]; omega]
    exact R3

def settAt (b : Bool) (xs : IRow) (n : Nat) : IRow :=
  match xs[n]? with
  | some p => if p.2.2.par = 0 then xs else match xs[((n : Int) + p.2.2.par).toNat]? with
    | some q => settOne b xs n ((n : Int) + p.2.2.par).toNat p q
    | none => xs
  | none => xs
noncomputable def settAll (b : Bool) (xs : IRow) : Nat → IRow
  | 0 => xs
  | n + 1 => settAt b (settAll b xs n) n

theorem settAt_ne (b : Bool) (xs : IRow) (n : Nat) {j : Nat} (h : n ≠ j) : (settAt b xs n)[j]? = xs[j]? := by
  unfold settAt
  split
  · split
    · rfl
    · split
      · unfold settOne; rw [List.getElem?_set_ne h]
      · rfl
  · rfl
theorem settAt_len (b : Bool) (xs : IRow) (n : Nat) : (settAt b xs n).length = xs.length := by
  unfold settAt
  split
  · split
    · rfl
    · split
      · unfold settOne; rw [List.length_set]
      · rfl
  · rfl
theorem settAll_len (b : Bool) (xs : IRow) : ∀ n, (settAll b xs n).length = xs.length
  | 0 => rfl
  | n + 1 => by rw [settAll, settAt_len, settAll_len b xs n]
theorem settAll_ge (b : Bool) (xs : IRow) : ∀ n {j : Nat}, n ≤ j → (settAll b xs n)[j]? = xs[j]?
  | 0, _, _ => rfl
  | n + 1, j, h => by rw [settAll, settAt_ne _ _ _ (by omega), settAll_ge b xs n (by omega)]
def DownM (xs : IRow) : Prop := ∀ (k : Nat) (p : Addr × Addr × IR), xs[k]? = some p → p.2.2.par = 0 ∨ (p.2.2.par < 0 ∧ 0 ≤ (k : Int) + p.2.2.par ∧ p.2.2.bond = Str.ofString "mark")
theorem settAt_step {b : Bool} {ys : IRow} {n : Nat} {p : Addr × Addr × IR} (hp : ys[n]? = some p) (hd : p.2.2.par = 0 ∨ (p.2.2.par < 0 ∧ 0 ≤ (n : Int) + p.2.2.par)) :
    (p.2.2.par = 0 ∧ settAt b ys n = ys) ∨ ∃ k q, k < n ∧ (n : Int) + p.2.2.par = (k : Int) ∧ p.2.2.par ≠ 0 ∧ ys[k]? = some q ∧ settAt b ys n = settOne b ys n k p q := by
  have hn := (List.getElem?_eq_some_iff.mp hp).1
  unfold settAt
  rw [hp]
  dsimp only
  by_cases h : p.2.2.par = 0
  · exact .inl ⟨h, if_pos h⟩
  · rcases hd with hd | ⟨h1, h2⟩
    · exact absurd hd h
    · obtain ⟨k, hk⟩ := Int.eq_ofNat_of_zero_le h2
      have hkn : k < n := by omega
      have hq : ys[k]? = some ys[k] := List.getElem?_eq_getElem (by omega)
      refine .inr ⟨k, ys[k], hkn, hk, h, hq, ?_⟩
      rw [if_neg h, hk, Int.toNat_natCast, hq]
theorem settAll_par {b : Bool} {xs : IRow} (hD : DownM xs) : ∀ (n : Nat), n ≤ xs.length → ∀ (j : Nat) q, j < n → (settAll b xs n)[j]? = some q → q.2.2.par = 0
  | 0, _, _, _, h, _ => by omega
  | n + 1, hn, j, q, h, hq => by
    rw [settAll] at hq
    by_cases hj : n = j
    · subst hj
      have hp : (settAll b xs n)[n]? = some xs[n] := by rw [settAll_ge _ _ _ (Nat.le_refl _)]; exact List.getElem?_eq_getElem (by omega)
      have hd := hD n xs[n] (List.getElem?_eq_getElem (by omega))
      rcases settAt_step (b := b) hp (by rcases hd with h | ⟨h1, h2, _⟩; exact .inl h; exact .inr ⟨h1, h2⟩) with ⟨h1, h2⟩ | ⟨k, q', h1, h2, h3, h4, h5⟩
      · rw [h2, hp] at hq; cases hq; exact h1
      · rw [h5] at hq
        unfold settOne at hq
        rw [List.getElem?_set_self (by rw [settAll_len]; omega)] at hq
        cases hq; rfl
    · rw [settAt_ne _ _ _ hj] at hq
      exact settAll_par hD n (by omega) j q (by omega) hq

theorem settle_spec {c : Cx} {σ H d} {Q : AV → AHeap → Prop} (ok : c.OK (d + 3)) {A b} {xs : IRow} (S : StaticOK H A b) (R : RowOK H A.rl xs) (hD : DownM xs)
    (qq : ∀ H', ExtI H H' → RowOK H' A.rl (settAll b xs xs.length) → Q .none H') : WCode c (.ref 435) [.ref A.bu] σ H Q := by
  have hbu := S.bu
  have hbud := S.bud
  ((refine' F_def (by assumption) ?ho_97 ?hcd_97 ?hb_97 ?h1_97 ?h2_97 ?h3_97 ?h4_97 ?_; (case ho_97 => k_is); (case hcd_97 => k_is); (case hb_97 => (first | exact bn0 ⟨_, fun s _ => BindsTo.of_eq rfl, locs rfl, KB.knows .nil⟩ | exact bn1 fun _ i1 => ⟨_, fun s _ => BindsTo.of_eq rfl, locs rfl, KB.knows (.cons i1 .nil)⟩ | exact bn2 fun _ i1 _ i2 => ⟨_, fun s _ => BindsTo.of_eq rfl, locs rfl, KB.knows (.cons i2 (.cons i1 .nil))⟩ | exact bn3 fun _ i1 _ i2 _ i3 => ⟨_, fun s _ => BindsTo.of_eq rfl, locs rfl, KB.knows (.cons i3 (.cons i2 (.cons i1 .nil)))⟩ | exact bn4 fun _ i1 _ i2 _ i3 _ i4 => ⟨_, fun s _ => BindsTo.of_eq rfl, locs rfl, KB.knows (.cons i4 (.cons i3 (.cons i2 (.cons i1 .nil))))⟩ | exact bn5 fun _ i1 _ i2 _ i3 _ i4 _ i5 => ⟨_, fun s _ => BindsTo.of_eq rfl, locs rfl, KB.knows (.cons i5 (.cons i4 (.cons i3 (.cons i2 (.cons i1 .nil)))))⟩ | exact bn6 fun _ i1 _ i2 _ i3 _ i4 _ i5 _ i6 => ⟨_, fun s _ => BindsTo.of_eq rfl, locs rfl, KB.knows (.cons i6 (.cons i5 (.cons i4 (.cons i3 (.cons i2 (.cons i1 .nil))))))⟩)); (case h1_97 => exact rfl); (case h2_97 => exact rfl); (case h3_97 => exact rfl); (case h4_97 => decide)))
  intro A' L' g ok'
  refine loop_rng (by assumption) (xs.length : Int) (by omega) (by have := R.len; omega) ?_
  ((refine E_callT (T := "range") ?_ (by with_unfolding_all rfl) (by with_unfolding_all rfl); wtm_at "mine.w_name"; refine ⟨rfl, ?_⟩))
  wtm_at "mine.wx"
  ((refine E_callB (id := "len") ?_ (by with_unfolding_all rfl) (by with_unfolding_all rfl); wtm_at "mine.w_name"; refine ⟨rfl, ?_⟩))
  wtm_at "mine.wx"
  refine F_len R.rl (by simp; have := R.len; omega) ?_
  wtm_at "mine.wx"
  rw [show ((List.map (fun p : Addr × Addr × IR => AV.ref p.1) xs).length : Int) = (xs.length : Int) by simp]
  refine F_range fun r hr => ?_
  refine ⟨r, rfl, AHeap.set_self _ _ _, fun I hI => ⟨fun i ρ H' => RowOK H' A.rl (settAll b xs i) ∧ ExtI H H' ∧ (∃ P, H' I = some (.pred P)) ∧ ρ = [(Str.ofString "buffer", .ref A.bu)], ⟨_, Sub.cons rfl Sub.nil, R.ext (((Ext.refl _).set hr).set hI), (((Ext.refl _).set hr).set hI).toI, ⟨_, AHeap.set_self _ _ _⟩, rfl⟩, ?_, ?_⟩⟩
  · rintro i σ1 H1 hi ⟨R1, x1, _, rfl⟩ hI1
    have hHI : H I = none := (set_none hI).1
    have hself : (H1.set I (.pred (rngIt (xs.length : Int) (i + 1)))) I = some (.pred (rngIt (xs.length : Int) (i + 1))) := AHeap.set_self _ _ _
    have R2 := R1.predSet hI1 (o := .pred (rngIt (xs.length : Int) (i + 1)))
    have x2 := x1.setI hHI (o := .pred (rngIt (xs.length : Int) (i + 1)))
    generalize (H1.set I (.pred (rngIt (xs.length : Int) (i + 1)))) = H2 at R2 x2 hself
    have S2 := S.extI x2
    have hbu2 := S2.bu
    have hbud2 := S2.bud
    have hil : i < xs.length := by omega
    have hp : xs[i]? = some xs[i] := List.getElem?_eq_getElem hil
    generalize xs[i] = p at hp
    have hp2 : (settAll b xs i)[i]? = some p := by rw [settAll_ge _ _ _ (Nat.le_refl _)]; exact hp
    have hd := hD i p hp
    have hd' : p.2.2.par = 0 ∨ (p.2.2.par < 0 ∧ 0 ≤ (i : Int) + p.2.2.par) := by rcases hd with h | ⟨h1, h2, _⟩; exact .inl h; exact .inr ⟨h1, h2⟩
    have h0 : ∀ (k : Nat) q, k < i → (settAll b xs i)[k]? = some q → q.2.2.par = 0 := fun k q hk hq => settAll_par hD i (by omega) k q hk hq
    have hstep := settAt_step (b := b) hp2 hd'
    wtm_at "mine.wx"
    refine S_for ?_
    ((refine E_callT (T := "reversed") ?_ (by with_unfolding_all rfl) (by with_unfolding_all rfl); wtm_at "mine.w_name"; refine ⟨rfl, ?_⟩))
    wtm_at "mine.wx"
    ((refine E_call (fa := 407) (by assumption) ?_ (by k_is) (by with_unfolding_all rfl) (by with_unfolding_all rfl); wtm_at "mine.w_name"; refine ⟨rfl, ?_⟩))
    wtm_at "mine.wx"
    refine Call_code (chain_from_spec (by assumption) R2 hp2 h0 hd' fun l H3 x3 hl hl3 => ?_)
    wtm_at "mine.wx"
    refine F_rev hl3 fun r3 hr3 hz3 => ?_
    have hlr : l ≠ r3 := ne_of hl3 hr3
    refine It_rev (by assumption) (AHeap.set_self _ _ _) hz3 hlr (set_get hl3 hr3) ?_
    have x4 : Ext H2 (H3.set r3 (.pred (revIt l (if p.2.2.par = 0 then ([] : List AV) else [.int (i : Int)]).length 0))) := x3.set hr3
    have hself4 := x4 _ _ hself
    have R4 := R2.ext x4
    have hIr : I ≠ r3 := ne_of (x3 _ _ hself) hr3
    have hpr : ∃ P, (H3.set r3 (.pred (revIt l (if p.2.2.par = 0 then ([] : List AV) else [.int (i : Int)]).length 0))) r3 = some (.pred P) := ⟨_, AHeap.set_self _ _ _⟩
    have hH2r : H2 r3 = none := none_back x3 hr3
    have hHr : H r3 = none ∨ True := .inr trivial
    generalize (H3.set r3 (.pred (revIt l (if p.2.2.par = 0 then ([] : List AV) else [.int (i : Int)]).length 0))) = H4 at x4 hself4 R4 hpr ⊢
    have x24 : ExtI H2 H4 := x4.toI
    refine ⟨fun j ρ H' => RowOK H' A.rl (if j = 0 then settAll b xs i else settAll b xs (i + 1)) ∧ ExtI H2 H' ∧ (∃ P, H' r3 = some (.pred P)) ∧ ρ = [(Str.ofString "buffer", .ref A.bu), (Str.ofString "at", .int (i : Int))], ⟨_, Sub.cons rfl (Sub.cons rfl Sub.nil), R4, x24, hpr, rfl⟩, ?_, ?_⟩
    · rintro j a σ5 H5 hx ⟨R5, x5, _, rfl⟩ hr5 hl5
      rcases hstep with ⟨e0, _⟩ | ⟨k, q, hkn, hk, hne, hq, hst⟩
      · rw [if_pos e0] at hx; simp at hx
      rw [if_neg hne] at hx
      have hj : j = 0 ∧ a = .int (i : Int) := by
        cases j with
        | zero => simp at hx; exact ⟨rfl, hx.symm⟩
        | succ j => simp at hx
      obtain ⟨rfl, rfl⟩ := hj
      rw [if_pos rfl] at R5
      have hb : p.2.2.bond = Str.ofString "mark" := by rcases hd with h | ⟨_, _, h⟩; exact absurd h hne; exact h
      have hl6 := (AHeap.set_ne H5 (.pred (revIt l (if p.2.2.par = 0 then ([] : List AV) else [.int (i : Int)]).length (0 + 1))) hlr).trans hl5
      have hself6 : (H5.set r3 (.pred (revIt l (if p.2.2.par = 0 then ([] : List AV) else [.int (i : Int)]).length (0 + 1)))) r3 = some (.pred (revIt l (if p.2.2.par = 0 then ([] : List AV) else [.int (i : Int)]).length (0 + 1))) := AHeap.set_self _ _ _
      have R6 := R5.predSet hr5 (o := .pred (revIt l (if p.2.2.par = 0 then ([] : List AV) else [.int (i : Int)]).length (0 + 1)))
      have x6 := x5.setI hH2r (o := .pred (revIt l (if p.2.2.par = 0 then ([] : List AV) else [.int (i : Int)]).length (0 + 1)))
      generalize (H5.set r3 (.pred (revIt l (if p.2.2.par = 0 then ([] : List AV) else [.int (i : Int)]).length (0 + 1)))) = H6 at R6 x6 hl6 hself6
      have S6 := S2.extI x6
      wtm_at "mine.wx"
      ((refine E_call (fa := 428) (by assumption) ?_ (by k_is) (by with_unfolding_all rfl) (by with_unfolding_all rfl); wtm_at "mine.w_name"; refine ⟨rfl, ?_⟩))
      wtm_at "mine.wx"
      refine Call_code (settle_one_spec (by assumption) S6 R6 hp2 hq hkn hk hb fun v H7 x7 R7 => ?_)
      wtm_at "mine.wx"
      refine ⟨⟨_, Sub.cons rfl (Sub.cons rfl Sub.nil), ?_, x6.trans x7, ⟨_, x7 _ _ hself6 rfl⟩, rfl⟩, x7 _ _ hself6 rfl, x7 _ _ hl6 rfl⟩
      rw [if_neg (by omega), settAll, hst]; exact R7
    · rintro σ5 H5 ⟨R5, x5, ⟨P, hP⟩, rfl⟩ hl5
      wtm_at "mine.wx"
      refine ⟨⟨_, Sub.cons rfl Sub.nil, ?_, x2.trans (x5.del hH2r), ⟨_, (AHeap.del_ne _ hIr).trans (x5 _ _ hself rfl)⟩, rfl⟩, (AHeap.del_ne _ hIr).trans (x5 _ _ hself rfl)⟩
      have R6 := R5.predDel hP
      rcases hstep with ⟨e0, e1⟩ | ⟨k, q, hkn, hk, hne, hq, hst⟩
      · rw [if_pos (by rw [if_pos e0]; rfl)] at R6
        rw [settAll, e1]; exact R6
      · rw [if_neg (by rw [if_neg hne]; simp)] at R6
        exact R6
  · rintro σ1 H1 ⟨R1, x1, ⟨P, hP⟩, rfl⟩
    have hHI : H I = none := (set_none hI).1
    have R3 := R1.predDel hP
    have x3 := x1.del hHI
    rw [show ((xs.length : Int)).toNat = xs.length by omega] at R3
    generalize (H1.del I) = H3 at R3 x3 ⊢
    have hz : ∀ (j : Nat) q, (settAll b xs xs.length)[j]? = some q → q.2.2.par = 0 := fun j q hq => settAll_par hD xs.length (Nat.le_refl _) j q (by have := (List.getElem?_eq_some_iff.mp hq).1; rw [settAll_len] at this; exact this) hq
    generalize settAll b xs xs.length = ys at R3 hz qq
    have S3 := S.extI x3
    have hbu3 := S3.bu
    have hbud3 := S3.bud
    refine loop_list (by assumption) ?_
    wtm_at "mine.wx"
    refine ⟨A.rl, _, rfl, R3.rl, fun J hJ hne => ⟨fun j ρ H' => RowOK H' A.rl ys ∧ ExtI H3 H' ∧ (∃ P, H' J = some (.pred P)) ∧ ρ = [], ⟨_, Sub.nil, R3.ext ((Ext.refl _).set hJ), ((Ext.refl _).set hJ).toI, ⟨_, AHeap.set_self _ _ _⟩, rfl⟩, ?_, ?_⟩⟩
    · rintro j a σ5 H5 hx ⟨R5, x5, _, rfl⟩ hJ5 hl5
      rw [List.getElem?_map, Option.map_eq_some_iff] at hx
      obtain ⟨q, hq, rfl⟩ := hx
      have hl6 := (AHeap.set_ne H5 (.pred (listIt A.rl (j + 1))) hne).trans hl5
      have hself6 : (H5.set J (.pred (listIt A.rl (j + 1)))) J = some (.pred (listIt A.rl (j + 1))) := AHeap.set_self _ _ _
      have R6 := R5.predSet hJ5 (o := .pred (listIt A.rl (j + 1)))
      have x6 := x5.setI hJ (o := .pred (listIt A.rl (j + 1)))
      generalize (H5.set J (.pred (listIt A.rl (j + 1)))) = H6 at R6 x6 hl6 hself6
      obtain ⟨hi6, u, hid6⟩ := R6.at_ _ _ hq
      wtm_at "mine.wx"
      have e : setF (Str.ofString "parent") (.int 0) (infoF q.2.2 u) = infoF q.2.2 u := by
        have h0 := hz j q hq
        obtain ⟨a1, a2, ir⟩ := q
        obtain ⟨g1, g2, g3, g4, g5, g6, g7⟩ := ir
        simp only at h0
        subst h0
        rfl
      rw [e]
      exact ⟨⟨_, Sub.nil, R6.updU hq, x6.trans (ExtI.info hid6), ⟨_, by rw [AHeap.set_ne _ _ (fun e => by rw [e, hid6] at hself6; cases hself6)]; exact hself6⟩, rfl⟩, by rw [AHeap.set_ne _ _ (fun e => by rw [e, hid6] at hself6; cases hself6)]; exact hself6, by rw [AHeap.set_ne _ _ (fun e => by rw [e, hid6] at hl6; cases hl6)]; exact hl6⟩
    · rintro σ5 H5 ⟨R5, x5, ⟨P', hP'⟩, rfl⟩ hl5
      wtm_at "mine.wx"
      exact qq _ (x3.trans (x5.del hJ)) (R5.predDel hP')

structure PenOK (H : AHeap) (pe cl : Addr) (n : Int) : Prop where
  ex : ∃ ks gr st pl as, H pe = some (.list [.ref cl, .int gr, .int st, .int pl]) ∧ H cl = some (.list as) ∧ Nums as ks ∧ as.length ≤ 48 ∧ 0 ≤ gr ∧ gr < 10 ^ 240 ∧ 0 ≤ st ∧ st < 2147483647 ∧ 0 ≤ pl ∧ pl ≤ n ∧ cl ≠ pe
def ExtP (pe : Addr) (H H' : AHeap) : Prop := ∀ a o, a ≠ pe → H a = some o → H' a = some o
theorem ExtP.refl (pe : Addr) (H : AHeap) : ExtP pe H H := fun _ _ _ e => e
theorem ExtP.trans {pe : Addr} {H H' H'' : AHeap} (h : ExtP pe H H') (h' : ExtP pe H' H'') : ExtP pe H H'' := fun a o n e => h' a o n (h a o n e)
theorem Ext.toP {H H' : AHeap} (pe : Addr) (h : Ext H H') : ExtP pe H H' := fun a o _ e => h a o e
theorem PenOK.ext {H H' pe cl n} (P : PenOK H pe cl n) (x : Ext H H') : PenOK H' pe cl n := by
  obtain ⟨ks, gr, st, pl, as, h1, h2, r⟩ := P.ex
  exact ⟨⟨ks, gr, st, pl, as, x _ _ h1, x _ _ h2, r⟩⟩
theorem nums_get {as : List AV} {ks : List Int} (h : Nums as ks) : ∀ {i : Nat}, i < as.length → ∃ k, as[i]? = some (.int k) := by
  induction h with
  | nil => intro i hi; simp at hi
  | @cons k as ks _ ih =>
    intro i hi
    cases i with
    | zero => exact ⟨k, rfl⟩
    | succ i => simpa using ih (by simpa using hi)

theorem draw_spec {c : Cx} {σ H d} {Q : AV → AHeap → Prop} (ok : c.OK (d + 1)) {pe cl n lim} (P : PenOK H pe cl n) (hl : 2 ≤ lim) (hl2 : lim ≤ 100) (hn : n ≤ 1000)
    (q : ∀ v H', 0 ≤ v → v < lim → ExtP pe H H' → PenOK H' pe cl (n + 1) → Q (.int v) H') : WCode c (.ref 542) [.ref pe, .int lim] σ H Q := by
  obtain ⟨ks, gr, st, pl, as, h1, h2, h3, h4, h5, h6, h7, h8, h9, h10, h11⟩ := P.ex
  ((refine' F_def (by assumption) ?ho_104 ?hcd_104 ?hb_104 ?h1_104 ?h2_104 ?h3_104 ?h4_104 ?_; (case ho_104 => k_is); (case hcd_104 => k_is); (case hb_104 => (first | exact bn0 ⟨_, fun s _ => BindsTo.of_eq rfl, locs rfl, KB.knows .nil⟩ | exact bn1 fun _ i1 => ⟨_, fun s _ => BindsTo.of_eq rfl, locs rfl, KB.knows (.cons i1 .nil)⟩ | exact bn2 fun _ i1 _ i2 => ⟨_, fun s _ => BindsTo.of_eq rfl, locs rfl, KB.knows (.cons i2 (.cons i1 .nil))⟩ | exact bn3 fun _ i1 _ i2 _ i3 => ⟨_, fun s _ => BindsTo.of_eq rfl, locs rfl, KB.knows (.cons i3 (.cons i2 (.cons i1 .nil)))⟩ | exact bn4 fun _ i1 _ i2 _ i3 _ i4 => ⟨_, fun s _ => BindsTo.of_eq rfl, locs rfl, KB.knows (.cons i4 (.cons i3 (.cons i2 (.cons i1 .nil))))⟩ | exact bn5 fun _ i1 _ i2 _ i3 _ i4 _ i5 => ⟨_, fun s _ => BindsTo.of_eq rfl, locs rfl, KB.knows (.cons i5 (.cons i4 (.cons i3 (.cons i2 (.cons i1 .nil)))))⟩ | exact bn6 fun _ i1 _ i2 _ i3 _ i4 _ i5 _ i6 => ⟨_, fun s _ => BindsTo.of_eq rfl, locs rfl, KB.knows (.cons i6 (.cons i5 (.cons i4 (.cons i3 (.cons i2 (.cons i1 .nil))))))⟩)); (case h1_104 => exact rfl); (case h2_104 => exact rfl); (case h3_104 => exact rfl); (case h4_104 => decide)))
  intro A' L' g ok'
  wtm_at "mine.wx"
  refine I_list h1 (by decide) (by decide) rfl ?_
  wtm_at "mine.wx"
  refine StI_list h1 (by decide) (by decide) (by simp) ?_
  have e1 : (H.set pe (.list ([AV.ref cl, .int gr, .int st, .int pl].set (3 : Int).toNat (.int (pl + 1))))) pe = some (.list [.ref cl, .int gr, .int st, .int (pl + 1)]) := AHeap.set_self _ _ _
  have x1 : ExtP pe H (H.set pe (.list ([AV.ref cl, .int gr, .int st, .int pl].set (3 : Int).toNat (.int (pl + 1))))) := fun a o ha e => by rw [AHeap.set_ne _ _ ha]; exact e
  generalize (H.set pe (.list ([AV.ref cl, .int gr, .int st, .int pl].set (3 : Int).toNat (.int (pl + 1))))) = H1 at e1 x1
  wtm_at "mine.wx"
  refine I_list e1 (by decide) (by decide) rfl ?_
  wtm_at "mine.wx"
  refine ⟨fun e => ?_, fun e => ?_⟩
  · wtm_at "mine.wx"
    refine I_list e1 (by decide) (by decide) rfl ?_
    wtm_at "mine.wx"
    refine O_mod (by omega) ?_
    wtm_at "mine.wx"
    refine I_list e1 (by decide) (by decide) rfl ?_
    wtm_at "mine.wx"
    refine O_div (by omega) (PyProof.noPylong_small (by omega)) ?_
    wtm_at "mine.wx"
    refine StI_list e1 (by decide) (by decide) (by simp) ?_
    wtm_at "mine.wx"
    refine q _ _ (Int.fmod_nonneg_of_pos _ (by omega)) (Int.fmod_lt_of_pos _ (by omega)) (x1.trans (fun a o ha e => by rw [AHeap.set_ne _ _ ha]; exact e)) ⟨⟨ks, gr.fdiv lim, st, pl + 1, as, AHeap.set_self _ _ _, ?_, h3, h4, ?_, ?_, h7, h8, by omega, by omega, h11⟩⟩
    · rw [AHeap.set_ne _ _ h11]; exact x1 _ _ h11 h2
    · rw [Int.fdiv_eq_ediv_of_nonneg _ (by omega)]; exact Int.ediv_nonneg h5 (by omega)
    · rw [Int.fdiv_eq_ediv_of_nonneg _ (by omega)]
      exact Int.lt_of_le_of_lt (Int.ediv_le_self _ h5) h6
  wtm_at "mine.wx"
  refine I_list e1 (by decide) (by decide) rfl ?_
  wtm_at "mine.wx"
  refine O_mul (PySem.IntMulOk.of_right (by decide)) ?_
  wtm_at "mine.wx"
  refine O_mul (PySem.IntMulOk.of_right (PySem.intBits_le_64 (by omega) (by omega))) ?_
  wtm_at "mine.wx"
  refine O_mod (by decide) ?_
  wtm_at "mine.wx"
  refine StI_list e1 (by decide) (by decide) (by simp) ?_
  have hst : ∀ z : Int, 0 ≤ z.fmod 2147483647 ∧ z.fmod 2147483647 < 2147483647 := fun z => ⟨Int.fmod_nonneg_of_pos _ (by decide), Int.fmod_lt_of_pos _ (by decide)⟩
  obtain ⟨hs1, hs2⟩ := hst (st * 16807 + pl * pl + 7)
  generalize (st * 16807 + pl * pl + 7).fmod 2147483647 = st' at hs1 hs2
  have e2 : (H1.set pe (.list ([AV.ref cl, .int gr, .int st, .int (pl + 1)].set (2 : Int).toNat (.int st')))) pe = some (.list [.ref cl, .int gr, .int st', .int (pl + 1)]) := AHeap.set_self _ _ _
  have x2 : ExtP pe H (H1.set pe (.list ([AV.ref cl, .int gr, .int st, .int (pl + 1)].set (2 : Int).toNat (.int st')))) := x1.trans (fun a o ha e => by rw [AHeap.set_ne _ _ ha]; exact e)
  generalize (H1.set pe (.list ([AV.ref cl, .int gr, .int st, .int (pl + 1)].set (2 : Int).toNat (.int st')))) = H2 at e2 x2
  have hcl := x2 _ _ h11 h2
  have P2 : PenOK H2 pe cl (n + 1) := ⟨⟨ks, gr, st', pl + 1, as, e2, hcl, h3, h4, h5, h6, hs1, hs2, by omega, by omega, h11⟩⟩
  wtm_at "mine.wx"
  ((refine E_callB (id := "len") ?_ (by with_unfolding_all rfl) (by with_unfolding_all rfl); wtm_at "mine.w_name"; refine ⟨rfl, ?_⟩))
  wtm_at "mine.wx"
  refine I_list e2 (by decide) (by decide) rfl ?_
  wtm_at "mine.wx"
  refine F_len hcl (by omega) ?_
  wtm_at "mine.wx"
  refine ⟨fun e => ?_, fun e => ?_⟩
  · wtm_at "mine.wx"
    refine I_list e2 (by decide) (by decide) rfl ?_
    wtm_at "mine.wx"
    simp at e
    obtain ⟨k, hk⟩ := nums_get h3 (i := pl.toNat) (by omega)
    refine I_list hcl h9 (by omega) hk ?_
    wtm_at "mine.wx"
    refine O_mod (by omega) ?_
    exact q _ _ (Int.fmod_nonneg_of_pos _ (by omega)) (Int.fmod_lt_of_pos _ (by omega)) x2 P2
  · wtm_at "mine.wx"
    refine I_list e2 (by decide) (by decide) rfl ?_
    wtm_at "mine.wx"
    refine O_div (by decide) (PyProof.noPylong_small (by decide)) ?_
    wtm_at "mine.wx"
    refine O_mod (by omega) ?_
    exact q _ _ (Int.fmod_nonneg_of_pos _ (by omega)) (Int.fmod_lt_of_pos _ (by omega)) x2 P2

def ExtT (H H' : AHeap) : Prop := ∀ a xs, H a = some (.tup xs) → H' a = some (.tup xs)
theorem ExtT.refl (H : AHeap) : ExtT H H := fun _ _ e => e
theorem ExtT.trans {H H' H'' : AHeap} (h : ExtT H H') (h' : ExtT H' H'') : ExtT H H'' := fun a o e => h' a o (h a o e)
theorem Ext.toT {H H' : AHeap} (h : Ext H H') : ExtT H H' := fun a o e => h a _ e
theorem ExtT.setL {H : AHeap} {l xs o} (h : H l = some (.list xs)) : ExtT H (H.set l o) := fun a ys e => by
  rw [AHeap.set_ne _ _ (fun q => by rw [q, h] at e; cases e)]; exact e
theorem ExtT.setP {H : AHeap} {l P o} (h : H l = some (.pred P)) : ExtT H (H.set l o) := fun a ys e => by
  rw [AHeap.set_ne _ _ (fun q => by rw [q, h] at e; cases e)]; exact e
theorem ExtT.delP {H : AHeap} {l P} (h : H l = some (.pred P)) : ExtT H (H.del l) := fun a ys e => by
  rw [AHeap.del_ne _ (fun q => by rw [q, h] at e; cases e)]; exact e
theorem ExtP.toT {H H' : AHeap} {pe cl n} (P : PenOK H pe cl n) (x : ExtP pe H H') : ExtT H H' := fun a ys e => by
  obtain ⟨ks, gr, st, pl, as, h1, _⟩ := P.ex
  exact x _ _ (fun q => by rw [q, h1] at e; cases e) e

abbrev Trip := Int × Int × Int
def TripAt (H : AHeap) (a : AV) (t : Trip) : Prop := ∃ l, a = .ref l ∧ H l = some (.tup [.int t.1, .int t.2.1, .int t.2.2])
theorem TripAt.ext {H H' a t} (h : TripAt H a t) (x : ExtT H H') : TripAt H' a t := let ⟨l, h1, h2⟩ := h; ⟨l, h1, x _ _ h2⟩
theorem all2_mono {α β : Type} {R R' : α → β → Prop} {as : List α} {bs : List β} (h : All2 R as bs) (f : ∀ a b, R a b → R' a b) : All2 R' as bs := by
  induction h with
  | nil => exact .nil
  | cons h1 _ ih => exact .cons (f _ _ h1) ih
def okTrip (prev : Option Trip) (t : Trip) : Prop := (t.2.2 = 0 ∧ (t.1 = 1 ∨ t.1 = 2)) ∨ (0 < t.2.2 ∧ (t.1 = 6 ∨ t.1 = 7) ∧ ∃ p, prev = some p ∧ p.2.2 = t.2.2 - 1)
inductive RowSh : List Trip → Prop
  | nil : RowSh []
  | snoc {ts t} : RowSh ts → okTrip ts.getLast? t → RowSh (ts ++ [t])

structure RInv (H' : AHeap) (l : Addr) (ts : List Trip) : Prop where
  ex : ∃ as, H' l = some (.list as) ∧ All2 (TripAt H') as ts
theorem RInv.push {H l ts} (h : RInv H l ts) {a t} (ha : TripAt H a t) {as} (hl : H l = some (.list as)) : RInv (H.set l (.list (as ++ [a]))) l (ts ++ [t]) := by
  obtain ⟨as', h1, h2⟩ := h.ex
  rw [hl] at h1; cases h1
  have x : ExtT H (H.set l (.list (as ++ [a]))) := ExtT.setL hl
  exact ⟨⟨_, AHeap.set_self _ _ _, all2_append (all2_mono h2 fun _ _ h => h.ext x) (.cons (ha.ext x) .nil)⟩⟩
theorem RInv.ext {H H' l ts} (h : RInv H l ts) (x : ExtT H H') (hl : ∀ as, H l = some (.list as) → H' l = some (.list as)) : RInv H' l ts := by
  obtain ⟨as, h1, h2⟩ := h.ex
  exact ⟨⟨as, hl _ h1, all2_mono h2 fun _ _ h => h.ext x⟩⟩

def ExtX (S : List Addr) (H H' : AHeap) : Prop := ∀ a o, a ∉ S → H a = some o → H' a = some o
theorem ExtX.refl (S : List Addr) (H : AHeap) : ExtX S H H := fun _ _ _ e => e
theorem ExtX.trans {S : List Addr} {H H' H'' : AHeap} (h : ExtX S H H') (h' : ExtX S H' H'') : ExtX S H H'' := fun a o n e => h' a o n (h a o n e)
theorem ExtX.set {S : List Addr} {H H' : AHeap} (h : ExtX S H H') {a o} (ha : a ∈ S) : ExtX S H (H'.set a o) := fun b x n e => by
  rw [AHeap.set_ne _ _ (fun q => n (by rw [q]; exact ha))]; exact h b x n e
theorem ExtX.setI {S : List Addr} {H H' : AHeap} (h : ExtX S H H') {a o} (ha : H a = none) : ExtX S H (H'.set a o) := fun b x n e => by
  rw [AHeap.set_ne _ _ (fun q => by rw [q, ha] at e; cases e)]; exact h b x n e
theorem ExtX.delI {S : List Addr} {H H' : AHeap} (h : ExtX S H H') {a} (ha : H a = none) : ExtX S H (H'.del a) := fun b x n e => by
  rw [AHeap.del_ne _ (fun q => by rw [q, ha] at e; cases e)]; exact h b x n e
theorem Ext.toX {H H' : AHeap} (S : List Addr) (h : Ext H H') : ExtX S H H' := fun a o _ e => h a o e
theorem ExtP.toX {S : List Addr} {pe : Addr} {H H' : AHeap} (h : ExtP pe H H') (hp : pe ∈ S) : ExtX S H H' := fun a o n e => h a o (fun q => n (by rw [q]; exact hp)) e
theorem ExtT.setN {H : AHeap} {l o} (h : H l = none) : ExtT H (H.set l o) := fun a ys e => by
  rw [AHeap.set_ne _ _ (fun q => by rw [q, h] at e; cases e)]; exact e
theorem PenOK.ne {H pe cl n l} (P : PenOK H pe cl n) (h : ∀ x, H l ≠ some (.list x)) : pe ≠ l ∧ cl ≠ l := by
  obtain ⟨ks, gr, st, pl, as, h1, h2, r⟩ := P.ex
  exact ⟨fun q => by rw [q] at h1; exact h _ h1, fun q => by rw [q] at h2; exact h _ h2⟩
theorem PenOK.setX {H pe cl n l o} (P : PenOK H pe cl n) (h : pe ≠ l ∧ cl ≠ l) : PenOK (H.set l o) pe cl n := by
  obtain ⟨ks, gr, st, pl, as, h1, h2, r⟩ := P.ex
  exact ⟨⟨ks, gr, st, pl, as, by rw [AHeap.set_ne _ _ h.1]; exact h1, by rw [AHeap.set_ne _ _ h.2]; exact h2, r⟩⟩
theorem PenOK.delX {H pe cl n l} (P : PenOK H pe cl n) (h : pe ≠ l ∧ cl ≠ l) : PenOK (H.del l) pe cl n := by
  obtain ⟨ks, gr, st, pl, as, h1, h2, r⟩ := P.ex
  exact ⟨⟨ks, gr, st, pl, as, by rw [AHeap.del_ne _ h.1]; exact h1, by rw [AHeap.del_ne _ h.2]; exact h2, r⟩⟩
theorem PenOK.up {H pe cl n n'} (P : PenOK H pe cl n) (h : n ≤ n') : PenOK H pe cl n' := by
  obtain ⟨ks, gr, st, pl, as, h1, h2, h3, h4, h5, h6, h7, h8, h9, h10, h11⟩ := P.ex
  exact ⟨⟨ks, gr, st, pl, as, h1, h2, h3, h4, h5, h6, h7, h8, h9, by omega, h11⟩⟩
theorem PenOK.neN {H pe cl n l} (P : PenOK H pe cl n) (h : H l = none) : pe ≠ l ∧ cl ≠ l := P.ne fun x => by rw [h]; exact (fun e => nomatch e)

theorem law_row_spec {c : Cx} {σ H d} {Q : AV → AHeap → Prop} (ok : c.OK (d + 2)) {pe cl n} (P : PenOK H pe cl n) (hn : n ≤ 500)
    (q : ∀ l ts H', ExtP pe H H' → PenOK H' pe cl (n + 40) → H l = none → RInv H' l ts → RowSh ts → 0 < ts.length → ts.length ≤ 15 → Q (.ref l) H') : WCode c (.ref 549) [.ref pe] σ H Q := by
  ((refine' F_def (by assumption) ?ho_107 ?hcd_107 ?hb_107 ?h1_107 ?h2_107 ?h3_107 ?h4_107 ?_; (case ho_107 => k_is); (case hcd_107 => k_is); (case hb_107 => (first | exact bn0 ⟨_, fun s _ => BindsTo.of_eq rfl, locs rfl, KB.knows .nil⟩ | exact bn1 fun _ i1 => ⟨_, fun s _ => BindsTo.of_eq rfl, locs rfl, KB.knows (.cons i1 .nil)⟩ | exact bn2 fun _ i1 _ i2 => ⟨_, fun s _ => BindsTo.of_eq rfl, locs rfl, KB.knows (.cons i2 (.cons i1 .nil))⟩ | exact bn3 fun _ i1 _ i2 _ i3 => ⟨_, fun s _ => BindsTo.of_eq rfl, locs rfl, KB.knows (.cons i3 (.cons i2 (.cons i1 .nil)))⟩ | exact bn4 fun _ i1 _ i2 _ i3 _ i4 => ⟨_, fun s _ => BindsTo.of_eq rfl, locs rfl, KB.knows (.cons i4 (.cons i3 (.cons i2 (.cons i1 .nil))))⟩ | exact bn5 fun _ i1 _ i2 _ i3 _ i4 _ i5 => ⟨_, fun s _ => BindsTo.of_eq rfl, locs rfl, KB.knows (.cons i5 (.cons i4 (.cons i3 (.cons i2 (.cons i1 .nil)))))⟩ | exact bn6 fun _ i1 _ i2 _ i3 _ i4 _ i5 _ i6 => ⟨_, fun s _ => BindsTo.of_eq rfl, locs rfl, KB.knows (.cons i6 (.cons i5 (.cons i4 (.cons i3 (.cons i2 (.cons i1 .nil))))))⟩)); (case h1_107 => exact rfl); (case h2_107 => exact rfl); (case h3_107 => exact rfl); (case h4_107 => decide)))
  intro A' L' g ok'
  wtm_at "mine.wx"
  refine ⟨by simp, fun l hl => ?_⟩
  have hpcl := P.neN hl
  have hpel := hpcl.1
  have P1 := P.ext ((Ext.refl _).set hl (o := .list []))
  have hl1 : (H.set l (.list [])) l = some (.list []) := AHeap.set_self _ _ _
  have x1 : Ext H (H.set l (.list [])) := (Ext.refl _).set hl
  generalize (H.set l (.list [])) = H1 at P1 hl1 x1
  wtm_at "mine.wx"
  refine S_for ?_
  ((refine E_callT (T := "range") ?_ (by with_unfolding_all rfl) (by with_unfolding_all rfl); wtm_at "mine.w_name"; refine ⟨rfl, ?_⟩))
  wtm_at "mine.wx"
  ((refine E_call (fa := 542) (by assumption) ?_ (by k_is) (by with_unfolding_all rfl) (by with_unfolding_all rfl); wtm_at "mine.w_name"; refine ⟨rfl, ?_⟩))
  wtm_at "mine.wx"
  refine Call_code (draw_spec (by assumption) P1 (by decide) (by decide) (by omega) fun v H2 v0 v1 x2 P2 => ?_)
  have hl2 := x2 _ _ (Ne.symm hpel) hl1
  have xx2 : ExtP pe H H2 := (x1.toP pe).trans x2
  wtm_at "mine.wx"
  refine F_range fun r hr => ?_
  have P3 := P2.ext ((Ext.refl _).set hr (o := .rng (1 + v)))
  have hl3 := set_get hl2 hr (o' := .rng (1 + v))
  have hr3 : (H2.set r (.rng (1 + v))) r = some (.rng (1 + v)) := AHeap.set_self _ _ _
  have xx3 : ExtP pe H (H2.set r (.rng (1 + v))) := xx2.trans (((Ext.refl _).set hr).toP pe)
  generalize (H2.set r (.rng (1 + v))) = H3 at P3 hl3 hr3 xx3 ⊢
  refine It_rng (by assumption) hr3 (by omega) (by omega) fun I hI => ?_
  have hIl : l ≠ I := ne_of hl3 hI
  have hpcI := P3.neN hI
  have hpeI := hpcI.1
  refine ⟨fun i ρ H' => ∃ ts, PenOK H' pe cl (n + 1 + 11 * i) ∧ ExtX [pe, l] H3 H' ∧ RInv H' l ts ∧ RowSh ts ∧ i ≤ ts.length ∧ ts.length ≤ 5 * i ∧ (∃ P, H' I = some (.pred P)) ∧ ρ = [(Str.ofString "pen", .ref pe), (Str.ofString "row", .ref l)], ?_, ?_, ?_⟩
  · refine ⟨_, Sub.cons rfl (Sub.cons rfl Sub.nil), [], ?_, (ExtX.refl _ _).setI hI, ⟨⟨[], ?_, .nil⟩⟩, .nil, by simp, by simp, ⟨_, AHeap.set_self _ _ _⟩, rfl⟩
    · simpa using P3.setX hpcI
    · exact set_get hl3 hI
  · rintro i a σ1 H4 hx ⟨ts, P4, x4, R4, sh, t1, t2, ⟨_, hpI⟩, rfl⟩ hI4 -
    have hil : (i : Int) < 1 + v ∧ a = .int (i : Int) := by
      have hi := (List.getElem?_eq_some_iff.mp hx).1
      have hu : (upto (1 + v)).length = (1 + v).toNat := by simp [upto]
      rw [hu] at hi
      refine ⟨by omega, ?_⟩
      unfold upto at hx
      rw [List.getElem?_map, List.getElem?_range hi] at hx
      exact (Option.some.inj hx).symm
    obtain ⟨hi, rfl⟩ := hil
    wtm_at "mine.wx"
    have P5 := P4.setX (o := .pred (rngIt (1 + v) (i + 1))) hpcI
    have x5 := x4.setI hI (o := .pred (rngIt (1 + v) (i + 1)))
    have R5 : RInv (H4.set I (.pred (rngIt (1 + v) (i + 1)))) l ts := R4.ext (ExtT.setP hI4) (fun as e => by rw [AHeap.set_ne _ _ hIl]; exact e)
    have hI5 : (H4.set I (.pred (rngIt (1 + v) (i + 1)))) I = some (.pred (rngIt (1 + v) (i + 1))) := AHeap.set_self _ _ _
    generalize H4.set I (.pred (rngIt (1 + v) (i + 1))) = H5 at P5 x5 R5 hI5 ⊢
    ((refine E_call (fa := 542) (by assumption) ?_ (by k_is) (by with_unfolding_all rfl) (by with_unfolding_all rfl); wtm_at "mine.w_name"; refine ⟨rfl, ?_⟩))
    wtm_at "mine.wx"
    refine Call_code (draw_spec (by assumption) P5 (by decide) (by decide) (by omega) fun w H6 w0 w1 x6 P6 => ?_)
    have R6 := R5.ext (ExtP.toT P5 x6) (fun as e => x6 _ _ (Ne.symm hpel) e)
    have x6' := x5.trans (x6.toX (S := [pe, l]) (by simp))
    have hI6 := x6 _ _ (Ne.symm hpeI) hI5
    wtm_at "mine.wx"
    refine' E_append ?ok ?_ _ ?hee ?he
    case hee => with_unfolding_all rfl
    case he => with_unfolding_all rfl
    case ok => assumption
    wtm_at "mine.wx"
    obtain ⟨as, hla, _⟩ := R6.ex
    refine ⟨l, as, rfl, hla, ?_⟩
    wtm_at "mine.wx"
    ((refine E_call (fa := 542) (by assumption) ?_ (by k_is) (by with_unfolding_all rfl) (by with_unfolding_all rfl); wtm_at "mine.w_name"; refine ⟨rfl, ?_⟩))
    wtm_at "mine.wx"
    refine Call_code (draw_spec (by assumption) P6 (by decide) (by decide) (by omega) fun gl H7 g0 g1 x7 P7 => ?_)
    have R7 := R6.ext (ExtP.toT P6 x7) (fun as e => x7 _ _ (Ne.symm hpel) e)
    have x7' := x6'.trans (x7.toX (S := [pe, l]) (by simp))
    have hI7 := x7 _ _ (Ne.symm hpeI) hI6
    wtm_at "mine.wx"
    ((refine E_call (fa := 542) (by assumption) ?_ (by k_is) (by with_unfolding_all rfl) (by with_unfolding_all rfl); wtm_at "mine.w_name"; refine ⟨rfl, ?_⟩))
    wtm_at "mine.wx"
    refine Call_code (draw_spec (by assumption) P7 (by decide) (by decide) (by omega) fun ad H8 a0 a1 x8 P8 => ?_)
    have R8 := R7.ext (ExtP.toT P7 x8) (fun as e => x8 _ _ (Ne.symm hpel) e)
    have x8' := x7'.trans (x8.toX (S := [pe, l]) (by simp))
    have hI8 := x8 _ _ (Ne.symm hpeI) hI7
    wtm_at "mine.wx"
    refine ⟨by simp, fun t ht => ?_⟩
    have R9 := R8.ext (ExtT.setN ht) (fun as e => set_get e ht (o' := .tup [.int (1 + gl), .int (20 + ad), .int 0]))
    have x9' := x8'.trans (Ext.toX [pe, l] ((Ext.refl _).set ht (o := .tup [.int (1 + gl), .int (20 + ad), .int 0])))
    have hI9 := set_get hI8 ht (o' := .tup [.int (1 + gl), .int (20 + ad), .int 0])
    have P9 := P8.ext ((Ext.refl _).set ht (o := .tup [.int (1 + gl), .int (20 + ad), .int 0]))
    have hT9 : TripAt (H8.set t (.tup [.int (1 + gl), .int (20 + ad), .int 0])) (.ref t) (1 + gl, 20 + ad, 0) := ⟨t, rfl, AHeap.set_self _ _ _⟩
    generalize H8.set t (.tup [.int (1 + gl), .int (20 + ad), .int 0]) = H9 at R9 x9' hI9 P9 hT9 ⊢
    obtain ⟨as9, hl9, hA9⟩ := R9.ex
    refine ⟨as9, hl9, by have := all2_length hA9; omega, ?_⟩
    have R10 := R9.push hT9 hl9
    have x10 := x9'.set (S := [pe, l]) (a := l) (o := .list (as9 ++ [.ref t])) (by simp)
    have P10 := P9.setX (o := .list (as9 ++ [.ref t])) hpcl
    have hI10 : (H9.set l (.list (as9 ++ [.ref t]))) I = some (.pred (rngIt (1 + v) (i + 1))) := by rw [AHeap.set_ne _ _ (Ne.symm hIl)]; exact hI9
    generalize H9.set l (.list (as9 ++ [.ref t])) = H10 at R10 x10 P10 hI10 ⊢
    clear hA9 hl9 R9 x9' hI9 P9 hT9 R8 x8' hI8 P8 R7 x7' hI7 P7
    wtm_at "mine.wx"
    refine loop_rng (by assumption) w w0 (by omega) ?_
    ((refine E_callT (T := "range") ?_ (by with_unfolding_all rfl) (by with_unfolding_all rfl); wtm_at "mine.w_name"; refine ⟨rfl, ?_⟩))
    wtm_at "mine.wx"
    refine F_range fun r2 hr2 => ?_
    refine ⟨r2, rfl, AHeap.set_self _ _ _, fun J hJ => ?_⟩
    have hr2' := hr2
    have P11 := (P10.setX (o := .rng w) (P10.neN hr2'))
    have x11 := x10.trans (Ext.toX [pe, l] ((Ext.refl _).set hr2' (o := .rng w)))
    have R11 := R10.ext (ExtT.setN hr2') (fun as e => set_get e hr2' (o' := .rng w))
    have hI11 := set_get hI10 hr2' (o' := .rng w)
    clear R10 x10 P10 hI10
    generalize H10.set r2 (.rng w) = H11 at P11 x11 R11 hI11 hJ ⊢
    have hpcJ := P11.neN hJ
    have hJ3 : l ≠ J := by
      obtain ⟨as, h, _⟩ := R11.ex
      exact ne_of h hJ
    have hIJ : I ≠ J := ne_of hI11 hJ
    have sh1 : RowSh (ts ++ [(1 + gl, 20 + ad, 0)]) := .snoc sh (.inl ⟨rfl, by show 1 + gl = 1 ∨ 1 + gl = 2; omega⟩)
    refine ⟨fun k ρ H' => ∃ us, PenOK H' pe cl (n + 4 + 11 * i + 2 * k) ∧ ExtX [pe, l] H11 H' ∧ RInv H' l us ∧ RowSh us ∧ us.length = ts.length + 1 + k ∧ (∃ t, us.getLast? = some t ∧ t.2.2 = (k : Int)) ∧ H' I = some (.pred (rngIt (1 + v) (i + 1))) ∧ (∃ P, H' J = some (.pred P)) ∧ ρ = [(Str.ofString "pen", .ref pe), (Str.ofString "row", .ref l)], ?_, ?_, ?_⟩
    · refine ⟨_, Sub.cons rfl (Sub.cons rfl Sub.nil), _, ?_, Ext.toX _ ((Ext.refl _).set hJ), R11.ext (ExtT.setN hJ) (fun as e => set_get e hJ), sh1, by simp, ⟨(1 + gl, 20 + ad, 0), by simp, rfl⟩, set_get hI11 hJ, ⟨_, AHeap.set_self _ _ _⟩, rfl⟩
      exact (P11.setX hpcJ (o := .pred (rngIt w 0))).up (by omega)
    · rintro k σ2 H12 hk ⟨us, P12, x12, R12, shu, lu, ⟨tl, htl, htk⟩, hI12, ⟨_, hpJ⟩, rfl⟩ hJ12
      wtm_at "mine.wx"
      have P13 := P12.setX (o := .pred (rngIt w (k + 1))) hpcJ
      have x13 := x12.setI hJ (o := .pred (rngIt w (k + 1)))
      have R13 := R12.ext (ExtT.setP hJ12 (o := .pred (rngIt w (k + 1)))) (fun as e => by rw [AHeap.set_ne _ _ hJ3]; exact e)
      have hI13 : (H12.set J (.pred (rngIt w (k + 1)))) I = some (.pred (rngIt (1 + v) (i + 1))) := by rw [AHeap.set_ne _ _ hIJ]; exact hI12
      have hJ13 : (H12.set J (.pred (rngIt w (k + 1)))) J = some (.pred (rngIt w (k + 1))) := AHeap.set_self _ _ _
      generalize H12.set J (.pred (rngIt w (k + 1))) = H13 at P13 x13 R13 hI13 hJ13 ⊢
      clear P12 x12 R12 hI12 hJ12
      refine' E_append ?ok ?_ _ ?hee ?he
      case hee => with_unfolding_all rfl
      case he => with_unfolding_all rfl
      case ok => assumption
      wtm_at "mine.wx"
      obtain ⟨as13, hla13, _⟩ := R13.ex
      refine ⟨l, as13, rfl, hla13, ?_⟩
      wtm_at "mine.wx"
      ((refine E_call (fa := 542) (by assumption) ?_ (by k_is) (by with_unfolding_all rfl) (by with_unfolding_all rfl); wtm_at "mine.w_name"; refine ⟨rfl, ?_⟩))
      wtm_at "mine.wx"
      refine Call_code (draw_spec (by assumption) P13 (by decide) (by decide) (by omega) fun g2 H14 g20 g21 x14 P14 => ?_)
      have R14 := R13.ext (ExtP.toT P13 x14) (fun as e => x14 _ _ (Ne.symm hpel) e)
      have x14' := x13.trans (x14.toX (S := [pe, l]) (by simp))
      have hI14 := x14 _ _ (Ne.symm hpeI) hI13
      have hJ14 := x14 _ _ (Ne.symm hpcJ.1) hJ13
      wtm_at "mine.wx"
      ((refine E_call (fa := 542) (by assumption) ?_ (by k_is) (by with_unfolding_all rfl) (by with_unfolding_all rfl); wtm_at "mine.w_name"; refine ⟨rfl, ?_⟩))
      wtm_at "mine.wx"
      refine Call_code (draw_spec (by assumption) P14 (by decide) (by decide) (by omega) fun a2 H15 a20 a21 x15 P15 => ?_)
      have R15 := R14.ext (ExtP.toT P14 x15) (fun as e => x15 _ _ (Ne.symm hpel) e)
      have x15' := x14'.trans (x15.toX (S := [pe, l]) (by simp))
      have hI15 := x15 _ _ (Ne.symm hpeI) hI14
      have hJ15 := x15 _ _ (Ne.symm hpcJ.1) hJ14
      wtm_at "mine.wx"
      refine O_mul (PySem.IntMulOk.of_right (by decide)) ?_
      wtm_at "mine.wx"
      refine ⟨by simp, fun t ht => ?_⟩
      have R16 := R15.ext (ExtT.setN ht) (fun as e => set_get e ht (o' := .tup [.int (6 + g2), .int (a2 * 3), .int ((k : Int) + 1)]))
      have x16' := x15'.trans (Ext.toX [pe, l] ((Ext.refl _).set ht (o := .tup [.int (6 + g2), .int (a2 * 3), .int ((k : Int) + 1)])))
      have hI16 := set_get hI15 ht (o' := .tup [.int (6 + g2), .int (a2 * 3), .int ((k : Int) + 1)])
      have hJ16 := set_get hJ15 ht (o' := .tup [.int (6 + g2), .int (a2 * 3), .int ((k : Int) + 1)])
      have P16 := P15.ext ((Ext.refl _).set ht (o := .tup [.int (6 + g2), .int (a2 * 3), .int ((k : Int) + 1)]))
      have hT16 : TripAt (H15.set t (.tup [.int (6 + g2), .int (a2 * 3), .int ((k : Int) + 1)])) (.ref t) (6 + g2, a2 * 3, (k : Int) + 1) := ⟨t, rfl, AHeap.set_self _ _ _⟩
      generalize H15.set t (.tup [.int (6 + g2), .int (a2 * 3), .int ((k : Int) + 1)]) = H16 at R16 x16' hI16 hJ16 P16 hT16 ⊢
      obtain ⟨as16, hl16, hA16⟩ := R16.ex
      refine ⟨as16, hl16, by have := all2_length hA16; omega, ?_⟩
      have R17 := R16.push hT16 hl16
      have x17 := x16'.set (S := [pe, l]) (a := l) (o := .list (as16 ++ [.ref t])) (by simp)
      have P17 := P16.setX (o := .list (as16 ++ [.ref t])) hpcl
      have hI17 : (H16.set l (.list (as16 ++ [.ref t]))) I = some (.pred (rngIt (1 + v) (i + 1))) := by rw [AHeap.set_ne _ _ (Ne.symm hIl)]; exact hI16
      have hJ17 : (H16.set l (.list (as16 ++ [.ref t]))) J = some (.pred (rngIt w (k + 1))) := by rw [AHeap.set_ne _ _ (Ne.symm hJ3)]; exact hJ16
      generalize H16.set l (.list (as16 ++ [.ref t])) = H17 at R17 x17 P17 hI17 hJ17 ⊢
      clear hA16 hl16 R16 x16' hI16 hJ16 P16 hT16 R15 x15' hI15 hJ15 P15 R14 x14' hI14 hJ14 P14
      wtm_at "mine.wx"
      refine ⟨⟨_, Sub.cons rfl (Sub.cons rfl Sub.nil), _, P17.up (by omega), x17, R17, shu.snoc ?_, by simp; omega, ⟨(6 + g2, a2 * 3, (k : Int) + 1), by simp, by show (k : Int) + 1 = _; omega⟩, hI17, ⟨_, hJ17⟩, rfl⟩, hJ17⟩
      refine .inr ⟨by show 0 < (k : Int) + 1; omega, by show 6 + g2 = 6 ∨ 6 + g2 = 7; omega, tl, htl, by rw [htk]; show (k : Int) = (k : Int) + 1 - 1; omega⟩
    · rintro σ2 H12 ⟨us, P12, x12, R12, shu, lu, ⟨tl, htl, htk⟩, hI12, ⟨_, hpJ⟩, rfl⟩
      wtm_at "mine.wx"
      have hIJ' : (H12.del J) I = some (.pred (rngIt (1 + v) (i + 1))) := by rw [AHeap.del_ne _ hIJ]; exact hI12
      refine ⟨⟨_, Sub.cons rfl (Sub.cons rfl Sub.nil), us, (P12.delX hpcJ).up (by omega), x11.trans (x12.delI hJ), R12.ext (ExtT.delP hpJ) (fun as e => by rw [AHeap.del_ne _ hJ3]; exact e), shu, by omega, by omega, ⟨_, hIJ'⟩, rfl⟩, hIJ', trivial⟩
  · rintro σ1 H4 ⟨ts, P4, x4, R4, sh, t1, t2, ⟨_, hpI⟩, rfl⟩ -
    have hu : (upto (1 + v)).length = (1 + v).toNat := by simp [upto]
    rw [hu] at P4 t1 t2
    wtm_at "mine.wx"
    refine q l ts _ ?_ ((P4.delX hpcI).up (by omega)) hl (R4.ext (ExtT.delP hpI) (fun as e => by rw [AHeap.del_ne _ hIl]; exact e)) sh (by omega) (by omega)
    intro a o ha e
    exact x4.delI hI a o (by simp; exact ⟨ha, fun q => by rw [q, hl] at e; cases e⟩) (xx3 a o ha e)

def plc (b : Bool) (xs : IRow) (k : Nat) : Int × Int := match xs[k]? with
  | some p => ((if b then sumXa xs (k + 1) xs.length else sumXa xs 0 k) + p.2.2.xo, p.2.2.yo)
  | none => (0, 0)
def PlAt (H : AHeap) (a : AV) (t : Int × Int) : Prop := ∃ l, a = .ref l ∧ H l = some (.tup [.int t.1, .int t.2])
theorem PlAt.ext {H H' a t} (h : PlAt H a t) (x : ExtT H H') : PlAt H' a t := let ⟨l, h1, h2⟩ := h; ⟨l, h1, x _ _ h2⟩
structure PInv (H' : AHeap) (l : Addr) (ts : List (Int × Int)) : Prop where
  ex : ∃ as, H' l = some (.list as) ∧ All2 (PlAt H') as ts
theorem PInv.push {H l ts} (h : PInv H l ts) {a t} (ha : PlAt H a t) {as} (hl : H l = some (.list as)) : PInv (H.set l (.list (as ++ [a]))) l (ts ++ [t]) := by
  obtain ⟨as', h1, h2⟩ := h.ex
  rw [hl] at h1; cases h1
  have x : ExtT H (H.set l (.list (as ++ [a]))) := ExtT.setL hl
  exact ⟨⟨_, AHeap.set_self _ _ _, all2_append (all2_mono h2 fun _ _ h => h.ext x) (.cons (ha.ext x) .nil)⟩⟩
theorem PInv.ext {H H' l ts} (h : PInv H l ts) (x : ExtT H H') (hl : ∀ as, H l = some (.list as) → H' l = some (.list as)) : PInv H' l ts := by
  obtain ⟨as, h1, h2⟩ := h.ex
  exact ⟨⟨as, hl _ h1, all2_mono h2 fun _ _ h => h.ext x⟩⟩
theorem nums_eq : ∀ {ys : List AV} {ks : List Int}, ys.length = ks.length → (∀ (i : Nat) (y : AV), ys[i]? = some y → ∃ k, ks[i]? = some k ∧ y = .int k) → Nums ys ks
  | [], [], _, _ => .nil
  | y :: ys, k :: ks, hl, h => by
    obtain ⟨k', e, rfl⟩ := h 0 y rfl
    have : k = k' := by simpa using e
    subst this
    exact .cons (nums_eq (by simpa using hl) fun i y e => by simpa using h (i + 1) y (by simpa using e))

theorem WE.mono {c : Cx} {env e σ H} {Q Q' : AV → AHeap → Prop} (h : WE c env e σ H Q) (hq : ∀ v H', Q v H' → Q' v H') : WE c env e σ H Q' := WV.mono h hq

theorem places_spec {c : Cx} {σ H d} {Q : AV → AHeap → Prop} (ok : c.OK (d + 1)) {A b} {xs : IRow} (S : StaticOK H A b) (R : RowOK H A.rl xs)
    (qq : ∀ l H', Ext H H' → H l = none → PInv H' l ((List.range xs.length).map (plc b xs)) → Q (.ref l) H') : WCode c (.ref 554) [.ref A.bu, .bool b] σ H Q := by
  have hbu := S.bu
  have hbud := S.bud
  ((refine' F_def (by assumption) ?ho_117 ?hcd_117 ?hb_117 ?h1_117 ?h2_117 ?h3_117 ?h4_117 ?_; (case ho_117 => k_is); (case hcd_117 => k_is); (case hb_117 => (first | exact bn0 ⟨_, fun s _ => BindsTo.of_eq rfl, locs rfl, KB.knows .nil⟩ | exact bn1 fun _ i1 => ⟨_, fun s _ => BindsTo.of_eq rfl, locs rfl, KB.knows (.cons i1 .nil)⟩ | exact bn2 fun _ i1 _ i2 => ⟨_, fun s _ => BindsTo.of_eq rfl, locs rfl, KB.knows (.cons i2 (.cons i1 .nil))⟩ | exact bn3 fun _ i1 _ i2 _ i3 => ⟨_, fun s _ => BindsTo.of_eq rfl, locs rfl, KB.knows (.cons i3 (.cons i2 (.cons i1 .nil)))⟩ | exact bn4 fun _ i1 _ i2 _ i3 _ i4 => ⟨_, fun s _ => BindsTo.of_eq rfl, locs rfl, KB.knows (.cons i4 (.cons i3 (.cons i2 (.cons i1 .nil))))⟩ | exact bn5 fun _ i1 _ i2 _ i3 _ i4 _ i5 => ⟨_, fun s _ => BindsTo.of_eq rfl, locs rfl, KB.knows (.cons i5 (.cons i4 (.cons i3 (.cons i2 (.cons i1 .nil)))))⟩ | exact bn6 fun _ i1 _ i2 _ i3 _ i4 _ i5 _ i6 => ⟨_, fun s _ => BindsTo.of_eq rfl, locs rfl, KB.knows (.cons i6 (.cons i5 (.cons i4 (.cons i3 (.cons i2 (.cons i1 .nil))))))⟩)); (case h1_117 => exact rfl); (case h2_117 => exact rfl); (case h3_117 => exact rfl); (case h4_117 => decide)))
  intro A' L' g ok'
  wtm_at "mine.wx"
  refine ⟨by simp, fun l hl => ?_⟩
  have x1 : Ext H (H.set l (.list [])) := (Ext.refl _).set hl
  have hl1 : (H.set l (.list [])) l = some (.list []) := AHeap.set_self _ _ _
  generalize H.set l (.list []) = H1 at x1 hl1
  have S1 := S.ext x1
  have R1 := R.ext x1
  have hbu1 := S1.bu
  have hbud1 := S1.bud
  wtm_at "mine.wx"
  refine loop_rng (by assumption) xs.length (by omega) (by have := R.len; omega) ?_
  ((refine E_callT (T := "range") ?_ (by with_unfolding_all rfl) (by with_unfolding_all rfl); wtm_at "mine.w_name"; refine ⟨rfl, ?_⟩))
  wtm_at "mine.wx"
  ((refine E_callB (id := "len") ?_ (by with_unfolding_all rfl) (by with_unfolding_all rfl); wtm_at "mine.w_name"; refine ⟨rfl, ?_⟩))
  wtm_at "mine.wx"
  refine F_len R1.rl (by simp; have := R.len; omega) ?_
  wtm_at "mine.wx"
  rw [show ((List.map (fun p : Addr × Addr × IR => AV.ref p.1) xs).length : Int) = (xs.length : Int) by simp]
  refine F_range fun r hr => ?_
  refine ⟨r, rfl, AHeap.set_self _ _ _, fun I hI => ?_⟩
  have hrI := set_none hI
  have hlI : l ≠ I := ne_of hl1 hrI.1
  have hrl : l ≠ r := ne_of hl1 hr
  have HI : H I = none := none_back x1 hrI.1
  refine ⟨fun i ρ H' => Ext H H' ∧ PInv H' l ((List.range i).map (plc b xs)) ∧ (∃ P, H' I = some (.pred P)) ∧ ρ = [(Str.ofString "found", .ref l), (Str.ofString "is_backward", .bool b), (Str.ofString "buffer", .ref A.bu)], ⟨_, Sub.cons rfl (Sub.cons rfl (Sub.cons rfl Sub.nil)), (x1.set hr).setI HI, ?_, ⟨_, AHeap.set_self _ _ _⟩, rfl⟩, ?_, ?_⟩
  · refine ⟨⟨[], ?_, .nil⟩⟩
    rw [AHeap.set_ne _ _ hlI, AHeap.set_ne _ _ hrl]; exact hl1
  · rintro i σ1 H4 hi ⟨x4, P4, _, rfl⟩ hI4
    have hi' : i < xs.length := by omega
    have x5 := x4.setI HI (o := .pred (rngIt xs.length (i + 1)))
    have P5 := P4.ext (ExtT.setP hI4 (o := .pred (rngIt xs.length (i + 1)))) (fun as e => by rw [AHeap.set_ne _ _ hlI]; exact e)
    have hI5 : (H4.set I (.pred (rngIt xs.length (i + 1)))) I = some (.pred (rngIt xs.length (i + 1))) := AHeap.set_self _ _ _
    wtm_at "mine.w_store"
    generalize H4.set I (.pred (rngIt xs.length (i + 1))) = H5 at x5 P5 hI5 ⊢
    have S5 := S.ext x5
    have R5 := R.ext x5
    have hbu5 := S5.bu
    have hbud5 := S5.bud
    obtain ⟨p, hp⟩ : ∃ p, xs[i]? = some p := ⟨xs[i], List.getElem?_eq_getElem hi'⟩
    have hxl := R.len
    with_reducible refine WSb_in (fun Q9 k9 => ?_)
    with_reducible refine S_assign0 ?_
    refine WE.mono (Q := fun a H6 => ∃ ar i0 m, a = .ref ar ∧ Ext H5 H6 ∧ H6 ar = some (.list (((xs.map fun p => AV.ref p.1).drop i0).take m)) ∧ i0 + m ≤ xs.length ∧ sumXa xs i0 m = (if b then sumXa xs (i + 1) xs.length else sumXa xs 0 i)) ?_ ?_
    · wtm_at "mine.wx"
      refine ⟨fun e => ?_, fun e => ?_⟩
      · wtm_at "mine.wx"
        refine ⟨_, _, _, rfl, rfl, R5.rl, by omega, by simp; omega, fun ar har => ⟨ar, i + 1, xs.length - (i + 1), rfl, (Ext.refl _).set har, ?_, by omega, ?_⟩⟩
        · rw [AHeap.set_self, List.take_of_length_le (by simp), show ((i : Int) + 1).toNat = i + 1 by omega]
        · rw [e, if_pos rfl]; unfold sumXa; rw [List.take_of_length_le (by simp), List.take_of_length_le (by simp)]
      · wtm_at "mine.wx"
        refine ⟨_, _, _, rfl, rfl, R5.rl, by omega, by simp; omega, fun ar har => ⟨ar, 0, i, rfl, (Ext.refl _).set har, ?_, by omega, ?_⟩⟩
        · rw [AHeap.set_self, List.drop_zero, Int.toNat_natCast]
        · rw [e]; simp
    rintro _ H6 ⟨ar, i0, m, rfl, x6, har, him, hsum⟩
    have S6 := S5.ext x6
    have R6 := R5.ext x6
    have hbu6 := S6.bu
    have hbud6 := S6.bud
    have hI6 := x6 _ _ hI5
    have P6 := P5.ext (Ext.toT x6) (fun as e => x6 _ _ e)
    obtain ⟨hpi, u, hpid⟩ := R6.at_ _ _ hp
    wtm_at "mine.wx"
    refine I_row R6 hp rfl ?_
    wtm_at "mine.wx"
    refine' E_append ?ok ?_ _ ?hee ?he
    case hee => with_unfolding_all rfl
    case he => with_unfolding_all rfl
    case ok => assumption
    wtm_at "mine.wx"
    obtain ⟨as6, hla6, _⟩ := P6.ex
    refine ⟨l, as6, rfl, hla6, ?_⟩
    wtm_at "mine.wx"
    ((refine E_callB (id := "sum") ?_ (by with_unfolding_all rfl) (by with_unfolding_all rfl); wtm_at "mine.w_name"; refine ⟨rfl, ?_⟩))
    wtm_at "mine.wx"
    generalize hzs : List.take m (List.drop i0 (List.map (fun p : Addr × Addr × IR => AV.ref p.1) xs)) = zs at *
    have hz : ∀ (i : Nat) (a : AV), zs[i]? = some a → ∃ p, xs[i0 + i]? = some p ∧ i < m ∧ a = .ref p.1 := by
      intro i a e
      rw [← hzs, List.getElem?_take] at e
      split at e
      · rw [List.getElem?_drop, List.getElem?_map, Option.map_eq_some_iff] at e
        obtain ⟨p, hp, rfl⟩ := e
        exact ⟨p, by simpa using hp, by assumption, rfl⟩
      · cases e
    have hzl : zs.length = m := by rw [← hzs]; simp; omega
    refine comp_all (cl := []) (by assumption) zs (fun i y H' => ∃ p, xs[i0 + i]? = some p ∧ i < m ∧ y = .int p.2.2.xa) (fun _ _ _ _ _ h => h) rfl (by decide) rfl (by decide) rfl ?_
    wtm_at "mine.wx"
    refine ⟨by omega, ItG_list (by assumption) har, fun k a C H7 hx x7 hC => ?_, fun D ys H7 x7 hD hys hlen hP => ?_⟩
    · obtain ⟨p', hp', hkm, rfl⟩ := hz k a hx
      obtain ⟨hi, u, hid⟩ := (R6.ext x7).at_ _ _ hp'
      (wtm_at "mine.wx")
      exact ⟨Ext.refl _, _, hp', hkm, rfl⟩
    have hn : Nums ys (((xs.drop i0).take m).map fun p => p.2.2.xa) := by
      refine nums_eq (by simp; omega) fun k y e => ?_
      obtain ⟨p', hp', hkm, rfl⟩ := hP k y e
      refine ⟨p'.2.2.xa, ?_, rfl⟩
      rw [List.getElem?_map, List.getElem?_take, if_pos hkm, List.getElem?_drop, hp']; rfl
    wtm_at "mine.wx"
    refine F_sum (by assumption) hys hn ?_
    have hI7 := x7 _ _ hI6
    have P7 := P6.ext (Ext.toT x7) (fun as e => x7 _ _ e)
    have hpi7 := x7 _ _ hpi
    have hpid7 := x7 _ _ hpid
    have x57 := (x5.trans x6).trans x7
    wtm_at "mine.wx"
    refine ⟨by simp, fun t ht => ?_⟩
    have hv : plc b xs i = ((List.map (fun p => p.2.2.xa) (List.take m (List.drop i0 xs))).sum + p.2.2.xo, p.2.2.yo) := by
      unfold plc; rw [hp]; dsimp only; rw [← hsum]; rfl
    have hT : PlAt (H7.set t (.tup [.int ((List.map (fun p => p.2.2.xa) (List.take m (List.drop i0 xs))).sum + p.2.2.xo), .int p.2.2.yo])) (.ref t) (plc b xs i) := ⟨t, rfl, by rw [hv]; exact AHeap.set_self _ _ _⟩
    have P8 := P7.ext (ExtT.setN ht) (fun as e => set_get e ht (o' := (.tup [.int ((List.map (fun p => p.2.2.xa) (List.take m (List.drop i0 xs))).sum + p.2.2.xo), .int p.2.2.yo])))
    have hI8 := set_get hI7 ht (o' := (.tup [.int ((List.map (fun p => p.2.2.xa) (List.take m (List.drop i0 xs))).sum + p.2.2.xo), .int p.2.2.yo]))
    have x8 := x57.set ht (o := (.tup [.int ((List.map (fun p => p.2.2.xa) (List.take m (List.drop i0 xs))).sum + p.2.2.xo), .int p.2.2.yo]))
    generalize H7.set t (.tup [.int ((List.map (fun p => p.2.2.xa) (List.take m (List.drop i0 xs))).sum + p.2.2.xo), .int p.2.2.yo]) = H8 at hT P8 hI8 x8 ⊢
    obtain ⟨as8, hla8, hA8⟩ := P8.ex
    refine ⟨as8, hla8, by have := all2_length hA8; simp at this; omega, ?_⟩
    have P9 := P8.push hT hla8
    have hI9 : (H8.set l (.list (as8 ++ [.ref t]))) I = some (.pred (rngIt xs.length (i + 1))) := by rw [AHeap.set_ne _ _ (Ne.symm hlI)]; exact hI8
    have x9 := x8.setI hl (o := .list (as8 ++ [.ref t]))
    generalize H8.set l (.list (as8 ++ [.ref t])) = H9 at P9 hI9 x9 ⊢
    wtm_at "mine.wx"
    refine ⟨⟨_, Sub.cons rfl (Sub.cons rfl (Sub.cons rfl Sub.nil)), x9, ?_, ⟨_, hI9⟩, rfl⟩, hI9⟩
    rw [List.range_succ, List.map_append]; exact P9
  · rintro σ1 H4 ⟨x4, P4, ⟨_, hpI⟩, rfl⟩
    wtm_at "mine.wx"
    rw [Int.toNat_natCast] at P4
    exact qq l _ (x4.del HI) hl (P4.ext (ExtT.delP hpI) (fun as e => by rw [AHeap.del_ne _ hlI]; exact e))

theorem new_ext2 {H H' : AHeap} {x dx : Addr} {o o' : AO} (hx : H x = none) (hdx : H dx = none) (h : ∀ a, a ≠ dx → H' a = ((H.set dx o).set x o') a) : Ext H H' := new_ext hx hdx h
theorem set_keep {H : AHeap} {dx o} : ∀ a, a ≠ dx → (H.set dx o) a = H a := fun a ha => by simp [AHeap.set, ha]

theorem anchor_init {c : Cx} {σ H d} {Q : AV → AHeap → Prop} (ok : c.OK (d + 1)) {x dx : Addr} {a b : Int} (hx : H x = some (.inst 45 dx)) (hd : H dx = some (.ns [])) (hne : x ≠ dx)
    (q : ∀ H', (∀ a, a ≠ dx → H' a = H a) → H' dx = some (.ns (anc a b)) → Q .none H') : WCode c (.ref 35) [.ref x, .int a, .int b] σ H Q := by
  ((refine' F_def (by assumption) ?ho_123 ?hcd_123 ?hb_123 ?h1_123 ?h2_123 ?h3_123 ?h4_123 ?_; (case ho_123 => k_is); (case hcd_123 => k_is); (case hb_123 => (first | exact bn0 ⟨_, fun s _ => BindsTo.of_eq rfl, locs rfl, KB.knows .nil⟩ | exact bn1 fun _ i1 => ⟨_, fun s _ => BindsTo.of_eq rfl, locs rfl, KB.knows (.cons i1 .nil)⟩ | exact bn2 fun _ i1 _ i2 => ⟨_, fun s _ => BindsTo.of_eq rfl, locs rfl, KB.knows (.cons i2 (.cons i1 .nil))⟩ | exact bn3 fun _ i1 _ i2 _ i3 => ⟨_, fun s _ => BindsTo.of_eq rfl, locs rfl, KB.knows (.cons i3 (.cons i2 (.cons i1 .nil)))⟩ | exact bn4 fun _ i1 _ i2 _ i3 _ i4 => ⟨_, fun s _ => BindsTo.of_eq rfl, locs rfl, KB.knows (.cons i4 (.cons i3 (.cons i2 (.cons i1 .nil))))⟩ | exact bn5 fun _ i1 _ i2 _ i3 _ i4 _ i5 => ⟨_, fun s _ => BindsTo.of_eq rfl, locs rfl, KB.knows (.cons i5 (.cons i4 (.cons i3 (.cons i2 (.cons i1 .nil)))))⟩ | exact bn6 fun _ i1 _ i2 _ i3 _ i4 _ i5 _ i6 => ⟨_, fun s _ => BindsTo.of_eq rfl, locs rfl, KB.knows (.cons i6 (.cons i5 (.cons i4 (.cons i3 (.cons i2 (.cons i1 .nil))))))⟩)); (case h1_123 => exact rfl); (case h2_123 => exact rfl); (case h3_123 => exact rfl); (case h4_123 => decide)))
  intro A' L' g ok'
  wtm_at "mine.wx"
  exact q _ (fun a ha => by simp [AHeap.set, ha]) (AHeap.set_self _ _ _)
theorem mk_anchor {c : Cx} {σ H d} {Q : AV → AHeap → Prop} (ok : c.OK (d + 2)) {a b : Int}
    (q : ∀ x dx H', Ext H H' → H x = none → H' x = some (.inst 45 dx) → H' dx = some (.ns (anc a b)) → Q (.ref x) H') : WCall c (.ref 45) [.int a, .int b] σ H Q := by
  refine F_cls ok (by k_is) (by k_is) (by k_is) fun A' x dx ok2 hx hdx hne => ?_
  refine anchor_init ok2 (AHeap.set_self _ _ _) ((AHeap.set_ne _ _ (Ne.symm hne)).trans (AHeap.set_self _ _ _)) hne fun H' hk hn => ?_
  exact ⟨rfl, q x dx H' (new_ext hx hdx hk) hx ((hk x hne).trans (AHeap.set_self _ _ _)) hn⟩

theorem class_init {c : Cx} {σ H d} {Q : AV → AHeap → Prop} (ok : c.OK (d + 1)) {x dx l : Addr} (hx : H x = some (.inst 478 dx)) (hd : H dx = some (.ns [])) (hne : x ≠ dx)
    (q : ∀ H', (∀ a, a ≠ dx → H' a = H a) → H' dx = some (.ns [(Str.ofString "classes", .ref l)]) → Q .none H') : WCode c (.ref 449) [.ref x, .ref l] σ H Q := by
  ((refine' F_def (by assumption) ?ho_125 ?hcd_125 ?hb_125 ?h1_125 ?h2_125 ?h3_125 ?h4_125 ?_; (case ho_125 => k_is); (case hcd_125 => k_is); (case hb_125 => (first | exact bn0 ⟨_, fun s _ => BindsTo.of_eq rfl, locs rfl, KB.knows .nil⟩ | exact bn1 fun _ i1 => ⟨_, fun s _ => BindsTo.of_eq rfl, locs rfl, KB.knows (.cons i1 .nil)⟩ | exact bn2 fun _ i1 _ i2 => ⟨_, fun s _ => BindsTo.of_eq rfl, locs rfl, KB.knows (.cons i2 (.cons i1 .nil))⟩ | exact bn3 fun _ i1 _ i2 _ i3 => ⟨_, fun s _ => BindsTo.of_eq rfl, locs rfl, KB.knows (.cons i3 (.cons i2 (.cons i1 .nil)))⟩ | exact bn4 fun _ i1 _ i2 _ i3 _ i4 => ⟨_, fun s _ => BindsTo.of_eq rfl, locs rfl, KB.knows (.cons i4 (.cons i3 (.cons i2 (.cons i1 .nil))))⟩ | exact bn5 fun _ i1 _ i2 _ i3 _ i4 _ i5 => ⟨_, fun s _ => BindsTo.of_eq rfl, locs rfl, KB.knows (.cons i5 (.cons i4 (.cons i3 (.cons i2 (.cons i1 .nil)))))⟩ | exact bn6 fun _ i1 _ i2 _ i3 _ i4 _ i5 _ i6 => ⟨_, fun s _ => BindsTo.of_eq rfl, locs rfl, KB.knows (.cons i6 (.cons i5 (.cons i4 (.cons i3 (.cons i2 (.cons i1 .nil))))))⟩)); (case h1_125 => exact rfl); (case h2_125 => exact rfl); (case h3_125 => exact rfl); (case h4_125 => decide)))
  intro A' L' g ok'
  wtm_at "mine.wx"
  exact q _ (fun a ha => by simp [AHeap.set, ha]) (AHeap.set_self _ _ _)
theorem mk_class {c : Cx} {σ H d} {Q : AV → AHeap → Prop} (ok : c.OK (d + 2)) {l : Addr}
    (q : ∀ x dx H', Ext H H' → H x = none → H' x = some (.inst 478 dx) → H' dx = some (.ns [(Str.ofString "classes", .ref l)]) → Q (.ref x) H') : WCall c (.ref 478) [.ref l] σ H Q := by
  refine F_cls ok (by k_is) (by k_is) (by k_is) fun A' x dx ok2 hx hdx hne => ?_
  refine class_init ok2 (AHeap.set_self _ _ _) ((AHeap.set_ne _ _ (Ne.symm hne)).trans (AHeap.set_self _ _ _)) hne fun H' hk hn => ?_
  exact ⟨rfl, q x dx H' (new_ext hx hdx hk) hx ((hk x hne).trans (AHeap.set_self _ _ _)) hn⟩

theorem mb_init {c : Cx} {σ H d} {Q : AV → AHeap → Prop} (ok : c.OK (d + 1)) {x dx l m : Addr} (hx : H x = some (.inst 312 dx)) (hd : H dx = some (.ns [])) (hne : x ≠ dx)
    (q : ∀ H', (∀ a, a ≠ dx → H' a = H a) → H' dx = some (.ns [(Str.ofString "marks", .ref l), (Str.ofString "bases", .ref m)]) → Q .none H') : WCode c (.ref 302) [.ref x, .ref l, .ref m] σ H Q := by
  ((refine' F_def (by assumption) ?ho_127 ?hcd_127 ?hb_127 ?h1_127 ?h2_127 ?h3_127 ?h4_127 ?_; (case ho_127 => k_is); (case hcd_127 => k_is); (case hb_127 => (first | exact bn0 ⟨_, fun s _ => BindsTo.of_eq rfl, locs rfl, KB.knows .nil⟩ | exact bn1 fun _ i1 => ⟨_, fun s _ => BindsTo.of_eq rfl, locs rfl, KB.knows (.cons i1 .nil)⟩ | exact bn2 fun _ i1 _ i2 => ⟨_, fun s _ => BindsTo.of_eq rfl, locs rfl, KB.knows (.cons i2 (.cons i1 .nil))⟩ | exact bn3 fun _ i1 _ i2 _ i3 => ⟨_, fun s _ => BindsTo.of_eq rfl, locs rfl, KB.knows (.cons i3 (.cons i2 (.cons i1 .nil)))⟩ | exact bn4 fun _ i1 _ i2 _ i3 _ i4 => ⟨_, fun s _ => BindsTo.of_eq rfl, locs rfl, KB.knows (.cons i4 (.cons i3 (.cons i2 (.cons i1 .nil))))⟩ | exact bn5 fun _ i1 _ i2 _ i3 _ i4 _ i5 => ⟨_, fun s _ => BindsTo.of_eq rfl, locs rfl, KB.knows (.cons i5 (.cons i4 (.cons i3 (.cons i2 (.cons i1 .nil)))))⟩ | exact bn6 fun _ i1 _ i2 _ i3 _ i4 _ i5 _ i6 => ⟨_, fun s _ => BindsTo.of_eq rfl, locs rfl, KB.knows (.cons i6 (.cons i5 (.cons i4 (.cons i3 (.cons i2 (.cons i1 .nil))))))⟩)); (case h1_127 => exact rfl); (case h2_127 => exact rfl); (case h3_127 => exact rfl); (case h4_127 => decide)))
  intro A' L' g ok'
  wtm_at "mine.wx"
  exact q _ (fun a ha => by simp [AHeap.set, ha]) (AHeap.set_self _ _ _)
theorem mk_mb {c : Cx} {σ H d} {Q : AV → AHeap → Prop} (ok : c.OK (d + 2)) {l m : Addr}
    (q : ∀ x dx H', Ext H H' → H x = none → H' x = some (.inst 312 dx) → H' dx = some (.ns [(Str.ofString "marks", .ref l), (Str.ofString "bases", .ref m)]) → Q (.ref x) H') : WCall c (.ref 312) [.ref l, .ref m] σ H Q := by
  refine F_cls ok (by k_is) (by k_is) (by k_is) fun A' x dx ok2 hx hdx hne => ?_
  refine mb_init ok2 (AHeap.set_self _ _ _) ((AHeap.set_ne _ _ (Ne.symm hne)).trans (AHeap.set_self _ _ _)) hne fun H' hk hn => ?_
  exact ⟨rfl, q x dx H' (new_ext hx hdx hk) hx ((hk x hne).trans (AHeap.set_self _ _ _)) hn⟩
theorem mm_init {c : Cx} {σ H d} {Q : AV → AHeap → Prop} (ok : c.OK (d + 1)) {x dx l m : Addr} (hx : H x = some (.inst 340 dx)) (hd : H dx = some (.ns [])) (hne : x ≠ dx)
    (q : ∀ H', (∀ a, a ≠ dx → H' a = H a) → H' dx = some (.ns [(Str.ofString "marks", .ref l), (Str.ofString "others", .ref m)]) → Q .none H') : WCode c (.ref 330) [.ref x, .ref l, .ref m] σ H Q := by
  ((refine' F_def (by assumption) ?ho_129 ?hcd_129 ?hb_129 ?h1_129 ?h2_129 ?h3_129 ?h4_129 ?_; (case ho_129 => k_is); (case hcd_129 => k_is); (case hb_129 => (first | exact bn0 ⟨_, fun s _ => BindsTo.of_eq rfl, locs rfl, KB.knows .nil⟩ | exact bn1 fun _ i1 => ⟨_, fun s _ => BindsTo.of_eq rfl, locs rfl, KB.knows (.cons i1 .nil)⟩ | exact bn2 fun _ i1 _ i2 => ⟨_, fun s _ => BindsTo.of_eq rfl, locs rfl, KB.knows (.cons i2 (.cons i1 .nil))⟩ | exact bn3 fun _ i1 _ i2 _ i3 => ⟨_, fun s _ => BindsTo.of_eq rfl, locs rfl, KB.knows (.cons i3 (.cons i2 (.cons i1 .nil)))⟩ | exact bn4 fun _ i1 _ i2 _ i3 _ i4 => ⟨_, fun s _ => BindsTo.of_eq rfl, locs rfl, KB.knows (.cons i4 (.cons i3 (.cons i2 (.cons i1 .nil))))⟩ | exact bn5 fun _ i1 _ i2 _ i3 _ i4 _ i5 => ⟨_, fun s _ => BindsTo.of_eq rfl, locs rfl, KB.knows (.cons i5 (.cons i4 (.cons i3 (.cons i2 (.cons i1 .nil)))))⟩ | exact bn6 fun _ i1 _ i2 _ i3 _ i4 _ i5 _ i6 => ⟨_, fun s _ => BindsTo.of_eq rfl, locs rfl, KB.knows (.cons i6 (.cons i5 (.cons i4 (.cons i3 (.cons i2 (.cons i1 .nil))))))⟩)); (case h1_129 => exact rfl); (case h2_129 => exact rfl); (case h3_129 => exact rfl); (case h4_129 => decide)))
  intro A' L' g ok'
  wtm_at "mine.wx"
  exact q _ (fun a ha => by simp [AHeap.set, ha]) (AHeap.set_self _ _ _)
theorem mk_mm {c : Cx} {σ H d} {Q : AV → AHeap → Prop} (ok : c.OK (d + 2)) {l m : Addr}
    (q : ∀ x dx H', Ext H H' → H x = none → H' x = some (.inst 340 dx) → H' dx = some (.ns [(Str.ofString "marks", .ref l), (Str.ofString "others", .ref m)]) → Q (.ref x) H') : WCall c (.ref 340) [.ref l, .ref m] σ H Q := by
  refine F_cls ok (by k_is) (by k_is) (by k_is) fun A' x dx ok2 hx hdx hne => ?_
  refine mm_init ok2 (AHeap.set_self _ _ _) ((AHeap.set_ne _ _ (Ne.symm hne)).trans (AHeap.set_self _ _ _)) hne fun H' hk hn => ?_
  exact ⟨rfl, q x dx H' (new_ext hx hdx hk) hx ((hk x hne).trans (AHeap.set_self _ _ _)) hn⟩

def infoF0 (g k : Int) : List (Str × AV) := [(Str.ofString "code", .int 97), (Str.ofString "glyph", .int g), (Str.ofString "cluster", .int k), (Str.ofString "mask", .int 0), (Str.ofString "is_unsafe", .bool false), (Str.ofString "lig_id", .int 0), (Str.ofString "lig_part", .int 0), (Str.ofString "lig_count", .int 0), (Str.ofString "split_id", .int 0), (Str.ofString "kind", .str (Str.ofString "")), (Str.ofString "x_advance", .int 0), (Str.ofString "y_advance", .int 0), (Str.ofString "x_offset", .int 0), (Str.ofString "y_offset", .int 0), (Str.ofString "parent", .int 0), (Str.ofString "bond", .str (Str.ofString ""))]
set_option maxHeartbeats 4000000 in
theorem info_init {c : Cx} {σ H d} {Q : AV → AHeap → Prop} (ok : c.OK (d + 1)) {x dx : Addr} {g k : Int} (hx : H x = some (.inst 175 dx)) (hd : H dx = some (.ns [])) (hne : x ≠ dx)
    (q : ∀ H', (∀ a, a ≠ dx → H' a = H a) → H' dx = some (.ns (infoF0 g k)) → Q .none H') : WCode c (.ref 158) [.ref x, .int 97, .int g, .int k] σ H Q := by
  ((refine' F_def (by assumption) ?ho_131 ?hcd_131 ?hb_131 ?h1_131 ?h2_131 ?h3_131 ?h4_131 ?_; (case ho_131 => k_is); (case hcd_131 => k_is); (case hb_131 => (first | exact bn0 ⟨_, fun s _ => BindsTo.of_eq rfl, locs rfl, KB.knows .nil⟩ | exact bn1 fun _ i1 => ⟨_, fun s _ => BindsTo.of_eq rfl, locs rfl, KB.knows (.cons i1 .nil)⟩ | exact bn2 fun _ i1 _ i2 => ⟨_, fun s _ => BindsTo.of_eq rfl, locs rfl, KB.knows (.cons i2 (.cons i1 .nil))⟩ | exact bn3 fun _ i1 _ i2 _ i3 => ⟨_, fun s _ => BindsTo.of_eq rfl, locs rfl, KB.knows (.cons i3 (.cons i2 (.cons i1 .nil)))⟩ | exact bn4 fun _ i1 _ i2 _ i3 _ i4 => ⟨_, fun s _ => BindsTo.of_eq rfl, locs rfl, KB.knows (.cons i4 (.cons i3 (.cons i2 (.cons i1 .nil))))⟩ | exact bn5 fun _ i1 _ i2 _ i3 _ i4 _ i5 => ⟨_, fun s _ => BindsTo.of_eq rfl, locs rfl, KB.knows (.cons i5 (.cons i4 (.cons i3 (.cons i2 (.cons i1 .nil)))))⟩ | exact bn6 fun _ i1 _ i2 _ i3 _ i4 _ i5 _ i6 => ⟨_, fun s _ => BindsTo.of_eq rfl, locs rfl, KB.knows (.cons i6 (.cons i5 (.cons i4 (.cons i3 (.cons i2 (.cons i1 .nil))))))⟩)); (case h1_131 => exact rfl); (case h2_131 => exact rfl); (case h3_131 => exact rfl); (case h4_131 => decide)))
  intro A' L' g ok'
  wtm_at "mine.wx"
  simp only [AHeap.set_set, List.nil_append, List.cons_append]
  exact q _ set_keep (AHeap.set_self _ _ _)
theorem mk_info {c : Cx} {σ H d} {Q : AV → AHeap → Prop} (ok : c.OK (d + 2)) {g k : Int}
    (q : ∀ x dx H', Ext H H' → H x = none → H dx = none → x ≠ dx → H' x = some (.inst 175 dx) → H' dx = some (.ns (infoF0 g k)) → Q (.ref x) H') : WCall c (.ref 175) [.int 97, .int g, .int k] σ H Q := by
  refine F_cls ok (by k_is) (by k_is) (by k_is) fun A' x dx ok2 hx hdx hne => ?_
  refine info_init ok2 (AHeap.set_self _ _ _) ((AHeap.set_ne _ _ (Ne.symm hne)).trans (AHeap.set_self _ _ _)) hne fun H' hk hn => ?_
  exact ⟨rfl, q x dx H' (new_ext hx hdx hk) hx hdx hne ((hk x hne).trans (AHeap.set_self _ _ _)) hn⟩

theorem buf_init {c : Cx} {σ H d} {Q : AV → AHeap → Prop} (ok : c.OK (d + 1)) {x dx l : Addr} {b : Bool} (hx : H x = some (.inst 228 dx)) (hd : H dx = some (.ns [])) (hne : x ≠ dx)
    (q : ∀ H', (∀ a, a ≠ dx → H' a = H a) → H' dx = some (.ns (bufF l b)) → Q .none H') : WCode c (.ref 194) [.ref x, .ref l, .bool b] σ H Q := by
  ((refine' F_def (by assumption) ?ho_133 ?hcd_133 ?hb_133 ?h1_133 ?h2_133 ?h3_133 ?h4_133 ?_; (case ho_133 => k_is); (case hcd_133 => k_is); (case hb_133 => exact bn3 fun _ i1 _ i2 _ i3 => ⟨_, fun s X => binds_K X rfl (by k_is) rfl rfl rfl, locs rfl, KB.knows (.cons i3 (.cons i2 (.cons i1 .nil)))⟩); (case h1_133 => exact rfl); (case h2_133 => exact rfl); (case h3_133 => exact rfl); (case h4_133 => decide)))
  intro A' L' g ok'
  wtm_at "mine.wx"
  exact q _ (fun a ha => by simp [AHeap.set, ha]) (AHeap.set_self _ _ _)
theorem mk_buf {c : Cx} {σ H d} {Q : AV → AHeap → Prop} (ok : c.OK (d + 2)) {l : Addr} {b : Bool}
    (q : ∀ x dx H', Ext H H' → H x = none → H' x = some (.inst 228 dx) → H' dx = some (.ns (bufF l b)) → Q (.ref x) H') : WCall c (.ref 228) [.ref l, .bool b] σ H Q := by
  refine F_cls ok (by k_is) (by k_is) (by k_is) fun A' x dx ok2 hx hdx hne => ?_
  refine buf_init ok2 (AHeap.set_self _ _ _) ((AHeap.set_ne _ _ (Ne.symm hne)).trans (AHeap.set_self _ _ _)) hne fun H' hk hn => ?_
  exact ⟨rfl, q x dx H' (new_ext hx hdx hk) hx ((hk x hne).trans (AHeap.set_self _ _ _)) hn⟩

theorem scene_init6 {c : Cx} {σ H d} {Q : AV → AHeap → Prop} (ok : c.OK (d + 1)) {x dx : Addr} {A : Sc} {b lk : Addr} (hx : H x = some (.inst 112 dx)) (hd : H dx = some (.ns [])) (hne : x ≠ dx)
    (q : ∀ H' st, (∀ a, a ≠ dx → H a ≠ none → H' a = H a) → H' dx = some (.ns (sceneF A b b lk 0 st)) → Q .none H') : WCode c (.ref 109) [.ref x, .ref A.bu, .ref A.gd, .ref b, .ref lk, .int 1] σ H Q := by
  ((refine' F_def (by assumption) ?ho_134 ?hcd_134 ?hb_134 ?h1_134 ?h2_134 ?h3_134 ?h4_134 ?_; (case ho_134 => k_is); (case hcd_134 => k_is); (case hb_134 => exact bn6 fun _ i1 _ i2 _ i3 _ i4 _ i5 _ i6 => ⟨_, fun s X => binds_K X rfl (by k_is) rfl rfl rfl, locs rfl, KB.knows (.cons (.int 0 _) (.cons i6 (.cons i5 (.cons i4 (.cons i3 (.cons i2 (.cons i1 .nil)))))))⟩); (case h1_134 => exact rfl); (case h2_134 => exact rfl); (case h3_134 => exact rfl); (case h4_134 => decide)))
  intro A' L' g ok'
  wtm_at "mine.wx"
  refine ⟨by simp, fun st hst => ?_⟩
  wtm_at "mine.wx"
  refine q _ st (fun a ha hn => ?_) (AHeap.set_self _ _ _)
  simp only [AHeap.set_set, List.nil_append, List.cons_append] at hst ⊢
  have h1 : H st = none ∧ st ≠ dx := set_none hst
  have h2 : a ≠ st := fun e => by
    subst e
    exact hn h1.1
  simp [AHeap.set, ha, h2]
theorem mk_scene5 {c : Cx} {σ H d} {Q : AV → AHeap → Prop} (ok : c.OK (d + 2)) {A : Sc} {b lk : Addr}
    (q : ∀ x dx st H', Ext H H' → H' x = some (.inst 112 dx) → H' dx = some (.ns (sceneF A b b lk 0 st)) → Q (.ref x) H') : WCall c (.ref 112) [.ref A.bu, .ref A.gd, .ref b, .ref lk, .int 1] σ H Q := by
  refine F_cls ok (by k_is) (by k_is) (by k_is) fun A' x dx ok2 hx hdx hne => ?_
  refine scene_init6 ok2 (AHeap.set_self _ _ _) ((AHeap.set_ne _ _ (Ne.symm hne)).trans (AHeap.set_self _ _ _)) hne fun H' st hk hn => ?_
  refine ⟨rfl, q x dx st H' (fun a o e => ?_) ?_ hn⟩
  · have h1 := ne_of e hx
    have h2 := ne_of e hdx
    have : ((H.set dx (.ns [])).set x (.inst 112 dx)) a = some o := by rw [AHeap.set_ne _ _ h1, AHeap.set_ne _ _ h2]; exact e
    rw [hk a h2 (by rw [this]; simp)]; exact this
  · rw [hk x hne (by rw [AHeap.set_self]; simp)]; exact AHeap.set_self _ _ _

theorem gdef_init {c : Cx} {σ H d} {Q : AV → AHeap → Prop} (ok : c.OK (d + 1)) {x dx cd ad sl : Addr} (hx : H x = some (.inst 526 dx)) (hd : H dx = some (.ns [])) (hne : x ≠ dx)
    (q : ∀ H' pl ql, (∀ a, a ≠ dx → H a ≠ none → H' a = H a) → H' dx = some (.ns [(Str.ofString "classes", .ref cd), (Str.ofString "attach", .ref ad), (Str.ofString "sets", .ref sl), (Str.ofString "points", .ref pl), (Str.ofString "carets", .ref ql)]) → Q .none H') : WCode c (.ref 497) [.ref x, .ref cd, .ref ad, .ref sl] σ H Q := by
  ((refine' F_def (by assumption) ?ho_135 ?hcd_135 ?hb_135 ?h1_135 ?h2_135 ?h3_135 ?h4_135 ?_; (case ho_135 => k_is); (case hcd_135 => k_is); (case hb_135 => exact bn4 fun _ i1 _ i2 _ i3 _ i4 => ⟨_, fun s X => binds_K X rfl (by k_is) rfl rfl rfl, locs rfl, KB.knows (.cons (.none) (.cons (.none) (.cons i4 (.cons i3 (.cons i2 (.cons i1 .nil))))))⟩); (case h1_135 => exact rfl); (case h2_135 => exact rfl); (case h3_135 => exact rfl); (case h4_135 => decide)))
  intro A' L' g ok'
  wtm_at "mine.wx"
  refine ⟨fun _ => ?_, fun e => by cases e⟩
  refine E_dict0 (by assumption) fun pl ep hpl => ?_
  simp only [AHeap.set_set, List.nil_append, List.cons_append] at hpl ⊢
  have hpd := set_none hpl
  have hx1 : (H.set dx (.ns [(Str.ofString "classes", .ref cd), (Str.ofString "attach", .ref ad), (Str.ofString "sets", .ref sl)])) x = some (.inst 526 dx) := by rw [AHeap.set_ne _ _ hne]; exact hx
  have hd1 : (H.set dx (.ns [(Str.ofString "classes", .ref cd), (Str.ofString "attach", .ref ad), (Str.ofString "sets", .ref sl)])) dx = some (.ns [(Str.ofString "classes", .ref cd), (Str.ofString "attach", .ref ad), (Str.ofString "sets", .ref sl)]) := AHeap.set_self _ _ _
  have k1 : ∀ a, a ≠ dx → H a ≠ none → (H.set dx (.ns [(Str.ofString "classes", .ref cd), (Str.ofString "attach", .ref ad), (Str.ofString "sets", .ref sl)])) a = H a := fun a ha _ => AHeap.set_ne _ _ ha
  generalize H.set dx (.ns [(Str.ofString "classes", .ref cd), (Str.ofString "attach", .ref ad), (Str.ofString "sets", .ref sl)]) = H1 at hx1 hd1 k1 hpl ⊢
  have hx2 := set_get hx1 hpl (o' := .dict [] ep)
  have hd2 := set_get hd1 hpl (o' := .dict [] ep)
  have k2 : ∀ a, a ≠ dx → H a ≠ none → (H1.set pl (.dict [] ep)) a = H a := fun a ha hn => by
    rw [AHeap.set_ne _ _ (fun q => hn (by rw [q]; exact hpd.1))]; exact k1 a ha hn
  generalize H1.set pl (.dict [] ep) = H2 at hx2 hd2 k2 ⊢
  wtm_at "mine.wx"
  refine ⟨fun _ => ?_, fun e => by cases e⟩
  refine E_dict0 (by assumption) fun ql eq hql => ?_
  simp only [List.nil_append, List.cons_append] at hql ⊢
  have hqd := set_none hql
  have hx3 : (H2.set dx (.ns [(Str.ofString "classes", .ref cd), (Str.ofString "attach", .ref ad), (Str.ofString "sets", .ref sl), (Str.ofString "points", .ref pl)])) x = some (.inst 526 dx) := by rw [AHeap.set_ne _ _ hne]; exact hx2
  have hd3 : (H2.set dx (.ns [(Str.ofString "classes", .ref cd), (Str.ofString "attach", .ref ad), (Str.ofString "sets", .ref sl), (Str.ofString "points", .ref pl)])) dx = some (.ns [(Str.ofString "classes", .ref cd), (Str.ofString "attach", .ref ad), (Str.ofString "sets", .ref sl), (Str.ofString "points", .ref pl)]) := AHeap.set_self _ _ _
  have k3 : ∀ a, a ≠ dx → H a ≠ none → (H2.set dx (.ns [(Str.ofString "classes", .ref cd), (Str.ofString "attach", .ref ad), (Str.ofString "sets", .ref sl), (Str.ofString "points", .ref pl)])) a = H a := fun a ha hn => by rw [AHeap.set_ne _ _ ha]; exact k2 a ha hn
  generalize H2.set dx (.ns [(Str.ofString "classes", .ref cd), (Str.ofString "attach", .ref ad), (Str.ofString "sets", .ref sl), (Str.ofString "points", .ref pl)]) = H3 at hx3 hd3 k3 hql ⊢
  have hx4 := set_get hx3 hql (o' := .dict [] eq)
  have hd4 := set_get hd3 hql (o' := .dict [] eq)
  have k4 : ∀ a, a ≠ dx → H a ≠ none → (H3.set ql (.dict [] eq)) a = H a := fun a ha hn => by
    rw [AHeap.set_ne _ _ (fun q => by rw [← q, k3 a ha hn] at hql; exact hn hql)]; exact k3 a ha hn
  generalize H3.set ql (.dict [] eq) = H4 at hx4 hd4 k4 ⊢
  wtm_at "mine.wx"
  refine q _ pl ql (fun a ha hn => ?_) (AHeap.set_self _ _ _)
  rw [AHeap.set_ne _ _ ha]; exact k4 a ha hn
theorem mk_gdef {c : Cx} {σ H d} {Q : AV → AHeap → Prop} (ok : c.OK (d + 2)) {cd ad sl : Addr}
    (q : ∀ x dx pl ql H', Ext H H' → H' x = some (.inst 526 dx) → H' dx = some (.ns [(Str.ofString "classes", .ref cd), (Str.ofString "attach", .ref ad), (Str.ofString "sets", .ref sl), (Str.ofString "points", .ref pl), (Str.ofString "carets", .ref ql)]) → Q (.ref x) H') : WCall c (.ref 526) [.ref cd, .ref ad, .ref sl] σ H Q := by
  refine F_cls ok (by k_is) (by k_is) (by k_is) fun A' x dx ok2 hx hdx hne => ?_
  refine gdef_init ok2 (AHeap.set_self _ _ _) ((AHeap.set_ne _ _ (Ne.symm hne)).trans (AHeap.set_self _ _ _)) hne fun H' pl ql hk hn => ?_
  refine ⟨rfl, q x dx pl ql H' (fun a o e => ?_) ?_ hn⟩
  · have h1 := ne_of e hx
    have h2 := ne_of e hdx
    have : ((H.set dx (.ns [])).set x (.inst 526 dx)) a = some o := by rw [AHeap.set_ne _ _ h1, AHeap.set_ne _ _ h2]; exact e
    rw [hk a h2 (by rw [this]; simp)]; exact this
  · rw [hk x hne (by rw [AHeap.set_self]; simp)]; exact AHeap.set_self _ _ _

theorem keysmiss_list : typeLookup (.type "list") "keys" = pure none := am_miss_of_fast (by decide +kernel)
theorem getAttrQ_miss_list {prog : Program} {w : World} {A : Around} {E : Value → Shared → Prop} {s : Shared} {a : Addr} {xs : Array Value} {k : Nat} {sl : Array (Option Value)} {name : Str} {Q : Option Value → Shared → Prop}
    (hx : s.heap.get? a = some { cls := .type "list", dict := none, data := .seq xs k, slots := sl }) (hmiss : typeLookup (.type "list") name = pure none) (hname : (["__module__", "__name__", "__qualname__", "__doc__", "__annotations__"] : List Str).contains name = false) (hA : A.handled = none)
    (h : ∀ h' tk e, Heap.NewExcOf s.heap h' e "AttributeError" → Q none { s with heap := h', toks := tk }) (hsz : name.length + 100 ≤ sizeLine := by size_fits) :
    wpAny (model prog w) A (getAttr? (.ref a) name) Q E s := by
  obtain ⟨hp, g, d, tk, os⟩ := s
  have hT : ∀ tk', (⟨hp, g, d, tk', os⟩ : Shared).TypeIs (.ref a) "list" := fun _ => ⟨_, hx, rfl⟩
  have f1 := sub_AttributeError
  have f3 := F.slot_list_getattribute.lookup
  have f4 := F.slot_list_getattribute.bind (.ref a)
  have f5 := am_list_getattr_none
  unfold getAttr? getAttrBy? getAttrBy
  repeat (any_goals (first | assumption | exact hT _ | ((with_reducible show wpAny _ _ (call (Value.builtin "list.__getattribute__") _ _) _ _ _); refine call_meets F.slot_list_getattribute (hT _) am_entry_list_getattribute (F.args_list_getattribute_2 _ _) (meets_getattribute_miss_list a xs k sl name _ hmiss hname hsz) ⟨hx, hA, fun h' tk' e hx' => ?_⟩) | wp_step))
  obtain ⟨t', u', he⟩ := hx'.there
  have hTe : ∀ tk', (⟨h', g, d, tk', os⟩ : Shared).TypeIs (.ref e) "AttributeError" := fun _ => ⟨_, he, rfl⟩
  show wpAny _ _ (getattributeRaised _ _ _ _ _ _ _) _ _ _
  unfold getattributeRaised
  repeat (any_goals (first | assumption | exact hTe _ | wp_step))
  exact h _ _ _ hx'.of
namespace F
theorem entry_dict_update_loop : entryFor table "dict.update.loop" = some Builtin.«dict.update.loop» := entryFor_of_tree (by kernel_rfl)
theorem plain_dict_update_loop : plainId "dict.update.loop" = true := by decide +kernel
end F

def PairsAt (H : AHeap) (as : List AV) (kvs : List (Int × AV)) : Prop := All2 (fun a (p : Int × AV) => ∃ t, a = .ref t ∧ H t = some (.tup [.int p.1, p.2])) as kvs
theorem pairs_get {H : AHeap} {as : List AV} {kvs : List (Int × AV)} (h : PairsAt H as kvs) : ∀ (i : Nat) (p : Int × AV), kvs[i]? = some p → ∃ t, as[i]? = some (.ref t) ∧ H t = some (.tup [.int p.1, p.2]) := by
  induction h with
  | nil => intro i p e; simp at e
  | cons h _ ih =>
    intro i p e
    cases i with
    | zero => obtain ⟨t, rfl, ht⟩ := h; simp at e; subst e; exact ⟨t, rfl, ht⟩
    | succ i => simpa using ih i p (by simpa using e)
theorem lookI_take {kvs : List (Int × AV)} (hn : (kvs.map (·.1)).Nodup) {i : Nat} {p : Int × AV} (hp : kvs[i]? = some p) : lookI (kvs.take i) p.1 = none := by
  unfold lookI
  rw [Option.map_eq_none_iff, List.find?_eq_none]
  intro x hx hk
  obtain ⟨j, hj⟩ := List.getElem?_of_mem hx
  rw [List.getElem?_take] at hj
  split at hj
  · rename_i hji
    have h1 : (kvs.map (·.1))[j]? = some x.1 := by rw [List.getElem?_map, hj]; rfl
    have h2 : (kvs.map (·.1))[i]? = some p.1 := by rw [List.getElem?_map, hp]; rfl
    have hk' : x.1 = p.1 := by simpa using hk
    rw [hk'] at h1
    have := (List.getElem?_inj (List.getElem?_eq_some_iff.mp h1).1 hn).mp (h1.trans h2.symm)
    omega
  · cases hj
theorem dict_loop {c : Cx} {σ : Loc} {A : Around} {R : Result → Shared → Prop} {l I D : Addr} {as : List AV} {kvs : List (Int × AV)} (hh : A.handled = none) (hz : I ≠ c.z) (hL : I ≠ c.L) (h0 : c.h₀.get? I = none) (hlI : l ≠ I) (hlD : l ≠ D) (hID : I ≠ D)
    (hn : (kvs.map (·.1)).Nodup) (hsz : kvs.length ≤ 100) : ∀ (k i : Nat) (s : Shared) (H : AHeap) (tk : Tok) (ep : Nat), kvs.length - i = k → i ≤ kvs.length → St c σ H s → H l = some (.list as) → PairsAt H as kvs → H I = some (.pred (listIt l i)) → H D = some (.dict (kvs.take i) ep) →
    (∀ s' H' ep', St c σ H' s' → Rest s s' → (∀ a, a ≠ I → a ≠ D → H' a = H a) → H' D = some (.dict kvs ep') → R (.ok (.ret .none)) s') →
    codeAny (model PP c.w) A (.builtin "dict.update.loop" ⟨[.ref D, .ref I, .int i tk, .none], []⟩) R s := by
  intro k
  induction k with
  | zero =>
    intro i s H tk ep hk hi S hl hp hI hD fin
    have hin : i = kvs.length := by omega
    refine codeAny_builtin F.entry_dict_update_loop ?_
    rw [Around.under_plainId F.plain_dict_update_loop _]
    obtain ⟨m', news', S''⟩ := id S
    obtain ⟨oi, hmi, hc, hd⟩ := S''.obj _ _ hI
    obtain ⟨ol, hml, vs', n', rfl, is'⟩ := S''.obj _ _ hl
    show wpAny _ A.in1 (pyNext (.ref I) >>= _) _ _ s
    refine wpAny_bind (wpAny_pyNext_list_end (items := vs'.toArray) (by simp [hh]) ⟨_, S''.N.get hmi, hc, hd⟩ ⟨_, S''.N.get hml, rfl, n', rfl⟩ (by simp [← all2_length is', hin, all2_length hp]) fun h' hk => ?_)
    have S3 := S.drop (tk := s.toks) hz hL h0 (fun b o hb e => hk b o hb e)
    show wpAny _ A.in1 (ret Value.none) _ _ _
    refine wpAny_pure (fin _ _ ep S3 (Rest.of _ _) (fun a h1 h2 => AHeap.del_ne _ h1) ?_)
    rw [AHeap.del_ne _ (Ne.symm hID), hD, hin, List.take_length]
  | succ k ih =>
    intro i s H tk ep hk hi S hl hp hI hD fin
    have hlt : i < kvs.length := by omega
    have hkv : kvs[i]? = some kvs[i] := List.getElem?_eq_getElem hlt
    obtain ⟨t, hat, ht⟩ := pairs_get hp i _ hkv
    refine codeAny_builtin F.entry_dict_update_loop ?_
    rw [Around.under_plainId F.plain_dict_update_loop _]
    obtain ⟨m', news', S''⟩ := id S
    obtain ⟨oi, hmi, hc, hd⟩ := S''.obj _ _ hI
    obtain ⟨ol, hml, vs', n', rfl, is'⟩ := S''.obj _ _ hl
    obtain ⟨v, hv, iv⟩ := all2_get is' _ _ hat
    show wpAny _ A.in1 (pyNext (.ref I) >>= _) _ _ s
    refine wpAny_bind (wpAny_pyNext_list_item (items := vs'.toArray) (x := v) ⟨_, S''.N.get hmi, hc, hd⟩ ⟨_, S''.N.get hml, rfl, n', rfl⟩ (by simpa using hv) fun h' hit hs' => ?_)
    cases iv
    obtain ⟨o', ho', hc', hd'⟩ := hit
    obtain ⟨F', N'⟩ := news_same S''.F S''.N S''.nd hmi hs' ho'
    have S2 := S''.upd (tk := s.toks) (o := .pred (listIt l (i + 1))) hmi F' N' ⟨hc', hd'⟩
    have htI : t ≠ I := fun e => by rw [e, hI] at ht; cases ht
    have htD : t ≠ D := fun e => by rw [e, hD] at ht; cases ht
    obtain ⟨ot, hmt, vt, nt, rfl, ist⟩ := S2.obj t _ ((AHeap.set_ne _ _ htI).trans ht)
    rcases ist with _ | ⟨i1, ist⟩
    rcases ist with _ | ⟨i2, ist⟩
    cases ist
    cases i1
    have hgt := S2.N.get hmt
    dsimp only
    refine wpAny_bind (wpAny_holding ?_)
    refine wpAny_bind (wpAny_tryCatch ?_)
    unfold Builtin.Dict.pairItems
    refine wpAny_bind (wpAny_typeOf (T := "tuple") ⟨_, hgt, rfl⟩ ?_)
    rw [if_pos (by decide)]
    refine wpAny_bind (wpAny_seqItems hgt rfl ?_)
    refine wpAny_pure ?_
    show wpAny _ _ (holding [_, _] (dictSet D _ _)) _ _ _
    refine wpAny_holding ?_
    unfold dictSet
    refine wpAny_holding ?_
    refine wpAny_bind (wpAny_pyHash_int ?_)
    have hD2 : (H.set I (.pred (listIt l (i + 1)))) D = some (.dict (kvs.take i) ep) := (AHeap.set_ne _ _ (Ne.symm hID)).trans hD
    obtain ⟨od, hmd, kv', es, hd1, hd2, hd3, hd4, hd5, isd⟩ := S2.obj D _ hD2
    have hdd : od.IsDictOf (intKind PP c.w) kv' := ⟨es, _, hd1, hd2, hd3, hd4, hd5⟩
    have hdo : h'.DictOf (intKind PP c.w) D kv' := Heap.dictOf_iff.mpr ⟨_, S2.N.get hmd, hdd⟩
    refine wpAny_dictSetHashed_pairs (knd := intKind PP c.w) (k := (kvs[i]).1) (intKind_is _ _ _ _) hdo (fun h3 hd3 hs3 => ?_) (by rw [← all2_length isd]; refine Nat.le_trans ?_ sizeLine_ge; simp; omega)
    obtain ⟨od', hod', hd''⟩ := Heap.dictOf_iff.mp hd3
    obtain ⟨F3, N3⟩ := news_same S2.F S2.N S2.nd hmd hs3 hod'
    obtain ⟨es', ep', e1, e2, e3, e4, e5⟩ := hd''
    have S3 := S2.upd (tk := s.toks + 1) (o := .dict (kvs.take i ++ [((kvs[i]).1, (kvs[i]).2)]) ep') hmd F3 N3 ⟨_, es', e1, e2, e3, e4, e5, storedA_rel isd i2 _ (lookI_take hn hkv)⟩
    have hl3 : ((H.set I (.pred (listIt l (i + 1)))).set D (.dict (kvs.take i ++ [((kvs[i]).1, (kvs[i]).2)]) ep')) l = some (.list as) := by rw [AHeap.set_ne _ _ hlD, AHeap.set_ne _ _ hlI]; exact hl
    refine wpAny_pure ⟨plainId_quiet F.plain_dict_update_loop _, ih (i + 1) _ _ _ ep' (by omega) hlt ⟨_, _, S3⟩ hl3 ?_ ?_ ?_ fun s' H' ep2 S' r' hk' hD' => fin s' H' ep2 S' ⟨r'.1, r'.2, r'.3⟩ (fun a h1 h2 => ?_) hD'⟩
    · refine all2_mono hp fun a p ⟨t, ha, ht⟩ => ⟨t, ha, ?_⟩
      rw [AHeap.set_ne _ _ (fun e => by rw [e, hD] at ht; cases ht), AHeap.set_ne _ _ (fun e => by rw [e, hI] at ht; cases ht)]; exact ht
    · rw [AHeap.set_ne _ _ hID, AHeap.set_self]
    · rw [AHeap.set_self, List.take_add_one, hkv]; rfl
    · rw [hk' a h1 h2, AHeap.set_ne _ _ h2, AHeap.set_ne _ _ h1]

theorem F_dict {c : Cx} {σ H d l as kvs} {Q : AV → AHeap → Prop} (ok : c.OK d) (hl : H l = some (.list as)) (hp : PairsAt H as kvs) (hn : (kvs.map (·.1)).Nodup) (hz : kvs.length ≤ 100)
    (q : ∀ r H' ep, Ext H H' → H r = none → H' r = some (.dict kvs ep) → Q (.ref r) H') : WCall c (.type "dict") [.ref l] σ H Q := fun vs is s S => by
  rcases is with _ | ⟨i, is⟩; cases is; cases i
  obtain ⟨m, news, S⟩ := S
  obtain ⟨ob, hm, vs, n, rfl, is⟩ := S.obj _ _ hl
  refine callType_codes (Q₁ := fun obj s₁ => obj = .ref s.heap.objs.size ∧ s₁ = { s with heap := s.heap.push { cls := .type "dict", data := .dict #[] } }) F.kt_called_dict (F.kt_typeCall_dict_1 _) F.entry_dict_init (kt_code_dict_new _ ⟨rfl, rfl⟩) ?_
  rintro obj s₁ ⟨rfl, rfl⟩
  have hnew : (s.heap.push { cls := .type "dict", data := .dict #[] }).DictOf (intKind PP c.w) s.heap.objs.size [] := Heap.DictOf.new s.heap
  refine ⟨hnew.typeIs, F.args_dict_init_2 _ _, ?_⟩
  have hob := S.N.get hm
  have hT : Shared.TypeIs { s with heap := s.heap.push { cls := .type "dict", data := .dict #[] } } (.ref l) "list" := ⟨_, Heap.get?_push_of_some _ hob, rfl⟩
  unfold Builtin.«dict.__init__»
  refine wpAny_bind ?_
  unfold Builtin.Dict.selfAndRest
  refine wpAny_bind (wpAny_notOrdered_dict hnew.typeIs ?_)
  show wpAny _ _ (pure (s.heap.objs.size, [Value.ref l])) _ _ _
  refine wpAny_pure ?_
  show wpAny _ _ (Builtin.Dict.updateFrom "dict.__init__" s.heap.objs.size (.ref l) [] .none) _ _ _
  unfold Builtin.Dict.updateFrom
  refine wpAny_bind (wpAny_typeOf hT ?_)
  rw [if_pos (by decide)]
  refine wpAny_bind (getAttrQ_miss_list (Heap.get?_push_of_some _ hob) keysmiss_list (by decide) ?_ ?_)
  · simp [ok.hh]
  intro h1 tk1 e1 X1
  simp only [Option.isNone_none, if_true]
  refine wpAny_bind (wpAny_rule ?_)
  have S0 : St c σ H s := ⟨m, news, S⟩
  obtain ⟨hlt, hzD, hLD, h0D⟩ := iter_news S
  have hDn := S.fresh hlt
  obtain ⟨o0, ho0, es0, ep0, d1, d2, d3, d4, d5⟩ := Heap.dictOf_iff.mp hnew
  have hps : (s.heap.push { cls := .type "dict", data := .dict #[] }).get? s.heap.objs.size = some { cls := .type "dict", data := .dict #[] } := Heap.get?_push_size _ rfl
  cases hps.symm.trans ho0
  have S1 := S.alloc (tk := s.toks) (o := .dict [] ep0) (S.F.push _) (S.N.push S.F { cls := .type "dict", data := .dict #[] }) hlt ⟨[], es0, d1, d2, d3, d4, d5, .nil⟩
  have S2 : St c σ _ _ := (show St c σ _ _ from ⟨_, _, S1⟩).keeps (tk := tk1) X1.keeps
  obtain ⟨m2, news2, S2⟩ := S2
  obtain ⟨hltI, hzI, hLI, h0I⟩ := iter_news S2
  obtain ⟨ol, hml, vs2, n2, rfl, is2⟩ := S2.obj l _ (set_get hl hDn)
  have hlI := hltI _ hml
  refine wpAny_bind (wpAny_pyIter_list (items := vs2.toArray) ⟨_, S2.N.get hml, rfl, n2, rfl⟩ ?_)
  have hIn := S2.fresh hltI
  have S3 := S2.alloc (tk := tk1) (o := .pred (listIt l 0)) (S2.F.push { cls := .type "list_iterator", data := .fields #[.ref l, .int 0 0] }) (S2.N.push S2.F _) hltI ⟨rfl, rfl⟩
  have hID : s.heap.objs.size ≠ h1.objs.size := ne_of (AHeap.set_self _ _ _) hIn
  have hlD := ne_of hl hDn
  have x3 : Ext H ((H.set s.heap.objs.size (.dict [] ep0)).set h1.objs.size (.pred (listIt l 0))) := ((Ext.refl _).set hDn).set hIn
  refine wpAny_pure ⟨plainId_quiet F.plain_dict_update_loop _, dict_loop (kvs := kvs) (as := as) (by simp [ok.hh]) hzI hLI h0I (Nat.ne_of_lt hlI) hlD (Ne.symm hID) hn hz _ 0 _ _ _ ep0 rfl (Nat.zero_le _) ⟨_, _, S3⟩ (x3 _ _ hl) ?_ (AHeap.set_self _ _ _) ?_ ?_⟩
  · exact all2_mono hp fun a p ⟨t, ha, ht⟩ => ⟨t, ha, x3 _ _ ht⟩
  · show ((H.set s.heap.objs.size (.dict [] ep0)).set h1.objs.size (.pred (listIt l 0))) s.heap.objs.size = _
    rw [AHeap.set_ne _ _ hID, AHeap.set_self, List.take_zero]
  · intro s' H' ep' S' r' hk' hD'
    refine ⟨rfl, .ref s.heap.objs.size, H', .ref _, S', ⟨r'.1, r'.2, r'.3⟩, q _ _ ep' (fun a o e => ?_) hDn hD'⟩
    have h1' := ne_of e hDn
    have h2' : a ≠ h1.objs.size := ne_of e (set_none hIn).1
    exact (hk' a h2' h1').trans (x3 _ _ e)

theorem S_comp {c : Cx} {σ H d} {rest : List Stmt} {y : Str} {py spos : Pos} {elt iter : Expr} {x : Str} {px : Pos} {ifs : List Expr} {scope : Scope} {pos : Pos} {cl : List (Str × Addr)} {Q : Fl → Loc → AHeap → Prop} (ok : c.OK d)
    (hclos : closureFor scope c.env = pure cl) (hcell : ∀ y ∈ scope.names, y.2 ≠ .cell) (hkind : scope.kind = .function) (hnames : ∀ y ∈ scope.names, y.2 = .local → scope.names.lookup y.1 = some .local)
    (hx : scope.names.lookup x = some .local) (hsw : swapsWith (.ListComp elt [⟨.Name x px, iter, ifs, 0⟩] scope pos) (some (.Name y py)) spos.line c.env = pure true) (hy : c.env.kindOf y = some .local) (hkc : c.cs.kind = .function)
    (h : WE c c.env iter σ H fun a H1 => WIt c a σ H1 fun I xs src it H2 => xs.length ≤ 1000 ∧ ∀ D C, H2 D = none → H2 C = none → C ≠ D → ∃ Inv : Nat → List AV → AHeap → Prop,
      Inv 0 [] ((H2.set D (.list [])).set C (.locals [])) ∧
      (∀ i a zs H3, xs[i]? = some a → Inv i zs H3 → zs.length ≤ i → H3 I = some (.pred (it i)) → src H3 → H3 D = some (.list zs) →
        WTb c (compEnvC scope cl C c.env) ifs σ ((H3.set I (.pred (it (i + 1)))).set C (.locals [(x, a)])) fun b H4 =>
          (b = false → Inv (i + 1) zs H4 ∧ H4 I = some (.pred (it (i + 1))) ∧ src H4 ∧ H4 D = some (.list zs) ∧ ∃ ρ, H4 C = some (.locals ρ)) ∧
          (b = true → WEb c (compEnvC scope cl C c.env) elt σ H4 fun y H5 => H5 D = some (.list zs) ∧ Inv (i + 1) (zs ++ [y]) (H5.set D (.list (zs ++ [y]))) ∧ H5 I = some (.pred (it (i + 1))) ∧ src (H5.set D (.list (zs ++ [y]))) ∧ ∃ ρ, H5 C = some (.locals ρ))) ∧
      (∀ zs H3, Inv xs.length zs H3 → H3 D = some (.list zs) → src H3 → WS c rest ((y, .ref D) :: σ) ((H3.del I).del C) Q))
    (hs : ∀ x, foldedSetIterable iter c.env x = pure x := by intro _; with_unfolding_all rfl) :
    WS c (.Assign [.Name y py] (.ListComp elt [⟨.Name x px, iter, ifs, 0⟩] scope pos) spos :: rest) σ H Q := WS_cons fun s S => by
  rw [exec_Assign_Name_used _ _ _ _ hsw]
  refine wpAny_bind (wpAny_standAt (wpAny_bind ?_))
  show wpAny _ c.A (do let _ ← comprehension (.ListComp elt [⟨.Name x px, iter, ifs, 0⟩] scope pos) scope c.env _ (newList []) false (eval iter c.env) (some (assign (.Name y py) c.env))) _ _ s
  generalize hP : (fun s' => PostS c (fun fl σ1 H1 => match fl with | .next => WS c rest σ1 H1 Q | fl => Q fl σ1 H1) s Flow.next s') = P
  refine wpAny_bind (wpAny_mono (Q := fun _ s' => P s') ?_ (fun _ s' hq => wpAny_pure (wpAny_pure (by rw [← hP] at hq; exact hq))) fun _ _ e => e)
  refine comp_core (Fi := fun D H => WS c rest ((y, .ref D) :: σ) H Q) (use := some (assign (.Name y py) c.env)) (P := fun _ s' => P s') S hclos hcell hkind hnames hx h hs fun D C I H3 s4 ρ v q S4 hC4 r4 k => ?_
  show wpAny _ _ (assign (.Name y py) c.env (.ref D)) _ _ _
  refine wpAny_assign_Name (wpAny_mono (Store_local hkc hy (.ref D) S4) (fun _ s5 ⟨S5, r5⟩ => ?_) fun _ _ e => e)
  obtain ⟨m5, news5, S5'⟩ := id S5
  obtain ⟨oC5, hmC5, mC5, hnC5, hρ5⟩ := S5'.obj _ _ hC4
  refine ⟨mC5, ns_of_obj (S5'.N.get hmC5) hnC5, fun h5 hs5 => ?_⟩
  rw [← hP]
  exact ⟨.next, _, _, .next, S5.drop (tk := s5.toks) k.1 k.2.1 k.2.2 (fun b o hb e => (hs5.2 b hb).trans e), r4.trans (r5.trans (Rest.of _ _)), q⟩

section
variable {c : Cx} {env : Env} {σ : Loc} {H : AHeap} {d : Nat}
theorem F_defK {name qual : Str} {params : Arguments} {body : List Stmt} {scope : Scope} {dV kV doc pm cdv ct oc : Value} {an od : Option Addr} {osl : Array (Option Value)} {fa : Addr} {as : List AV} {ρ : Loc}
    (ok : c.OK (d + 1)) (ho : (Mine.hd.heap_1 c.w.params).lookup fa = some ⟨oc, od, .func (fnOf name qual params body scope dV kV doc pm an cdv ct), osl⟩) (hcd : codeIn (Mine.hd.heap_1 c.w.params) cdv qual = true)
    (hb : ∀ vs, All2 Is as vs → ∃ binds, (∀ s : Shared, (Mine.hd.heap_1 c.w.params).In s.heap → BindsTo s (fnOf name qual params body scope dV kV doc pm an cdv ct) ⟨vs, []⟩ binds) ∧ (∀ y ∈ binds, scope.names.lookup y.1 = some .local) ∧ Knows ρ (fun y => binds.reverse.lookup y))
    (hco : scope.isCoroutine = false) (hgen : scope.isGenerator = false) (hk : scope.kind = .function) (hcell : ∀ x ∈ scope.names, x.2 ≠ .cell)
    (h : ∀ A' L' g, Cx.OK ⟨c.w, A', qual, scope, L', fa, cdv, [], g, c.z⟩ d → (∀ b o, c.h₀.get? b = some o → g.get? b = some o) → WS ⟨c.w, A', qual, scope, L', fa, cdv, [], g, c.z⟩ body ρ H fun fl _ H' => Q fl.val H') : WCode c (.ref fa) as σ H Q := fun vs is s S => by
  obtain ⟨m, news, S⟩ := S
  obtain ⟨A₀, base, outer, B, hA⟩ := ok.below
  obtain ⟨mg, mb, mean, T⟩ := ok.top
  obtain ⟨binds, hbind, hloc, hkn⟩ := hb vs is
  refine code_def (base := base) B S.F ok.k S.N T hA rfl ok.kind ho hcd (by have := ok.depth; show c.A.depth < 1000; omega) (hbind s (ok.k.keeps S.F.keep)) hloc ?_ hco hgen hk hcell
  intro g L' h₁ FG F' N' B' X' T'
  have ok' : Cx.OK ⟨c.w, c.A.deeper (envOf qual scope L' fa cdv), qual, scope, L', fa, cdv, [], g, c.z⟩ d :=
    Ok_deeper (L' := L') qual scope fa cdv [] ok X' ⟨_, _, _, T'⟩ ⟨_, _, _, B', Around.frames_deeper hA⟩ rfl (by show c.A.units + 3 ≤ _; omega) ok.hh hk
  refine wpAny_mono (h _ L' g ok' FG.keep { s with heap := h₁, toks := s.toks + binds.length } ⟨_, news, F', N', S.nd, hkn, S.low, S.ne, S.obj⟩) (fun f s' ⟨fl, σ', H', i, S', r, q⟩ => ?_) fun _ _ e => e.elim
  exact leave_of (c := c) (c' := ⟨c.w, c.A.deeper (envOf qual scope L' fa cdv), qual, scope, L', fa, cdv, [], g, c.z⟩) S i rfl rfl rfl rfl S' ⟨r.1, r.2, r.3⟩ q (by cases f <;> rfl) fun v p => p

variable {Q : AV → AHeap → Prop} {s : Shared}
theorem slice_fin0 {vs : List Value} {value slice : Expr} {l xs} {lo hi : Option Int} {vl vu : Value} {zs : List AV} {s0 : Shared} (S : St c σ H s) (r0 : Rest s0 s) (hlist : s.heap.IsList l vs.toArray) (is : All2 Is xs vs) (hs : xs.length ≤ 1000) (pl : IsPart vl lo) (pu : IsPart vu hi)
    (hz : ∃ ws : List Value, slicePick vs.toArray lo hi none = ws.toArray ∧ All2 Is zs ws) (q : ∀ r, H r = none → Q (.ref r) (H.set r (.list zs)))
    (hsub : ∀ sl, subscripted slice false (.ref l) (.ref sl) = operate [.ref sl, .ref l] (getItem (.ref l) (.ref sl))) :
    wpAny (model PP c.w) c.A (subscriptTail value slice (.ref l) (.ref s.heap.objs.size)) (PostV c σ Q s0) NoE { s with heap := s.heap.push { cls := .type "slice", data := .fields #[vl, vu, .none] } } := by
  obtain ⟨ws, hw, iw⟩ := hz
  have hsz1 : vs.toArray.size ≤ sizeLine := by rw [List.size_toArray, ← all2_length is]; exact Nat.le_trans hs sizeLine_ge
  refine tail_any (Heap.IsList.typeIs (s := { s with heap := s.heap.push { cls := .type "slice", data := .fields #[vl, vu, .none] } }) (hlist.push _)) list_getitem_lookup (wpAny_getItem_list_slice (hlist.push _) (Heap.IsSliceOf.new ..) pl pu .none (by simp) ?_ hsz1) (hsub _)
  have S1 : St c σ H { s with heap := s.heap.push { cls := .type "slice", data := .fields #[vl, vu, .none] } } := S.keeps (tk := s.toks) fun b o e => Heap.get?_push_of_some _ e
  obtain ⟨m1, news1, S1⟩ := S1
  obtain ⟨hlt, hz, hL, h0⟩ := iter_news S1
  have S2 := S1.alloc (tk := s.toks) (o := .list zs) (S1.F.push { cls := .type "list", data := .seq (slicePick vs.toArray lo hi none) }) (S1.N.push S1.F _) hlt ⟨ws, 0, by rw [hw], iw⟩
  exact ⟨_, _, .ref _, ⟨m1, _, S2⟩, ⟨r0.1, r0.2, r0.3⟩, q _ (S1.fresh hlt)⟩
theorem E_sliceU0 {vs : List Value} {value hi p pos} (h : WE c env value σ H fun a H1 => WE c env hi σ H1 fun x H2 => ∃ l xs i, a = .ref l ∧ x = .int i ∧ (∃ ob, c.h₀.get? l = some ob ∧ ob.cls = .type "list" ∧ ∃ n, ob.data = .seq vs.toArray n) ∧ All2 Is xs vs ∧ 0 ≤ i ∧ xs.length ≤ 1000 ∧
      ∀ r, H2 r = none → Q (.ref r) (H2.set r (.list (xs.take i.toNat)))) : WE c env (.Subscript value (.Slice none (some hi) none p) pos) σ H Q := fun s S =>
  Subscript_ (seq2 S h fun va s1 a H1 ia S1 r1 h1 => by
    refine wpAny_Slice ?_
    rw [evalPart_none]
    refine wpAny_pure ?_
    rw [evalPart_some]
    refine seq2 S1 h1 fun vx s2 x H2 ix S2 r2 h2 => ?_
    refine wpAny_pure ?_
    obtain ⟨l, xs, i, rfl, rfl, ⟨ob, hob, hc, hn⟩, is, hi0, hlen, q⟩ := h2
    cases ia; cases ix
    refine slice_fin0 S2 (r1.trans r2) (vs := vs) ⟨ob, (let ⟨_, _, S'⟩ := S2; S'.F.keep _ _ hob), hc, hn⟩ is hlen .none (.int i _) (⟨vs.take i.toNat, ?_, all2_take is _⟩) q (fun _ => by with_unfolding_all rfl)
    obtain ⟨i, rfl⟩ := Int.eq_ofNat_of_zero_le hi0
    rw [slicePick_upto']; simp)

end

theorem ints_is {vs : List Value} {ns : List Int} (h : IntsAre vs ns) : All2 Is (ns.map AV.int) vs := by
  induction h with
  | nil => exact .nil
  | cons n t _ ih => exact .cons (.int _ _) ih
theorem nums_map : ∀ (ks : List Int), Nums (ks.map AV.int) ks
  | [] => .nil
  | k :: ks => .cons (nums_map ks)

theorem WS.mono {c : Cx} {ss σ H} {Q Q' : Fl → Loc → AHeap → Prop} (h : WS c ss σ H Q) (hq : ∀ fl σ' H', Q fl σ' H' → Q' fl σ' H') : WS c ss σ H Q' := fun s S =>
  wpAny_mono (h s S) (fun _ _ ⟨fl, σ', H', i, S', r, q⟩ => ⟨fl, σ', H', i, S', r, hq _ _ _ q⟩) fun _ _ e => e
theorem WB.mono {c : Cx} {env e σ H} {Q Q' : Bool → AHeap → Prop} (h : WB c env e σ H Q) (hq : ∀ b H', Q b H' → Q' b H') : WB c env e σ H Q' := fun s S =>
  wpAny_mono (h s S) (fun _ _ ⟨H', S', r, q⟩ => ⟨H', S', r, hq _ _ q⟩) fun _ _ e => e
theorem S_ifcut {c : Cx} {σ H test body orelse pos rest} {Q : Fl → Loc → AHeap → Prop} (J : Loc → AHeap → Prop)
    (h : WB c c.env test σ H fun b H1 => (b = true → WS c body σ H1 (fun fl σ' H' => fl = .next ∧ J σ' H')) ∧ (b = false → WS c orelse σ H1 (fun fl σ' H' => fl = .next ∧ J σ' H')))
    (k : ∀ σ' H', J σ' H' → WS c rest σ' H' Q) : WS c (.If test body orelse pos :: rest) σ H Q :=
  S_if0 (h.mono fun b H1 hb => ⟨fun e => (hb.1 e).mono fun fl σ' H' ⟨hf, hj⟩ => by subst hf; exact k _ _ hj, fun e => (hb.2 e).mono fun fl σ' H' ⟨hf, hj⟩ => by subst hf; exact k _ _ hj⟩)

theorem law_pen_spec {c : Cx} {σ H d} {Q : AV → AHeap → Prop} (ok : c.OK (d + 1)) {sa : Addr} {vs : List Value} {ns : List Int} (hsa : ∃ ob, c.h₀.get? sa = some ob ∧ ob.cls = .type "list" ∧ ∃ n, ob.data = .seq vs.toArray n) (hI : IntsAre vs ns) (hlen : ns.length ≤ 63)
    (q : ∀ pe cl H', Ext H H' → H pe = none → H cl = none → PenOK H' pe cl 0 → Q (.ref pe) H') : WCode c (.ref 535) [.ref sa] σ H Q := by
  ((refine' F_defK (by assumption) ?ho_136 ?hcd_136 ?hb_136 ?h1_136 ?h2_136 ?h3_136 ?h4_136 ?_; (case ho_136 => k_is); (case hcd_136 => k_is); (case hb_136 => (first | exact bn0 ⟨_, fun s _ => BindsTo.of_eq rfl, locs rfl, KB.knows .nil⟩ | exact bn1 fun _ i1 => ⟨_, fun s _ => BindsTo.of_eq rfl, locs rfl, KB.knows (.cons i1 .nil)⟩ | exact bn2 fun _ i1 _ i2 => ⟨_, fun s _ => BindsTo.of_eq rfl, locs rfl, KB.knows (.cons i2 (.cons i1 .nil))⟩ | exact bn3 fun _ i1 _ i2 _ i3 => ⟨_, fun s _ => BindsTo.of_eq rfl, locs rfl, KB.knows (.cons i3 (.cons i2 (.cons i1 .nil)))⟩ | exact bn4 fun _ i1 _ i2 _ i3 _ i4 => ⟨_, fun s _ => BindsTo.of_eq rfl, locs rfl, KB.knows (.cons i4 (.cons i3 (.cons i2 (.cons i1 .nil))))⟩ | exact bn5 fun _ i1 _ i2 _ i3 _ i4 _ i5 => ⟨_, fun s _ => BindsTo.of_eq rfl, locs rfl, KB.knows (.cons i5 (.cons i4 (.cons i3 (.cons i2 (.cons i1 .nil)))))⟩ | exact bn6 fun _ i1 _ i2 _ i3 _ i4 _ i5 _ i6 => ⟨_, fun s _ => BindsTo.of_eq rfl, locs rfl, KB.knows (.cons i6 (.cons i5 (.cons i4 (.cons i3 (.cons i2 (.cons i1 .nil))))))⟩)); (case h1_136 => exact rfl); (case h2_136 => exact rfl); (case h3_136 => exact rfl); (case h4_136 => decide)))
  intro A' L' g ok' hg
  refine S_comp (cl := []) (by assumption) rfl (by decide) rfl (by decide) rfl (by with_unfolding_all rfl) rfl rfl ?_
  refine E_sliceU0 (vs := vs) ?_
  wtm_at "mine.wx"
  refine ⟨sa, ns.map AV.int, _, rfl, rfl, (let ⟨ob, h1, h2, h3⟩ := hsa; ⟨ob, hg _ _ h1, h2, h3⟩), ints_is hI, by omega, by simp; omega, fun sl hsl => ?_⟩
  refine It_list (by assumption) (AHeap.set_self _ _ _) fun I hI => ?_
  have x1 : Ext H (H.set sl (.list ((ns.map AV.int).take (48 : Int).toNat))) := (Ext.refl _).set hsl
  have hsl1 : (H.set sl (.list ((ns.map AV.int).take (48 : Int).toNat))) sl = some (.list ((ns.map AV.int).take (48 : Int).toNat)) := AHeap.set_self _ _ _
  generalize H.set sl (.list ((ns.map AV.int).take (48 : Int).toNat)) = H1 at x1 hsl1 hI ⊢
  rw [← List.map_take] at hsl1 ⊢
  generalize hks : ns.take (48 : Int).toNat = ks at hsl1 ⊢
  have hkl : ks.length ≤ 48 := by rw [← hks]; simp; omega
  have hIsl := ne_of hsl1 hI
  refine ⟨by simp; omega, fun D C hD hC hCD => ?_⟩
  have hD1 := set_none hD
  have hC1 := set_none hC
  refine ⟨fun i zs H3 => Ext H1 H3 ∧ zs = (ks.take i).map AV.int, ⟨(((Ext.refl _).set hI).setI hD1.1).setI hC1.1, rfl⟩, ?_, ?_⟩
  · rintro i a zs H3 hx ⟨x3, rfl⟩ - hI3 hs3 hD3
    refine WTb_in fun Q8 k8 => Ts_nil (k8 _ _ ⟨(fun e => nomatch e), fun _ => WEb_in fun Q9 k9 => ?_⟩)
    have hxa : ∃ k, ks[i]? = some k ∧ a = .int k := by
      rw [List.getElem?_map, Option.map_eq_some_iff] at hx
      obtain ⟨k, h1, h2⟩ := hx
      exact ⟨k, h1, h2.symm⟩
    obtain ⟨k, hk, rfl⟩ := hxa
    have hCc : ((H3.set I (AO.pred (listIt sl (i + 1)))).set C (AO.locals [(Str.ofString "cell", .int k)])) C = some (AO.locals [(Str.ofString "cell", .int k)]) := AHeap.set_self _ _ _
    ((refine E_callT (T := "int") ?_ (by with_unfolding_all rfl) (by with_unfolding_all rfl); wtm_at "mine.w_name"; refine ⟨rfl, ?_⟩))
    (wtm_at "mine.wx")
    refine F_int ?_
    have hDI : D ≠ I := hD1.2
    have hCI : C ≠ I := hC1.2
    have hslD : sl ≠ D := ne_of hsl1 hD1.1
    have hslC : sl ≠ C := ne_of hsl1 hC1.1
    wtm_at "mine.wx"
    refine ⟨?_, ⟨?_, ?_⟩, ?_, ?_, ⟨_, hCc⟩⟩
    · rw [AHeap.set_ne _ _ (Ne.symm hCD), AHeap.set_ne _ _ hDI]; exact hD3
    · exact ((x3.setI hI).setI hC1.1).setI hD1.1
    · rw [List.take_add_one, hk, List.map_append]; rfl
    · rw [AHeap.set_ne _ _ (Ne.symm hCI), AHeap.set_self]
    · show (((H3.set I _).set C _).set D _) sl = _
      rw [AHeap.set_ne _ _ hslD, AHeap.set_ne _ _ hslC, AHeap.set_ne _ _ hIsl]; exact hs3
  · rintro zs H3 ⟨x3, rfl⟩ hD3 hs3
    rw [List.length_map, List.take_length] at hD3
    have x4 : Ext H1 ((H3.del I).del C) := (x3.del hI).del hC1.1
    have hD4 : ((H3.del I).del C) D = some (.list (ks.map AV.int)) := by
      rw [AHeap.del_ne _ (Ne.symm hCD), AHeap.del_ne _ hD1.2]; exact hD3
    generalize (H3.del I).del C = H4 at x4 hD4 ⊢
    have HD : H D = none := none_back x1 hD1.1
    have x5 := x1.trans x4
    with_reducible refine S_assign0 ?_
    wtm_at "mine.wx1"
    wtm_at "mine.w_store"
    refine S_ifcut (fun σ' H' => ∃ gr, 0 ≤ gr ∧ gr < 10 ^ 240 ∧ H' = H4 ∧ σ'.lookup (Str.ofString "cells") = some (.ref D) ∧ σ'.lookup (Str.ofString "great") = some (.int gr)) ?_ ?_
    · wtm_at "mine.wx"
      refine T_list hD4 (by simp; omega) ?_
      refine ⟨fun e => ?_, fun e => ?_⟩
      · refine ⟨(fun e => nomatch e), fun _ => ?_⟩
        wtm_at "mine.wx"
        exact ⟨rfl, 0, by decide, by decide, rfl, rfl, rfl⟩
      · obtain ⟨k0, hk0⟩ : ∃ k0, (ks.map AV.int)[0]? = some (.int k0) := by
          cases ks with
          | nil => simp at e
          | cons k r => exact ⟨k, rfl⟩
        have hlk : 0 < (ks.map AV.int).length := (List.getElem?_eq_some_iff.mp hk0).1
        wtm_at "mine.wx"
        ((refine E_callB (id := "abs") ?_ (by with_unfolding_all rfl) (by with_unfolding_all rfl); wtm_at "mine.w_name"; refine ⟨rfl, ?_⟩))
        wtm_at "mine.wx"
        refine I_list hD4 (by decide) (by omega) hk0 ?_
        wtm_at "mine.wx"
        refine F_abs ?_
        wtm_at "mine.wx"
        refine O_pow (by decide) (by decide +kernel) ?_
        wtm_at "mine.wx"
        refine ⟨fun e2 => ?_, fun e2 => ?_⟩
        · refine ⟨(fun e => nomatch e), fun _ => ?_⟩
          wtm_at "mine.wx"
          exact ⟨rfl, 0, by decide, by decide, rfl, rfl, rfl⟩
        · wtm_at "mine.wx"
          refine ⟨fun _ => ?_, (fun e => nomatch e)⟩
          wtm_at "mine.wx"
          ((refine E_callB (id := "abs") ?_ (by with_unfolding_all rfl) (by with_unfolding_all rfl); wtm_at "mine.w_name"; refine ⟨rfl, ?_⟩))
          wtm_at "mine.wx"
          refine I_list hD4 (by decide) (by omega) hk0 ?_
          wtm_at "mine.wx"
          refine F_abs ?_
          wtm_at "mine.wx"
          refine O_div (by decide) (PyProof.noPylong_small (by decide)) ?_
          wtm_at "mine.wx"
          refine O_pow (by decide) (by decide +kernel) ?_
          wtm_at "mine.wx"
          refine O_mod (by decide +kernel) ?_
          wtm_at "mine.wx"
          exact ⟨rfl, _, Int.fmod_nonneg_of_pos _ (by decide +kernel), Int.fmod_lt_of_pos _ (by decide +kernel), rfl, rfl, rfl⟩
    · rintro σ' H5 ⟨gr, g1, g2, rfl, l1, l2⟩
      wtm_at "mine.wx"
      refine loop_list (by assumption) ?_
      refine E_local (a := .ref D) ?_ ?_ ?_ ?_
      · exact rfl
      · exact rfl
      · exact l1
      have hDJ : ∀ J, H5 J = none → D ≠ J := fun J hJ => ne_of hD4 hJ
      refine ⟨D, _, rfl, hD4, fun J hJ hne => ⟨fun i ρ H' => ∃ st, 0 ≤ st ∧ st < 2147483647 ∧ Ext H5 H' ∧ ρ = [(Str.ofString "state", .int st), (Str.ofString "cells", .ref D), (Str.ofString "great", .int gr)], ⟨_, Sub.cons rfl (Sub.cons l1 (Sub.cons l2 Sub.nil)), 1, by decide, by decide, (Ext.refl _).set hJ, rfl⟩, ?_, ?_⟩⟩
      · rintro i a σ1 H6 hx ⟨st, s1, s2, x6, rfl⟩ hJ6 hD6
        obtain ⟨k, rfl⟩ : ∃ k, a = .int k := by
          rw [List.getElem?_map, Option.map_eq_some_iff] at hx
          obtain ⟨k, _, h2⟩ := hx
          exact ⟨k, h2.symm⟩
        wtm_at "mine.wx"
        refine O_mul (PySem.IntMulOk.of_right (by decide)) ?_
        wtm_at "mine.wx"
        refine O_mod (by decide) ?_
        wtm_at "mine.wx"
        refine O_mod (by decide) ?_
        wtm_at "mine.wx"
        refine ⟨⟨_, Sub.cons rfl (Sub.cons rfl (Sub.cons rfl Sub.nil)), _, Int.fmod_nonneg_of_pos _ (by decide), Int.fmod_lt_of_pos _ (by decide), x6.setI hJ, rfl⟩, AHeap.set_self _ _ _, ?_⟩
        rw [AHeap.set_ne _ _ hne]; exact hD6
      · rintro σ1 H6 ⟨st, s1, s2, x6, rfl⟩ hD6
        wtm_at "mine.wx"
        refine ⟨by simp, fun pe hpe => ?_⟩
        have x7 : Ext H5 (H6.del J) := x6.del hJ
        have hD7 : (H6.del J) D = some (.list (ks.map AV.int)) := by rw [AHeap.del_ne _ hne]; exact hD6
        generalize H6.del J = H7 at x7 hD7 hpe ⊢
        have x8 := (x5.trans x7).set hpe (o := .list [.ref D, .int gr, .int st, .int 0])
        refine q pe D _ x8 (none_back (x5.trans x7) hpe) HD ⟨⟨ks, gr, st, 0, ks.map AV.int, AHeap.set_self _ _ _, set_get hD7 hpe, nums_map ks, by simp; omega, g1, g2, s1, s2, by decide, by decide, ne_of hD7 hpe⟩⟩

theorem sh_get {ts : List Trip} (h : RowSh ts) : ∀ (n : Nat) (t : Trip), ts[n]? = some t → (t.2.2 = 0 ∧ (t.1 = 1 ∨ t.1 = 2)) ∨ (0 < t.2.2 ∧ (t.1 = 6 ∨ t.1 = 7) ∧ ∃ m p, n = m + 1 ∧ ts[m]? = some p ∧ p.2.2 = t.2.2 - 1) := by
  induction h with
  | nil => intro n t e; simp at e
  | @snoc ts t hs hk ih =>
    intro n t' e
    rcases Nat.lt_trichotomy n ts.length with hn | hn | hn
    · rw [List.getElem?_append_left hn] at e
      rcases ih n t' e with h1 | ⟨h1, h2, m, p, h3, h4, h5⟩
      · exact .inl h1
      · exact .inr ⟨h1, h2, m, p, h3, by rw [List.getElem?_append_left (by omega)]; exact h4, h5⟩
    · subst hn
      rw [List.getElem?_append_right (Nat.le_refl _)] at e
      simp at e
      subst e
      rcases hk with h1 | ⟨h1, h2, p, h3, h4⟩
      · exact .inl h1
      · rw [List.getLast?_eq_getElem?] at h3
        have hl : ts.length - 1 < ts.length := (List.getElem?_eq_some_iff.mp h3).1
        exact .inr ⟨h1, h2, ts.length - 1, p, by omega, by rw [List.getElem?_append_left hl]; exact h3, h4⟩
    · rw [List.getElem?_append_right (by omega)] at e
      have : n - ts.length ≠ 0 := by omega
      rw [List.getElem?_cons, if_neg this] at e
      simp at e

def ht (ts : List Trip) (n : Nat) : Nat := match ts[n]? with | some t => t.2.2.toNat | none => 0
theorem sh_ht {ts : List Trip} (h : RowSh ts) {n : Nat} {t : Trip} (e : ts[n]? = some t) : t.2.2 = (ht ts n : Int) := by
  unfold ht; rw [e]
  rcases sh_get h n t e with ⟨h1, _⟩ | ⟨h1, _⟩
  · simp [h1]
  · show t.2.2 = (t.2.2.toNat : Int); omega
theorem sh_base {ts : List Trip} (h : RowSh ts) : ∀ (n : Nat) (t : Trip), ts[n]? = some t → ht ts n ≤ n ∧ ∃ tb, ts[n - ht ts n]? = some tb ∧ tb.2.2 = 0 ∧ (tb.1 = 1 ∨ tb.1 = 2) := by
  intro n
  induction n with
  | zero =>
    intro t e
    have hh := sh_ht h e
    rcases sh_get h 0 t e with ⟨h1, h2⟩ | ⟨h1, h2, m, p, h3, _⟩
    · have : ht ts 0 = 0 := by omega
      rw [this]; exact ⟨Nat.le_refl _, t, e, h1, h2⟩
    · omega
  | succ n ih =>
    intro t e
    have hh := sh_ht h e
    rcases sh_get h (n + 1) t e with ⟨h1, h2⟩ | ⟨h1, h2, m, p, h3, h4, h5⟩
    · have : ht ts (n + 1) = 0 := by omega
      rw [this]; exact ⟨Nat.zero_le _, t, e, h1, h2⟩
    · have hm : m = n := by omega
      subst hm
      obtain ⟨i1, tb, i2, i3, i4⟩ := ih p h4
      have hp := sh_ht h h4
      have hs : ht ts (m + 1) = ht ts m + 1 := by omega
      refine ⟨by omega, tb, ?_, i3, i4⟩
      rw [hs, Nat.add_sub_add_right]; exact i2
theorem sh_prev {ts : List Trip} (h : RowSh ts) {n : Nat} {t : Trip} (e : ts[n]? = some t) (hp : 0 < ht ts n) : ∃ m p, n = m + 1 ∧ ts[m]? = some p ∧ ht ts m = ht ts n - 1 := by
  have hh := sh_ht h e
  rcases sh_get h n t e with ⟨h1, h2⟩ | ⟨h1, h2, m, p, h3, h4, h5⟩
  · omega
  · have := sh_ht h h4
    exact ⟨m, p, h3, h4, by omega⟩
theorem sh_mark {ts : List Trip} (h : RowSh ts) {n : Nat} {t : Trip} (e : ts[n]? = some t) : (0 < ht ts n ∧ (t.1 = 6 ∨ t.1 = 7)) ∨ (ht ts n = 0 ∧ (t.1 = 1 ∨ t.1 = 2)) := by
  have hh := sh_ht h e
  rcases sh_get h n t e with ⟨h1, h2⟩ | ⟨h1, h2, _⟩
  · exact .inr ⟨by omega, h2⟩
  · exact .inl ⟨by omega, h2⟩

structure RowIs (ir : Nat → Trip → IR) (ts : List Trip) (xs : IRow) : Prop where
  len : xs.length = ts.length
  at_ : ∀ (k : Nat) (t : Trip) p, ts[k]? = some t → xs[k]? = some p → p.2.2 = ir k t
theorem RowIs.get {ir ts xs} (R : RowIs ir ts xs) {k : Nat} {t : Trip} (e : ts[k]? = some t) : ∃ p, xs[k]? = some p ∧ p.2.2 = ir k t := by
  have hk : k < xs.length := by rw [R.len]; exact (List.getElem?_eq_some_iff.mp e).1
  exact ⟨xs[k], List.getElem?_eq_getElem hk, R.at_ k t _ e (List.getElem?_eq_getElem hk)⟩
theorem RowIs.mono {ir ir' ts xs} (R : RowIs ir ts xs) (h : ∀ k t, ts[k]? = some t → ir k t = ir' k t) : RowIs ir' ts xs :=
  ⟨R.len, fun k t p e e' => (R.at_ k t p e e').trans (h k t e)⟩
theorem RowIs.set {ir ir' ts} {xs : IRow} (R : RowIs ir ts xs) {n : Nat} {a b : Addr} {r : IR} (h1 : ∀ t, ts[n]? = some t → r = ir' n t) (h2 : ∀ k t, k ≠ n → ts[k]? = some t → ir k t = ir' k t) : RowIs ir' ts (xs.set n (a, b, r)) := by
  refine ⟨by rw [List.length_set]; exact R.len, fun k t p e e' => ?_⟩
  by_cases hk : k = n
  · subst hk
    have hl : k < xs.length := by rw [R.len]; exact (List.getElem?_eq_some_iff.mp e).1
    rw [List.getElem?_set_self hl] at e'; cases e'; exact h1 t e
  · rw [List.getElem?_set_ne (Ne.symm hk)] at e'; exact (R.at_ k t p e e').trans (h2 k t hk e)

def ir0 (k : Nat) (t : Trip) : IR := ⟨t.1, k, t.2.1, 0, 0, 0, Str.ofString ""⟩
def trg (ts : List Trip) (k : Nat) : Int := match ts[k]? with | some t => t.1 | none => 0
theorem trg_of {ts : List Trip} {k : Nat} {t : Trip} (e : ts[k]? = some t) : trg ts k = t.1 := by unfold trg; rw [e]
def onB (fb : Int → (Int × Int) × (Int × Int)) (ts : List Trip) (k : Nat) (g : Int) : Int × Int := let q := fb (trg ts (k - ht ts k)); if g = 6 then q.1 else q.2
def ir1 (own : Int → Int × Int) (fb : Int → (Int × Int) × (Int × Int)) (ts : List Trip) (k : Nat) (t : Trip) : IR :=
  if ht ts k = 0 then ir0 k t else (ir0 k t).put ((onB fb ts k t.1).1 - (own t.1).1) ((onB fb ts k t.1).2 - (own t.1).2) (-(ht ts k : Int))
def onM (fm : Tab) (ts : List Trip) (k : Nat) (g : Int) : Option (Int × Int) := if 1 < ht ts k then (fm (trg ts (k - 1))).bind (sel g) else none
def ir2 (own : Int → Int × Int) (fb : Int → (Int × Int) × (Int × Int)) (fm : Tab) (ts : List Trip) (k : Nat) (t : Trip) : IR :=
  match onM fm ts k t.1 with
  | some (ax, ay) => (ir0 k t).put (ax - (own t.1).1) (ay - (own t.1).2) (-1)
  | none => ir1 own fb ts k t
def baseTab (fb : Int → (Int × Int) × (Int × Int)) : Tab := fun g => if g = 1 ∨ g = 2 then some (some (fb g).1, some (fb g).2) else none

theorem rg_of {ir ts xs} (R : RowIs ir ts xs) (hg : ∀ k t, (ir k t).glyph = t.1) {k : Nat} {t : Trip} (e : ts[k]? = some t) : rglyph xs k = t.1 := by
  obtain ⟨p, hp, hr⟩ := R.get e
  rw [rglyph_of hp, hr, hg]
theorem seek_base {ts : List Trip} (h : RowSh ts) {g : Nat → Int} (hg : ∀ (k : Nat) (t : Trip), ts[k]? = some t → g k = t.1) : ∀ (n : Nat) (t : Trip), ts[n]? = some t → 0 < ht ts n → seek (fun k => ign 8 (g k)) n = ((n - ht ts n : Nat) : Int) := by
  intro n
  induction n with
  | zero => intro t e hp; obtain ⟨h1, _⟩ := sh_base h 0 t e; omega
  | succ n ih =>
    intro t e hp
    obtain ⟨m, p, h1, h2, h3⟩ := sh_prev h e hp
    have hm : m = n := by omega
    subst hm
    unfold seek
    have hgp := hg m p h2
    rcases sh_mark h h2 with ⟨k1, k2⟩ | ⟨k1, k2⟩
    · rw [if_pos (by rw [hgp]; rcases k2 with e2 | e2 <;> rw [e2] <;> rfl), ih p h2 k1]
      congr 1; omega
    · rw [if_neg (by rw [hgp]; rcases k2 with e2 | e2 <;> rw [e2] <;> decide)]
      congr 1; omega

def mix (a b : Nat → Trip → IR) (n : Nat) : Nat → Trip → IR := fun k t => if k < n then a k t else b k t
theorem mix_step {a b ts xs n} (R : RowIs (mix a b n) ts xs) (h : ∀ t, ts[n]? = some t → a n t = b n t) : RowIs (mix a b (n + 1)) ts xs := R.mono fun k t e => by
  unfold mix
  by_cases hk : k < n
  · rw [if_pos hk, if_pos (by omega)]
  · rw [if_neg hk]
    by_cases hn : k < n + 1
    · have : k = n := by omega
      subst this
      rw [if_pos hn]; exact (h t e).symm
    · rw [if_neg hn]
theorem mix_set {a b ts} {xs : IRow} {n x y r} (R : RowIs (mix a b n) ts xs) (h : ∀ t, ts[n]? = some t → r = a n t) : RowIs (mix a b (n + 1)) ts (xs.set n (x, y, r)) := R.set (fun t e => by unfold mix; rw [if_pos (by omega)]; exact h t e) fun k t hk e => by
  unfold mix
  by_cases h : k < n
  · rw [if_pos h, if_pos (by omega)]
  · rw [if_neg h, if_neg (by omega)]
theorem mix_at {a b ts xs n} (R : RowIs (mix a b n) ts xs) {t} (e : ts[n]? = some t) : ∃ p, xs[n]? = some p ∧ p.2.2 = b n t := by
  obtain ⟨p, h1, h2⟩ := R.get e
  exact ⟨p, h1, by rw [h2]; unfold mix; rw [if_neg (by omega)]⟩
theorem mix_zero {a b ts xs} (R : RowIs b ts xs) : RowIs (mix a b 0) ts xs := R.mono fun k t _ => by unfold mix; rw [if_neg (by omega)]
theorem mix_all {a b ts xs} (R : RowIs (mix a b ts.length) ts xs) : RowIs a ts xs := R.mono fun k t e => by unfold mix; rw [if_pos (List.getElem?_eq_some_iff.mp e).1]

section
variable {own : Int → Int × Int} {fb : Int → (Int × Int) × (Int × Int)} {fm : Tab} {ts : List Trip}
theorem ir1_glyph (k : Nat) (t : Trip) : (ir1 own fb ts k t).glyph = t.1 := by unfold ir1; split <;> rfl
theorem ir2_glyph (k : Nat) (t : Trip) : (ir2 own fb fm ts k t).glyph = t.1 := by
  unfold ir2; split
  · rfl
  · exact ir1_glyph k t
theorem mix_glyph {a b : Nat → Trip → IR} (ha : ∀ k t, (a k t).glyph = t.1) (hb : ∀ k t, (b k t).glyph = t.1) (n k : Nat) (t : Trip) : (mix a b n k t).glyph = t.1 := by
  unfold mix; split
  · exact ha k t
  · exact hb k t
theorem put_put (r : IR) (a b c x y z : Int) : (r.put a b c).put x y z = r.put x y z := rfl

theorem base_step (h : RowSh ts) {xs : IRow} {n : Nat} {t : Trip} (R : RowIs (mix (ir1 own fb ts) ir0 n) ts xs) (e : ts[n]? = some t) (hp : 0 < ht ts n) {o} (ho : baseTab fb (trg ts (n - ht ts n)) = some o) :
    RowIs (mix (ir1 own fb ts) ir0 (n + 1)) ts (setOn own xs n (n - ht ts n) (sel t.1 o)) := by
  obtain ⟨p, hpx, hpr⟩ := mix_at R e
  obtain ⟨hle, tb, hb1, hb2, hb3⟩ := sh_base h n t e
  have hv : sel t.1 o = some (onB fb ts n t.1) := by
    unfold baseTab at ho
    rw [trg_of hb1, if_pos hb3] at ho
    cases ho
    unfold sel onB
    rw [trg_of hb1]
    dsimp only
    split <;> rfl
  unfold setOn
  rw [hpx, hv]
  dsimp only
  refine mix_set R fun t' e' => ?_
  rw [e] at e'; cases e'
  unfold ir1
  rw [if_neg (by omega), hpr]
  have : ((n - ht ts n : Nat) : Int) - (n : Int) = -(ht ts n : Int) := by omega
  rw [this]
  rfl

theorem mark_step (h : RowSh ts) {xs : IRow} {n : Nat} {t : Trip} (R : RowIs (mix (ir2 own fb fm ts) (ir1 own fb ts) n) ts xs) (e : ts[n]? = some t) :
    RowIs (mix (ir2 own fb fm ts) (ir1 own fb ts) (n + 1)) ts (markStep own fm xs n) := by
  have hg : ∀ (k : Nat) (t : Trip), ts[k]? = some t → rglyph xs k = t.1 := fun k t e => rg_of R (mix_glyph ir2_glyph ir1_glyph n) e
  obtain ⟨p, hpx, hpr⟩ := mix_at R e
  have stay : onM fm ts n t.1 = none → RowIs (mix (ir2 own fb fm ts) (ir1 own fb ts) (n + 1)) ts xs := fun hn => mix_step R fun t' e' => by
    rw [e] at e'; cases e'
    unfold ir2; rw [hn]
  unfold markStep
  rw [hg n t e]
  rcases sh_mark h e with ⟨h1, h2⟩ | ⟨h1, h2⟩
  · rw [if_pos h2]
    obtain ⟨m, q, k1, k2, k3⟩ := sh_prev h e h1
    have hm : n - 1 = m := by omega
    rw [hm, hg m q k2]
    rcases sh_mark h k2 with ⟨j1, j2⟩ | ⟨j1, j2⟩
    · rw [if_pos j2]
      have honM : onM fm ts n t.1 = (fm q.1).bind (sel t.1) := by
        unfold onM; rw [if_pos (by omega), hm, trg_of k2]
      cases hf : fm q.1 with
      | none => exact stay (by rw [honM, hf]; rfl)
      | some o =>
        have honM' : onM fm ts n t.1 = sel t.1 o := by rw [honM, hf]; rfl
        dsimp only
        cases hs : sel t.1 o with
        | none =>
          have hx : setOn own xs n m none = xs := by unfold setOn; split <;> first | rfl | (rename_i a b; cases b)
          rw [hx]; exact stay (by rw [honM', hs])
        | some a =>
          obtain ⟨ax, ay⟩ := a
          unfold setOn
          rw [hpx]
          dsimp only
          refine mix_set R fun t' e' => ?_
          rw [e] at e'; cases e'
          have hir : ir2 own fb fm ts n t = (ir0 n t).put (ax - (own t.1).1) (ay - (own t.1).2) (-1) := by unfold ir2; rw [honM', hs]
          have hpi : p.2.2.glyph = t.1 := by rw [hpr]; exact ir1_glyph n t
          rw [hir, hpi, hpr, show ((m : Int) - (n : Int)) = -1 by omega]
          unfold ir1
          split <;> rfl
    · rw [if_neg (by rcases j2 with e2 | e2 <;> rw [e2] <;> decide)]
      exact stay (by unfold onM; rw [if_neg (by omega)])
  · rw [if_neg (by rcases h2 with e2 | e2 <;> rw [e2] <;> decide)]
    exact stay (by unfold onM; rw [if_neg (by omega)])

theorem ir1_par (h : RowSh ts) {k : Nat} {t : Trip} (e : ts[k]? = some t) : (ir1 own fb ts k t).par = 0 ∨ ((ir1 own fb ts k t).par < 0 ∧ 0 ≤ (k : Int) + (ir1 own fb ts k t).par ∧ (ir1 own fb ts k t).bond = Str.ofString "mark") := by
  obtain ⟨h1, _⟩ := sh_base h k t e
  unfold ir1
  by_cases hz : ht ts k = 0
  · rw [if_pos hz]; exact .inl rfl
  · rw [if_neg hz]
    refine .inr ⟨?_, ?_, rfl⟩
    · show -(ht ts k : Int) < 0; omega
    · show 0 ≤ (k : Int) + -(ht ts k : Int); omega
theorem ir2_par (h : RowSh ts) {k : Nat} {t : Trip} (e : ts[k]? = some t) : (ir2 own fb fm ts k t).par = 0 ∨ ((ir2 own fb fm ts k t).par < 0 ∧ 0 ≤ (k : Int) + (ir2 own fb fm ts k t).par ∧ (ir2 own fb fm ts k t).bond = Str.ofString "mark") := by
  obtain ⟨h1, _⟩ := sh_base h k t e
  unfold ir2
  split
  · rename_i ax ay hm
    have : 1 < ht ts k := by
      unfold onM at hm
      split at hm
      · assumption
      · cases hm
    refine .inr ⟨?_, ?_, rfl⟩
    · show (-1 : Int) < 0; omega
    · show 0 ≤ (k : Int) + -1; omega
  · exact ir1_par h e
theorem down_of {ir : Nat → Trip → IR} {xs : IRow} (R : RowIs ir ts xs) (hp : ∀ (k : Nat) (t : Trip), ts[k]? = some t → (ir k t).par = 0 ∨ ((ir k t).par < 0 ∧ 0 ≤ (k : Int) + (ir k t).par ∧ (ir k t).bond = Str.ofString "mark")) : DownM xs := fun k p e => by
  have hk : k < ts.length := by rw [← R.len]; exact (List.getElem?_eq_some_iff.mp e).1
  have e' : ts[k]? = some ts[k] := List.getElem?_eq_getElem hk
  rw [R.at_ k _ p e' e]; exact hp k _ e'
theorem DownM.down {xs : IRow} (h : DownM xs) (n : Nat) : Down xs n := fun k p _ e => by
  rcases h k p e with h1 | ⟨h1, h2, _⟩
  · exact .inl h1
  · exact .inr ⟨h1, h2⟩
theorem mix_par {a b : Nat → Trip → IR} {k : Nat} {t : Trip} {P : IR → Prop} (n : Nat) (ha : P (a k t)) (hb : P (b k t)) : P (mix a b n k t) := by unfold mix; split <;> assumption
end

def xaL (xs : IRow) : List Int := xs.map fun p => p.2.2.xa
theorem sumXa_eq (xs : IRow) (i m : Nat) : sumXa xs i m = (((xaL xs).drop i).take m).sum := by unfold sumXa xaL; rw [List.map_take, List.map_drop]
theorem sumXa_congr {xs ys : IRow} (h : xaL xs = xaL ys) (i m : Nat) : sumXa xs i m = sumXa ys i m := by rw [sumXa_eq, sumXa_eq, h]
theorem sumXa_split (xs : IRow) {k n : Nat} (h : k ≤ n) : sumXa xs 0 n = sumXa xs 0 k + sumXa xs k (n - k) := by
  rw [sumXa_eq, sumXa_eq, sumXa_eq]
  have : n = k + (n - k) := by omega
  rw [List.drop_zero]
  conv => lhs; rw [this]
  rw [List.take_add, List.sum_append]
theorem sumXa_tail (xs : IRow) {k n : Nat} (h : k ≤ n) : sumXa xs (k + 1) xs.length = sumXa xs (k + 1) (n - k) + sumXa xs (n + 1) xs.length := by
  have hl : xs.length = (xaL xs).length := by unfold xaL; simp
  rw [sumXa_eq, sumXa_eq, sumXa_eq, hl, List.take_of_length_le (by simp), List.take_of_length_le (l := (xaL xs).drop (n + 1)) (by simp)]
  have e := List.take_append_drop (n - k) ((xaL xs).drop (k + 1))
  conv => lhs; rw [← e]
  rw [List.sum_append, List.drop_drop, show k + 1 + (n - k) = n + 1 by omega]
theorem xaL_set {xs : IRow} {n : Nat} {p : Addr × Addr × IR} {a b : Addr} {r : IR} (hp : xs[n]? = some p) (hr : r.xa = p.2.2.xa) : xaL (xs.set n (a, b, r)) = xaL xs := by
  unfold xaL
  rw [List.map_set]
  apply List.ext_getElem?
  intro j
  by_cases hj : n = j
  · subst hj
    have hn := (List.getElem?_eq_some_iff.mp hp).1
    rw [List.getElem?_set_self (by simpa using hn), List.getElem?_map, hp]
    simp [hr]
  · rw [List.getElem?_set_ne hj]
theorem settAt_xa (b : Bool) (xs : IRow) (n : Nat) : xaL (settAt b xs n) = xaL xs := by
  unfold settAt
  split
  · rename_i p hp
    split
    · rfl
    · split
      · exact xaL_set hp rfl
      · rfl
  · rfl
theorem settAll_xa (b : Bool) (xs : IRow) : ∀ n, xaL (settAll b xs n) = xaL xs
  | 0 => rfl
  | n + 1 => by rw [settAll, settAt_xa, settAll_xa b xs n]
theorem settAll_stable (b : Bool) (xs : IRow) {n : Nat} : ∀ {N : Nat}, n < N → (settAll b xs N)[n]? = (settAll b xs (n + 1))[n]?
  | 0, h => by omega
  | N + 1, h => by
    by_cases hn : n = N
    · subst hn; rfl
    · rw [settAll, settAt_ne _ _ _ (by omega), settAll_stable b xs (by omega)]

section
variable {own : Int → Int × Int} {fb : Int → (Int × Int) × (Int × Int)} {fm : Tab} {ts : List Trip}
theorem settle_at {b : Bool} {xs : IRow} (hD : DownM xs) {n : Nat} {p : Addr × Addr × IR} (hp : xs[n]? = some p) :
    (p.2.2.par = 0 ∧ (settAll b xs xs.length)[n]? = some p) ∨
    ∃ k q r, k < n ∧ (n : Int) + p.2.2.par = (k : Int) ∧ (settAll b xs xs.length)[k]? = some q ∧ (settAll b xs xs.length)[n]? = some r ∧ plc b (settAll b xs xs.length) n = ((plc b (settAll b xs xs.length) k).1 + p.2.2.xo, (plc b (settAll b xs xs.length) k).2 + p.2.2.yo) := by
  have hn := (List.getElem?_eq_some_iff.mp hp).1
  have hYn : (settAll b xs n)[n]? = some p := by rw [settAll_ge _ _ _ (Nat.le_refl _)]; exact hp
  have hlast : (settAll b xs xs.length)[n]? = (settAt b (settAll b xs n) n)[n]? := by rw [settAll_stable b xs hn]; rfl
  rcases settAt_step (b := b) hYn (by rcases hD n p hp with h | ⟨h1, h2, _⟩; exact .inl h; exact .inr ⟨h1, h2⟩) with ⟨h1, h2⟩ | ⟨k, q, h1, h2, h3, h4, h5⟩
  · exact .inl ⟨h1, by rw [hlast, h2]; exact hYn⟩
  · have hk : (settAll b xs xs.length)[k]? = some q := by
      rw [← h4, settAll_stable b xs (show k < xs.length by omega), settAll_stable b xs h1]
    have hr : (settAll b xs xs.length)[n]? = some (p.1, p.2.1, ((p.2.2.sp 0).sxy (p.2.2.xo + q.2.2.xo) (p.2.2.yo + q.2.2.yo)).sx (p.2.2.xo + q.2.2.xo + (if b then sumXa (settAll b xs n) (k + 1) (n - k) else - sumXa (settAll b xs n) k (n - k)))) := by
      rw [hlast, h5]
      unfold settOne
      rw [List.getElem?_set_self (by rw [settAll_len]; omega)]
    refine .inr ⟨k, q, _, h1, h2, hk, hr, ?_⟩
    have hcong : ∀ i m, sumXa (settAll b xs n) i m = sumXa (settAll b xs xs.length) i m := sumXa_congr (by rw [settAll_xa, settAll_xa])
    unfold plc
    rw [hk, hr]
    dsimp only [IR.sx, IR.sxy, IR.sp]
    rw [hcong, hcong]
    cases b with
    | true =>
      rw [if_pos rfl, if_pos rfl, if_pos rfl]
      have := sumXa_tail (settAll true xs xs.length) (Nat.le_of_lt h1)
      refine Prod.ext ?_ ?_
      · dsimp only; omega
      · dsimp only; omega
    | false =>
      simp only [Bool.false_eq_true, if_false]
      have := sumXa_split (settAll false xs xs.length) (Nat.le_of_lt h1)
      refine Prod.ext ?_ ?_
      · dsimp only; omega
      · dsimp only; omega

structure Settled (b : Bool) (own : Int → Int × Int) (fb : Int → (Int × Int) × (Int × Int)) (fm : Tab) (ts : List Trip) (ys : IRow) : Prop where
  len : ys.length = ts.length
  par : ∀ p ∈ ys, p.2.2.par = 0
  xa : ∀ (n : Nat) (t : Trip) p, ts[n]? = some t → ys[n]? = some p → p.2.2.xa = t.2.1
  base : ∀ (n : Nat) (t : Trip) p, ts[n]? = some t → ys[n]? = some p → ht ts n = 0 → p.2.2.xo = 0 ∧ p.2.2.yo = 0
  mark : ∀ (n : Nat) (t : Trip), ts[n]? = some t → 0 < ht ts n → plc b ys n = match onM fm ts n t.1 with
    | some g => ((plc b ys (n - 1)).1 + g.1 - (own t.1).1, (plc b ys (n - 1)).2 + g.2 - (own t.1).2)
    | none => ((plc b ys (n - ht ts n)).1 + (onB fb ts n t.1).1 - (own t.1).1, (plc b ys (n - ht ts n)).2 + (onB fb ts n t.1).2 - (own t.1).2)
theorem settled {b : Bool} {xs : IRow} (h : RowSh ts) (R : RowIs (ir2 own fb fm ts) ts xs) : Settled b own fb fm ts (settAll b xs xs.length) := by
  have hD : DownM xs := down_of R fun k t e => ir2_par h e
  refine ⟨by rw [settAll_len]; exact R.len, fun p hp => ?_, fun n t p e e' => ?_, fun n t p e e' hz => ?_, fun n t e hpos => ?_⟩
  · obtain ⟨j, hj⟩ := List.getElem?_of_mem hp
    have hjl := (List.getElem?_eq_some_iff.mp hj).1
    rw [settAll_len] at hjl
    exact settAll_par hD xs.length (Nat.le_refl _) j p hjl hj
  · obtain ⟨p0, h1, h2⟩ := R.get e
    have e1 : (xaL (settAll b xs xs.length))[n]? = some p.2.2.xa := by unfold xaL; rw [List.getElem?_map, e']; rfl
    have e2 : (xaL xs)[n]? = some p0.2.2.xa := by unfold xaL; rw [List.getElem?_map, h1]; rfl
    rw [settAll_xa, e2] at e1
    rw [← Option.some.inj e1, h2]
    unfold ir2; split
    · rfl
    · unfold ir1; split <;> rfl
  · obtain ⟨p0, h1, h2⟩ := R.get e
    have hi : ir2 own fb fm ts n t = ir0 n t := by
      have hm : onM fm ts n t.1 = none := by unfold onM; rw [if_neg (by omega)]
      unfold ir2; rw [hm]; dsimp only; unfold ir1; rw [if_pos hz]
    rcases settle_at (b := b) hD h1 with ⟨k1, k2⟩ | ⟨k, q, r, k1, k2, _⟩
    · rw [e'] at k2; cases k2; rw [h2, hi]; exact ⟨rfl, rfl⟩
    · rw [h2, hi] at k2
      have : (n : Int) + 0 = (k : Int) := k2
      omega
  · obtain ⟨p0, h1, h2⟩ := R.get e
    have hh := sh_base h n t e
    cases hm : onM fm ts n t.1 with
    | some g =>
      obtain ⟨ax, ay⟩ := g
      have hi : ir2 own fb fm ts n t = (ir0 n t).put (ax - (own t.1).1) (ay - (own t.1).2) (-1) := by unfold ir2; rw [hm]
      rcases settle_at (b := b) hD h1 with ⟨k1, k2⟩ | ⟨k, q, r, k1, k2, k3, k4, k5⟩
      · rw [h2, hi] at k1; cases k1
      · rw [h2, hi] at k2
        have k2' : (n : Int) + -1 = (k : Int) := k2
        have : k = n - 1 := by omega
        subst this
        rw [k5, h2, hi]
        refine Prod.ext ?_ ?_
        · show _ + (ax - (own t.1).1) = _ + ax - _; omega
        · show _ + (ay - (own t.1).2) = _ + ay - _; omega
    | none =>
      have hi : ir2 own fb fm ts n t = (ir0 n t).put ((onB fb ts n t.1).1 - (own t.1).1) ((onB fb ts n t.1).2 - (own t.1).2) (-(ht ts n : Int)) := by unfold ir2; rw [hm]; dsimp only; unfold ir1; rw [if_neg (by omega)]
      rcases settle_at (b := b) hD h1 with ⟨k1, k2⟩ | ⟨k, q, r, k1, k2, k3, k4, k5⟩
      · rw [h2, hi] at k1
        have : -(ht ts n : Int) = 0 := k1
        omega
      · rw [h2, hi] at k2
        have k2' : (n : Int) + -(ht ts n : Int) = (k : Int) := k2
        have : k = n - ht ts n := by omega
        subst this
        rw [k5, h2, hi]
        refine Prod.ext ?_ ?_
        · show _ + ((onB fb ts n t.1).1 - (own t.1).1) = _ + (onB fb ts n t.1).1 - _; omega
        · show _ + ((onB fb ts n t.1).2 - (own t.1).2) = _ + (onB fb ts n t.1).2 - _; omega
end

def LawIs (P : Params) (scope : Scope) (body : List Stmt) : Prop := ∃ oc od osl name qual params dV kV doc pm cdv ct an, (Mine.hd.heap_1 P).lookup 559 = some ⟨oc, od, .func (fnOf name qual params body scope dV kV doc pm an cdv ct), osl⟩
abbrev lawCx (w : World) (A : Around) (scope : Scope) (L a : Addr) (ccd : Value) (h₀ : Heap) : Cx := ⟨w, A, Str.ofString "law", scope, L, a, ccd, cellsFrom (L + 1) scope.names [], h₀, L + 1⟩
theorem law_go {P : Params} {scope scope' : Scope} {body body' : List Stmt} {name qual : Str} {params : Arguments} {dV kV doc pm cdv ct oc : Value} {an od : Option Addr} {osl : Array (Option Value)} {G : Prop} (hb : LawIs P scope body)
    (ho : (Mine.hd.heap_1 P).lookup 559 = some ⟨oc, od, .func (fnOf name qual params body' scope' dV kV doc pm an cdv ct), osl⟩) (h : scope = scope' → body = body' → G) : G := by
  obtain ⟨oc, od, osl, name, qual, params, dV, kV, doc, pm, cdv, ct, an, hb⟩ := hb
  rw [hb] at ho
  injection ho with ho
  injection ho with e1 e2 e3 e4
  injection e3 with e3
  have hs := congrArg FuncData.scope e3
  have hbd := congrArg FuncData.body e3
  unfold fnOf at hs hbd
  dsimp only at hs hbd
  injection hbd with hbd
  exact h hs hbd

def placeAt (H : AHeap) (a : AV) (o : Option (Int × Int)) : Prop := match o with
  | none => a = .none
  | some (x, y) => ∃ l, a = .ref l ∧ H l = some (.tup [.int x, .int y])
abbrev Two := Option (Int × Int) × Option (Int × Int)
def PairAt (S : List Addr) (H : AHeap) (a : AV) (o : Two) : Prop := ∃ l b0 b1, a = .ref l ∧ l ∉ S ∧ H l = some (.list [b0, b1]) ∧ placeAt H b0 o.1 ∧ placeAt H b1 o.2
structure OnTab (S : List Addr) (H : AHeap) (d : Addr) (qs : List (Int × Two)) : Prop where
  ex : ∃ kv ep, H d = some (.dict kv ep) ∧ All2 (fun (p : Int × AV) (q : Int × Two) => p.1 = q.1 ∧ PairAt S H p.2 q.2) kv qs
structure OwnOK (H : AHeap) (od : Addr) (own : Int → Int × Int) : Prop where
  ex : ∃ ep t6 t7 u6 u7, H od = some (.dict [(6, .ref t6), (7, .ref t7)] ep) ∧ H t6 = some (.tup [.int 0, .ref u6]) ∧ H t7 = some (.tup [.int 1, .ref u7]) ∧ H u6 = some (.tup [.int (own 6).1, .int (own 6).2]) ∧ H u7 = some (.tup [.int (own 7).1, .int (own 7).2])
structure LF (L pe cl : Addr) (n : Int) (v2 v3 v4 : Option AV) (rw : Addr) (ts : List Trip) (H : AHeap) : Prop where
  d1 : H (L + 1) = some (.cell (some (.ref pe)))
  d2 : H (L + 1 + 1) = some (.cell v2)
  d3 : H (L + 1 + 1 + 1) = some (.cell v3)
  d4 : H (L + 1 + 1 + 1 + 1) = some (.cell v4)
  P : PenOK H pe cl n
  R : RInv H rw ts
theorem PenOK.get {H pe cl n} (P : PenOK H pe cl n) : ∃ xs, H pe = some (.list xs) := by
  obtain ⟨ks, gr, st, pl, as, h1, _⟩ := P.ex
  exact ⟨_, h1⟩
theorem LF.draw {L pe cl n v2 v3 v4 rw ts H H' n'} (F : LF L pe cl n v2 v3 v4 rw ts H) (hrw : rw ≠ pe) (x : ExtP pe H H') (P' : PenOK H' pe cl n') : LF L pe cl n' v2 v3 v4 rw ts H' := by
  obtain ⟨xs, hp⟩ := F.P.get
  have ne : ∀ a v, H a = some (.cell v) → a ≠ pe := fun a v h e => by rw [e, hp] at h; cases h
  exact ⟨x _ _ (ne _ _ F.d1) F.d1, x _ _ (ne _ _ F.d2) F.d2, x _ _ (ne _ _ F.d3) F.d3, x _ _ (ne _ _ F.d4) F.d4, P', F.R.ext (ExtP.toT F.P x) fun as e => x _ _ hrw e⟩
theorem LF.ext {L pe cl n v2 v3 v4 rw ts H H'} (F : LF L pe cl n v2 v3 v4 rw ts H) (x : Ext H H') : LF L pe cl n v2 v3 v4 rw ts H' :=
  ⟨x _ _ F.d1, x _ _ F.d2, x _ _ F.d3, x _ _ F.d4, F.P.ext x, F.R.ext x.toT fun as e => x _ _ e⟩
theorem LF.new {L pe cl n v2 v3 v4 rw ts H} (F : LF L pe cl n v2 v3 v4 rw ts H) {l o} (hl : H l = none) : LF L pe cl n v2 v3 v4 rw ts (H.set l o) := F.ext ((Ext.refl _).set hl)
theorem LF.ne {L pe cl n v2 v3 v4 rw ts H} (F : LF L pe cl n v2 v3 v4 rw ts H) {l} (hl : H l = none) : l ≠ pe := Ne.symm (F.P.neN hl).1

theorem LF.setN {L pe cl n v2 v3 v4 rw ts H} (F : LF L pe cl n v2 v3 v4 rw ts H) {l o} (h1 : l ≠ L + 1) (h2 : l ≠ L + 1 + 1) (h3 : l ≠ L + 1 + 1 + 1) (h4 : l ≠ L + 1 + 1 + 1 + 1) (hl : ∀ x, H l ≠ some (.list x)) (ht : ∀ x, H l ≠ some (.tup x)) : LF L pe cl n v2 v3 v4 rw ts (H.set l o) := by
  obtain ⟨as, hr, _⟩ := F.R.ex
  exact ⟨(AHeap.set_ne _ _ (Ne.symm h1)).trans F.d1, (AHeap.set_ne _ _ (Ne.symm h2)).trans F.d2, (AHeap.set_ne _ _ (Ne.symm h3)).trans F.d3, (AHeap.set_ne _ _ (Ne.symm h4)).trans F.d4, F.P.setX (F.P.ne hl),
    F.R.ext (fun a ys e => by rw [AHeap.set_ne _ _ (fun q => by rw [q] at e; exact ht _ e)]; exact e) fun as e => by rw [AHeap.set_ne _ _ (fun q => by rw [q] at e; exact hl _ e)]; exact e⟩
theorem LF.setD {L pe cl n v2 v3 v4 rw ts H} (F : LF L pe cl n v2 v3 v4 rw ts H) {l kv ep o} (hl : H l = some (.dict kv ep)) : LF L pe cl n v2 v3 v4 rw ts (H.set l o) :=
  F.setN (fun e => by rw [e, F.d1] at hl; cases hl) (fun e => by rw [e, F.d2] at hl; cases hl) (fun e => by rw [e, F.d3] at hl; cases hl) (fun e => by rw [e, F.d4] at hl; cases hl) (fun x e => by rw [hl] at e; cases e) (fun x e => by rw [hl] at e; cases e)
theorem addr_ne {L : Addr} {i j : Nat} (h : i ≠ j) : L + i ≠ L + j := fun e => h (Nat.add_left_cancel e)
theorem q12 {L : Addr} : L + 1 ≠ L + 1 + 1 := addr_ne (L := L) (i := 1) (j := 2) (by decide)
theorem q13 {L : Addr} : L + 1 ≠ L + 1 + 1 + 1 := addr_ne (L := L) (i := 1) (j := 3) (by decide)
theorem q14 {L : Addr} : L + 1 ≠ L + 1 + 1 + 1 + 1 := addr_ne (L := L) (i := 1) (j := 4) (by decide)
theorem q23 {L : Addr} : L + 1 + 1 ≠ L + 1 + 1 + 1 := addr_ne (L := L) (i := 2) (j := 3) (by decide)
theorem q24 {L : Addr} : L + 1 + 1 ≠ L + 1 + 1 + 1 + 1 := addr_ne (L := L) (i := 2) (j := 4) (by decide)
theorem q34 {L : Addr} : L + 1 + 1 + 1 ≠ L + 1 + 1 + 1 + 1 := addr_ne (L := L) (i := 3) (j := 4) (by decide)
theorem LF.cell_any {L pe cl n v2 v3 v4 rw ts H} (F : LF L pe cl n v2 v3 v4 rw ts H) {l v o} (hl : H l = some (.cell v)) : PenOK (H.set l o) pe cl n ∧ RInv (H.set l o) rw ts :=
  ⟨F.P.setX (F.P.ne fun x e => by rw [hl] at e; cases e), F.R.ext (fun a ys e => by rw [AHeap.set_ne _ _ (fun q => by rw [q, hl] at e; cases e)]; exact e) fun as e => by rw [AHeap.set_ne _ _ (fun q => by rw [q, hl] at e; cases e)]; exact e⟩
theorem LF.set2 {L pe cl n v2 v3 v4 rw ts H} (F : LF L pe cl n v2 v3 v4 rw ts H) (v) : LF L pe cl n v v3 v4 rw ts (H.set (L + 1 + 1) (.cell v)) :=
  ⟨(AHeap.set_ne _ _ q12).trans F.d1, AHeap.set_self _ _ _, (AHeap.set_ne _ _ (Ne.symm q23)).trans F.d3, (AHeap.set_ne _ _ (Ne.symm q24)).trans F.d4, (F.cell_any F.d2).1, (F.cell_any F.d2).2⟩
theorem LF.set3 {L pe cl n v2 v3 v4 rw ts H} (F : LF L pe cl n v2 v3 v4 rw ts H) (v) : LF L pe cl n v2 v v4 rw ts (H.set (L + 1 + 1 + 1) (.cell v)) :=
  ⟨(AHeap.set_ne _ _ q13).trans F.d1, (AHeap.set_ne _ _ q23).trans F.d2, AHeap.set_self _ _ _, (AHeap.set_ne _ _ (Ne.symm q34)).trans F.d4, (F.cell_any F.d3).1, (F.cell_any F.d3).2⟩
theorem LF.set4 {L pe cl n v2 v3 v4 rw ts H} (F : LF L pe cl n v2 v3 v4 rw ts H) (v) : LF L pe cl n v2 v3 v rw ts (H.set (L + 1 + 1 + 1 + 1) (.cell v)) :=
  ⟨(AHeap.set_ne _ _ q14).trans F.d1, (AHeap.set_ne _ _ q24).trans F.d2, (AHeap.set_ne _ _ q34).trans F.d3, AHeap.set_self _ _ _, (F.cell_any F.d4).1, (F.cell_any F.d4).2⟩
theorem set_cell {H : AHeap} {l v o a x} (hl : H l = some (.cell v)) (h : H a = some x) (hx : ∀ u, x ≠ .cell u) : (H.set l o) a = some x := (AHeap.set_ne _ _ (fun e => by rw [e, hl] at h; cases h; exact hx _ rfl)).trans h
theorem OwnOK.extP {pe cl n H H' od own} (h : OwnOK H od own) (P : PenOK H pe cl n) (x : ExtP pe H H') : OwnOK H' od own := by
  obtain ⟨xs, hp⟩ := P.get
  obtain ⟨ep, t6, t7, u6, u7, h1, h2, h3, h4, h5⟩ := h.ex
  have ne : ∀ a o, H a = some o → (∀ ys, o ≠ .list ys) → a ≠ pe := fun a o e hn q => by rw [q, hp] at e; cases e; exact hn _ rfl
  exact ⟨⟨ep, t6, t7, u6, u7, x _ _ (ne _ _ h1 fun _ e => by cases e) h1, x _ _ (ne _ _ h2 fun _ e => by cases e) h2, x _ _ (ne _ _ h3 fun _ e => by cases e) h3, x _ _ (ne _ _ h4 fun _ e => by cases e) h4, x _ _ (ne _ _ h5 fun _ e => by cases e) h5⟩⟩
theorem OwnOK.ext {H H' od own} (h : OwnOK H od own) (x : Ext H H') : OwnOK H' od own := by
  obtain ⟨ep, t6, t7, u6, u7, h1, h2, h3, h4, h5⟩ := h.ex
  exact ⟨⟨ep, t6, t7, u6, u7, x _ _ h1, x _ _ h2, x _ _ h3, x _ _ h4, x _ _ h5⟩⟩

set_option maxHeartbeats 4000000 in
theorem segA1 {w A L a ccd h₀ d} {scope : Scope} {body rest : List Stmt} {Q : Fl → Loc → AHeap → Prop} (hb : LawIs w.params scope body) (ok : (lawCx w A scope L a ccd h₀).OK (d + 5)) {H : AHeap} {sa : Addr} {vs : List Value} {ns : List Int}
    (hsa : ∃ ob, h₀.get? sa = some ob ∧ ob.cls = .type "list" ∧ ∃ n, ob.data = .seq vs.toArray n) (hI : IntsAre vs ns) (hlen : ns.length ≤ 63)
    (c1 : H (L + 1) = some (.cell none)) (c2 : H (L + 1 + 1) = some (.cell none)) (c3 : H (L + 1 + 1 + 1) = some (.cell none)) (c4 : H (L + 1 + 1 + 1 + 1) = some (.cell none))
    (k : ∀ H' pe cl b rw od own ts, LF L pe cl 45 (some (.ref od)) none none rw ts H' → rw ≠ pe → RowSh ts → 0 < ts.length → ts.length ≤ 15 → OwnOK H' od own → WS (lawCx w A scope L a ccd h₀) rest [(Str.ofString "row", .ref rw), (Str.ofString "is_backward", .bool b)] H' Q) : WS (lawCx w A scope L a ccd h₀) (body.take 4 ++ rest) [(Str.ofString "script", .ref sa)] H Q := by
  ((refine' law_go hb ?ho_142 ?_; (case ho_142 => k_is); intro e1 e2; subst e1; subst e2; simp only [List.take_succ_cons, List.take_zero, List.drop_succ_cons, List.drop_zero, List.cons_append, List.nil_append]))
  (wtm_at "mine.wx")
  (((with_reducible refine' E_call (fa := 535) ?k0_144 ?k1_144 ?k2_144 ?k3_144 ?k4_144); (case k0_144 => assumption); (case k2_144 => k_is); (case k3_144 => with_unfolding_all rfl); (case k4_144 => with_unfolding_all rfl); (wtm_at "mine.w_name"); refine ⟨rfl, ?_⟩))
  (wtm_at "mine.wx")
  refine Call_code (law_pen_spec (by assumption) hsa hI hlen fun pe cl H1 x1 hpe hcl P1 => ?_)
  have c1' := x1 _ _ c1
  have c2' := x1 _ _ c2
  have c3' := x1 _ _ c3
  have c4' := x1 _ _ c4
  have n1 := ne_of c1 hpe
  have n2 := ne_of c2 hpe
  have n3 := ne_of c3 hpe
  have n4 := ne_of c4 hpe
  have m1 := ne_of c1 hcl
  have m2 := ne_of c2 hcl
  have m3 := ne_of c3 hcl
  have m4 := ne_of c4 hcl
  have q12 : L + 1 + 1 ≠ L + 1 := Nat.ne_of_gt (Nat.lt_succ_self _)
  have q13 : L + 1 + 1 + 1 ≠ L + 1 := Nat.ne_of_gt (Nat.lt_succ_of_lt (Nat.lt_succ_self _))
  have q14 : L + 1 + 1 + 1 + 1 ≠ L + 1 := Nat.ne_of_gt (Nat.lt_succ_of_lt (Nat.lt_succ_of_lt (Nat.lt_succ_self _)))
  clear c1 c2 c3 c4
  (wtm_at "mine.wx")
  ((refine' A_cell ?k1_148 ?k2_148 ?k3_148 ?k4_148 ?_; (case k1_148 => exact rfl); (case k2_148 => exact rfl); (case k3_148 => exact rfl); (case k4_148 => wtm_at "mine.hlk")))
  have P2 := P1.setX (l := L + 1) (o := .cell (some (.ref pe))) ⟨Ne.symm n1, Ne.symm m1⟩
  have d1 : (H1.set (L + 1) (.cell (some (.ref pe)))) (L + 1) = some (.cell (some (.ref pe))) := AHeap.set_self _ _ _
  have d2 := (AHeap.set_ne H1 (.cell (some (.ref pe))) q12).trans c2'
  have d3 := (AHeap.set_ne H1 (.cell (some (.ref pe))) q13).trans c3'
  have d4 := (AHeap.set_ne H1 (.cell (some (.ref pe))) q14).trans c4'
  generalize H1.set (L + 1) (.cell (some (.ref pe))) = H2 at P2 d1 d2 d3 d4 ⊢
  clear c1' c2' c3' c4' P1 x1
  -- is_backward
  (wtm_at "mine.wx")
  (((with_reducible refine' E_call (fa := 542) ?k0_150 ?k1_150 ?k2_150 ?k3_150 ?k4_150); (case k0_150 => assumption); (case k2_150 => k_is); (case k3_150 => with_unfolding_all rfl); (case k4_150 => with_unfolding_all rfl); (wtm_at "mine.w_name"); refine ⟨rfl, ?_⟩))
  (wtm_at "mine.wx")
  refine Call_code (draw_spec (by assumption) P2 (by decide) (by decide) (by decide) fun v H3 v0 v1 x3 P3 => ?_)
  have d1 := x3 _ _ n1 d1
  have d2 := x3 _ _ n2 d2
  have d3 := x3 _ _ n3 d3
  have d4 := x3 _ _ n4 d4
  clear P2 x3
  (wtm_at "mine.wx")

  -- row
  (((with_reducible refine' E_call (fa := 549) ?k0_154 ?k1_154 ?k2_154 ?k3_154 ?k4_154); (case k0_154 => assumption); (case k2_154 => k_is); (case k3_154 => with_unfolding_all rfl); (case k4_154 => with_unfolding_all rfl); (wtm_at "mine.w_name"); refine ⟨rfl, ?_⟩))
  (wtm_at "mine.wx")
  refine Call_code (law_row_spec (by assumption) P3 (by decide) fun rw ts H4 x4 P4 hrw R4 sh4 l4 l4' => ?_)
  have nrw := P3.neN hrw
  have r2 := ne_of d2 hrw
  have r3 := ne_of d3 hrw
  have r4 := ne_of d4 hrw
  have d1 := x4 _ _ n1 d1
  have d2 := x4 _ _ n2 d2
  have d3 := x4 _ _ n3 d3
  have d4 := x4 _ _ n4 d4
  clear P3 x4
  (wtm_at "mine.wx")
  -- own
  (((with_reducible refine' E_dict ?a_158 ?b_158 ?c_158 ?d_158 ?_); (case a_158 => exact rfl); (case b_158 => exact rfl); (case c_158 => simp); (case d_158 => decide)))
  intro od hod
  have F4 : LF L pe cl (0 + 1 + 40) none none none rw ts H4 := ⟨d1, d2, d3, d4, P4, R4⟩
  clear R4 P4 d1 d2 d3 d4
  have hrp : rw ≠ pe := Ne.symm nrw.1
  have nod := F4.ne hod
  have F5 := F4.new hod (o := .dict [] 0)
  have ho5 : (H4.set od (.dict [] 0)) od = some (.dict [] 0) := AHeap.set_self _ _ _
  generalize H4.set od (.dict [] 0) = H5 at F5 ho5 ⊢
  have d1 := F5.d1
  (wtm_at "mine.wx")
  refine ⟨6, rfl, ?_⟩
  (wtm_at "mine.wx")
  (((with_reducible refine' E_call (fa := 542) ?k0_161 ?k1_161 ?k2_161 ?k3_161 ?k4_161); (case k0_161 => assumption); (case k2_161 => k_is); (case k3_161 => with_unfolding_all rfl); (case k4_161 => with_unfolding_all rfl); (wtm_at "mine.w_name"); refine ⟨rfl, ?_⟩))
  (wtm_at "mine.wx")
  refine Call_code (draw_spec (by assumption) F5.P (by decide) (by decide) (by decide) fun a6 H6 _ _ x6 P6 => ?_)
  have F6 := F5.draw hrp x6 P6
  have ho6 := x6 _ _ nod ho5
  have d1 := F6.d1
  (wtm_at "mine.wx")
  (((with_reducible refine' E_call (fa := 542) ?k0_165 ?k1_165 ?k2_165 ?k3_165 ?k4_165); (case k0_165 => assumption); (case k2_165 => k_is); (case k3_165 => with_unfolding_all rfl); (case k4_165 => with_unfolding_all rfl); (wtm_at "mine.w_name"); refine ⟨rfl, ?_⟩))
  (wtm_at "mine.wx")
  refine Call_code (draw_spec (by assumption) F6.P (by decide) (by decide) (by decide) fun b6 H7 _ _ x7 P7 => ?_)
  have F7 := F6.draw hrp x7 P7
  have ho7 := x7 _ _ nod ho6
  have d1 := F7.d1
  (wtm_at "mine.wx")
  refine ⟨by simp, fun u6 hu6 => ?_⟩
  have nu6 := F7.ne hu6
  have F8 := F7.new hu6 (o := .tup [.int a6, .int b6])
  have ho8 := set_get ho7 hu6 (o' := .tup [.int a6, .int b6])
  have hu68 : (H7.set u6 (.tup [.int a6, .int b6])) u6 = some (.tup [.int a6, .int b6]) := AHeap.set_self _ _ _
  generalize H7.set u6 (.tup [.int a6, .int b6]) = H8 at F8 ho8 hu68 ⊢
  clear F7 F6 F5 F4 ho7 ho6 ho5 x6 x7 P6 P7
  (wtm_at "mine.wx")
  refine ⟨by simp, fun t6 ht6 => ?_⟩
  have nt6 := F8.ne ht6
  have F9 := F8.new ht6 (o := .tup [.int 0, .ref u6])
  have ho9 := set_get ho8 ht6 (o' := .tup [.int 0, .ref u6])
  have hu69 := set_get hu68 ht6 (o' := .tup [.int 0, .ref u6])
  have ht69 : (H8.set t6 (.tup [.int 0, .ref u6])) t6 = some (.tup [.int 0, .ref u6]) := AHeap.set_self _ _ _
  generalize H8.set t6 (.tup [.int 0, .ref u6]) = H9 at F9 ho9 hu69 ht69 ⊢
  clear F8 ho8 hu68
  have d1 := F9.d1
  (wtm_at "mine.wx")
  refine ⟨7, rfl, ?_⟩
  (wtm_at "mine.wx")
  (((with_reducible refine' E_call (fa := 542) ?k0_172 ?k1_172 ?k2_172 ?k3_172 ?k4_172); (case k0_172 => assumption); (case k2_172 => k_is); (case k3_172 => with_unfolding_all rfl); (case k4_172 => with_unfolding_all rfl); (wtm_at "mine.w_name"); refine ⟨rfl, ?_⟩))
  (wtm_at "mine.wx")
  refine Call_code (draw_spec (by assumption) F9.P (by decide) (by decide) (by decide) fun a7 H10 _ _ x10 P10 => ?_)
  have F10 := F9.draw hrp x10 P10
  have ho10 := x10 _ _ nod ho9
  have hu610 := x10 _ _ nu6 hu69
  have ht610 := x10 _ _ nt6 ht69
  have d1 := F10.d1
  (wtm_at "mine.wx")
  (((with_reducible refine' E_call (fa := 542) ?k0_176 ?k1_176 ?k2_176 ?k3_176 ?k4_176); (case k0_176 => assumption); (case k2_176 => k_is); (case k3_176 => with_unfolding_all rfl); (case k4_176 => with_unfolding_all rfl); (wtm_at "mine.w_name"); refine ⟨rfl, ?_⟩))
  (wtm_at "mine.wx")
  refine Call_code (draw_spec (by assumption) F10.P (by decide) (by decide) (by decide) fun b7 H11 _ _ x11 P11 => ?_)
  have F11 := F10.draw hrp x11 P11
  have ho11 := x11 _ _ nod ho10
  have hu611 := x11 _ _ nu6 hu610
  have ht611 := x11 _ _ nt6 ht610
  clear F9 F10 x10 x11 P10 P11 ho9 ho10 hu69 hu610 ht69 ht610
  have d1 := F11.d1
  (wtm_at "mine.wx")
  refine ⟨by simp, fun u7 hu7 => ?_⟩
  have F12 := F11.new hu7 (o := .tup [.int a7, .int (-b7)])
  have ho12 := set_get ho11 hu7 (o' := .tup [.int a7, .int (-b7)])
  have hu612 := set_get hu611 hu7 (o' := .tup [.int a7, .int (-b7)])
  have ht612 := set_get ht611 hu7 (o' := .tup [.int a7, .int (-b7)])
  have hu712 : (H11.set u7 (.tup [.int a7, .int (-b7)])) u7 = some (.tup [.int a7, .int (-b7)]) := AHeap.set_self _ _ _
  generalize H11.set u7 (.tup [.int a7, .int (-b7)]) = H12 at F12 ho12 hu612 ht612 hu712 ⊢
  clear F11 ho11 hu611 ht611
  (wtm_at "mine.wx")
  refine ⟨by simp, fun t7 ht7 => ?_⟩
  have F13 := F12.new ht7 (o := .tup [.int 1, .ref u7])
  have ho13 := set_get ho12 ht7 (o' := .tup [.int 1, .ref u7])
  have hu613 := set_get hu612 ht7 (o' := .tup [.int 1, .ref u7])
  have ht613 := set_get ht612 ht7 (o' := .tup [.int 1, .ref u7])
  have hu713 := set_get hu712 ht7 (o' := .tup [.int 1, .ref u7])
  have ht713 : (H12.set t7 (.tup [.int 1, .ref u7])) t7 = some (.tup [.int 1, .ref u7]) := AHeap.set_self _ _ _
  generalize H12.set t7 (.tup [.int 1, .ref u7]) = H13 at F13 ho13 hu613 ht613 hu713 ht713 ⊢
  clear F12 ho12 hu612 ht612 hu712
  (wtm_at "mine.wx")
  refine ⟨ho13, by simp, by simp, fun ep => ?_⟩
  have F14 := F13.setD ho13 (o := .dict [(6, .ref t6), (7, .ref t7)] ep)
  have ne : ∀ a x, H13 a = some x → (∀ kv ep, x ≠ .dict kv ep) → (H13.set od (.dict [(6, .ref t6), (7, .ref t7)] ep)) a = some x := fun a x e hx => by
    rw [AHeap.set_ne _ _ (fun q => by rw [q, ho13] at e; cases e; exact hx _ _ rfl)]; exact e
  have hu614 := ne _ _ hu613 (by simp)
  have ht614 := ne _ _ ht613 (by simp)
  have hu714 := ne _ _ hu713 (by simp)
  have ht714 := ne _ _ ht713 (by simp)
  have ho14 : (H13.set od (.dict [(6, .ref t6), (7, .ref t7)] ep)) od = some (.dict [(6, .ref t6), (7, .ref t7)] ep) := AHeap.set_self _ _ _
  clear ne
  generalize H13.set od (.dict [(6, .ref t6), (7, .ref t7)] ep) = H14 at F14 hu614 ht614 hu714 ht714 ho14 ⊢
  clear F13 ho13 hu613 ht613 hu713 ht713
  have d2 := F14.d2
  (wtm_at "mine.wx")
  ((refine' A_cell ?k1_183 ?k2_183 ?k3_183 ?k4_183 ?_; (case k1_183 => exact rfl); (case k2_183 => exact rfl); (case k3_183 => exact rfl); (case k4_183 => wtm_at "mine.hlk")))
  refine WS.sub (k _ pe cl (decide (v = 1)) rw od (fun g => if g = 6 then (a6, b6) else (a7, -b7)) ts (F14.set2 (some (.ref od))) hrp sh4 l4 l4' ?_) (Sub.cons rfl (Sub.cons rfl Sub.nil))
  exact ⟨⟨ep, t6, t7, u6, u7, set_cell d2 ho14 (by simp), set_cell d2 ht614 (by simp), set_cell d2 ht714 (by simp), set_cell d2 hu614 (by simp), set_cell d2 hu714 (by simp)⟩⟩

def NoTup (H : AHeap) (S : List Addr) : Prop := ∀ s ∈ S, ∀ xs, H s ≠ some (.tup xs)
theorem placeAt.extX {S H H' a o} (h : placeAt H a o) (hT : NoTup H S) (x : ExtX S H H') : placeAt H' a o := by
  unfold placeAt at *
  split at h
  · exact h
  · obtain ⟨l, h1, h2⟩ := h
    exact ⟨l, h1, x _ _ (fun q => hT _ q _ h2) h2⟩
theorem PairAt.extX {S S' H H' a o} (h : PairAt S H a o) (hT : NoTup H S') (hL : ∀ s ∈ S', s ∈ S ∨ ∀ xs, H s ≠ some (.list xs)) (x : ExtX S' H H') : PairAt S H' a o := by
  obtain ⟨l, b0, b1, h1, h2, h3, h4, h5⟩ := h
  exact ⟨l, b0, b1, h1, h2, x _ _ (fun q => (hL _ q).elim h2 fun f => f _ h3) h3, h4.extX hT x, h5.extX hT x⟩
theorem PairAt.less {S S' H a o} (h : PairAt S H a o) (hs : ∀ s ∈ S', s ∈ S) : PairAt S' H a o := by
  obtain ⟨l, b0, b1, h1, h2, h⟩ := h
  exact ⟨l, b0, b1, h1, fun q => h2 (hs _ q), h⟩
theorem Ext.toX0 {H H' : AHeap} (h : Ext H H') : ExtX [] H H' := h.toX []
theorem PairAt.ext {S H H' a o} (h : PairAt S H a o) (x : Ext H H') : PairAt S H' a o := h.extX (S' := []) (fun s hs => by cases hs) (fun s hs => by cases hs) x.toX0
theorem OnTab.ext {S H H' d qs} (h : OnTab S H d qs) (x : Ext H H') : OnTab S H' d qs := by
  obtain ⟨kv, ep, h1, h2⟩ := h.ex
  exact ⟨⟨kv, ep, x _ _ h1, all2_mono h2 fun _ _ ⟨e, p⟩ => ⟨e, p.ext x⟩⟩⟩
theorem OnTab.extX {S S' H H' d qs} (h : OnTab S H d qs) (hT : NoTup H S') (hL : ∀ s ∈ S', s ∈ S ∨ ∀ xs, H s ≠ some (.list xs)) (hd : d ∉ S') (x : ExtX S' H H') : OnTab S H' d qs := by
  obtain ⟨kv, ep, h1, h2⟩ := h.ex
  exact ⟨⟨kv, ep, x _ _ hd h1, all2_mono h2 fun _ _ ⟨e, p⟩ => ⟨e, p.extX hT hL x⟩⟩⟩
theorem OnTab.more {pe D H d qs} (h : OnTab [pe] H d qs) (hD : H D = none) : OnTab [pe, D] H d qs := by
  obtain ⟨kv, ep, h1, h2⟩ := h.ex
  refine ⟨⟨kv, ep, h1, all2_mono h2 fun _ _ ⟨e, l, b0, b1, k1, k2, k3, k4⟩ => ⟨e, l, b0, b1, k1, ?_, k3, k4⟩⟩⟩
  have := ne_of k3 hD
  simp at k2 ⊢
  exact ⟨k2, this⟩
theorem OnTab.less {S S' H d qs} (h : OnTab S H d qs) (hs : ∀ s ∈ S', s ∈ S) : OnTab S' H d qs := by
  obtain ⟨kv, ep, h1, h2⟩ := h.ex
  exact ⟨⟨kv, ep, h1, all2_mono h2 fun _ _ ⟨e, p⟩ => ⟨e, p.less hs⟩⟩⟩
theorem OwnOK.extX {S H H' od own} (h : OwnOK H od own) (hT : NoTup H S) (hd : od ∉ S) (x : ExtX S H H') : OwnOK H' od own := by
  obtain ⟨ep, t6, t7, u6, u7, h1, h2, h3, h4, h5⟩ := h.ex
  have f : ∀ a xs, H a = some (.tup xs) → H' a = some (.tup xs) := fun a xs e => x _ _ (fun q => hT _ q _ e) e
  exact ⟨⟨ep, t6, t7, u6, u7, x _ _ hd h1, f _ _ h2, f _ _ h3, f _ _ h4, f _ _ h5⟩⟩
theorem LF.extX {S L pe cl n n' v2 v3 v4 rw ts H H'} (F : LF L pe cl n v2 v3 v4 rw ts H) (hT : NoTup H S) (hC : ∀ s ∈ S, ∀ v, H s ≠ some (.cell v)) (hr : rw ∉ S) (x : ExtX S H H') (P' : PenOK H' pe cl n') : LF L pe cl n' v2 v3 v4 rw ts H' := by
  have f : ∀ a v, H a = some (.cell v) → H' a = some (.cell v) := fun a xs e => x _ _ (fun q => hC _ q _ e) e
  exact ⟨f _ _ F.d1, f _ _ F.d2, f _ _ F.d3, f _ _ F.d4, P', F.R.ext (fun a xs e => x _ _ (fun q => hT _ q _ e) e) fun as e => x _ _ hr e⟩

def Zs (S : List Addr) (H : AHeap) (zs : List AV) (qs : List (Int × Two)) : Prop := All2 (fun z (q : Int × Two) => ∃ t p2, z = .ref t ∧ H t = some (.tup [.int q.1, p2]) ∧ PairAt S H p2 q.2) zs qs
theorem Zs.extX {S S' H H' zs qs} (h : Zs S H zs qs) (hT : NoTup H S') (hL : ∀ s ∈ S', s ∈ S ∨ ∀ xs, H s ≠ some (.list xs)) (x : ExtX S' H H') : Zs S H' zs qs :=
  all2_mono h fun _ _ ⟨t, p2, h1, h2, h3⟩ => ⟨t, p2, h1, x _ _ (fun q => hT _ q _ h2) h2, h3.extX hT hL x⟩
def AO.tag : AO → Nat
  | .list _ => 0
  | .tup _ => 1
  | .inst _ _ => 2
  | .ns _ => 3
  | .dict _ _ => 4
  | .cell _ => 5
  | .locals _ => 6
  | .rng _ => 7
  | .pred _ => 8
theorem noTag {H : AHeap} {a o p} (h : H a = some o) (t : Nat.beq o.tag p.tag = false) : H a ≠ some p := fun e => by
  rw [h] at e
  injection e with e
  rw [e, Nat.beq_refl] at t
  cases t
theorem noTup1 {H : AHeap} {a o} (h : H a = some o) (t : Nat.beq o.tag 1 = false) : ∀ xs, H a ≠ some (.tup xs) := fun _ => noTag h t
theorem noL1 {H : AHeap} {a o} (h : H a = some o) (t : Nat.beq o.tag 0 = false) : ∀ xs, H a ≠ some (.list xs) := fun _ => noTag h t
theorem noC1 {H : AHeap} {a o} (h : H a = some o) (t : Nat.beq o.tag 5 = false) : ∀ xs, H a ≠ some (.cell xs) := fun _ => noTag h t
theorem only1 {P : Addr → Prop} {a} (h : P a) : ∀ s ∈ [a], P s := fun s m => by rw [List.mem_singleton.mp m]; exact h
theorem only2 {P : Addr → Prop} {a b} (h : P a) (h' : P b) : ∀ s ∈ [a, b], P s := fun s m => by
  rcases List.mem_cons.mp m with e | m
  · rw [e]; exact h
  · exact only1 h' s m
theorem noTup1s {H : AHeap} {a o} (h : H a = some o) (t : Nat.beq o.tag 1 = false) : NoTup H [a] := only1 (P := fun s => ∀ xs, H s ≠ some (.tup xs)) (noTup1 h t)
theorem noL1s {H : AHeap} {a o} (h : H a = some o) (t : Nat.beq o.tag 0 = false) : ∀ s ∈ [a], ∀ xs, H s ≠ some (.list xs) := only1 (P := fun s => ∀ xs, H s ≠ some (.list xs)) (noL1 h t)
theorem noC1s {H : AHeap} {a o} (h : H a = some o) (t : Nat.beq o.tag 5 = false) : ∀ s ∈ [a], ∀ xs, H s ≠ some (.cell xs) := only1 (P := fun s => ∀ xs, H s ≠ some (.cell xs)) (noC1 h t)
theorem inl1 {a : Addr} {l : List Addr} {P : Addr → Prop} : ∀ s ∈ [a], s ∈ a :: l ∨ P s := only1 (P := fun s => s ∈ a :: l ∨ P s) (.inl (.head _))
theorem inl2 {a b : Addr} {l : List Addr} {P : Addr → Prop} : ∀ s ∈ [a], s ∈ b :: a :: l ∨ P s := only1 (P := fun s => s ∈ b :: a :: l ∨ P s) (.inl (.tail _ (.head _)))
theorem ni1 {a b : Addr} (h : a ≠ b) : a ∉ [b] := fun m => h (List.mem_singleton.mp m)
theorem ni2 {a b c : Addr} (h : a ≠ b) (h' : a ≠ c) : a ∉ [b, c] := fun m => (List.mem_cons.mp m).elim h (ni1 h')
theorem len2 {α : Type} {l : List α} (h : l.length = 2) : ∃ a b, l = [a, b] := by
  obtain ⟨a, l, rfl⟩ := List.exists_cons_of_length_eq_add_one h
  obtain ⟨b, l, rfl⟩ := List.exists_cons_of_length_eq_add_one (Nat.succ.inj h)
  obtain rfl := List.length_eq_zero_iff.mp (Nat.succ.inj (Nat.succ.inj h))
  exact ⟨a, b, rfl⟩
theorem two_qs {qs : List (Int × Two)} (hl : qs.length = 2) (h : ∀ (j : Nat) q, qs[j]? = some q → q.1 = (j : Int) + 1 ∧ ∃ x y, q.2 = (some x, some y)) : ∃ x1 y1 x2 y2, qs = [(1, (some x1, some y1)), (2, (some x2, some y2))] := by
  obtain ⟨q0, q1, rfl⟩ := len2 hl
  obtain ⟨h1, x1, y1, h2⟩ := h 0 q0 rfl
  obtain ⟨h3, x2, y2, h4⟩ := h 1 q1 rfl
  have e0 : q0 = (1, (some x1, some y1)) := Prod.ext h1 h2
  have e1 : q1 = (2, (some x2, some y2)) := Prod.ext h3 h4
  exact ⟨x1, y1, x2, y2, by rw [e0, e1]⟩
theorem zs_pairs {S H zs qs} (h : Zs S H zs qs) : ∃ kvs : List (Int × AV), PairsAt H zs kvs ∧ All2 (fun (p : Int × AV) (q : Int × Two) => p.1 = q.1 ∧ PairAt S H p.2 q.2) kvs qs ∧ kvs.map (·.1) = qs.map (·.1) := by
  induction h with
  | nil => exact ⟨[], .nil, .nil, rfl⟩
  | @cons z q zs qs h1 _ ih =>
    obtain ⟨kvs, i1, i2, i3⟩ := ih
    obtain ⟨t, p2, rfl, h2, h3⟩ := h1
    exact ⟨(q.1, p2) :: kvs, .cons ⟨t, rfl, h2⟩ i1, .cons ⟨rfl, h3⟩ i2, by simp [i3]⟩
theorem LF.turn {L pe cl n v2 v3 v4 rw ts H} (F : LF L pe cl n v2 v3 v4 rw ts H) {I C P ρ P' ρ'} (hI : H I = some (.pred P)) (hC : H C = some (.locals ρ)) :
    LF L pe cl n v2 v3 v4 rw ts ((H.set I (.pred P')).set C (.locals ρ')) ∧ NoTup H [I, C] ∧ (∀ S : List Addr, ∀ s ∈ [I, C], s ∈ S ∨ ∀ xs, H s ≠ some (.list xs)) ∧ ExtX [I, C] H ((H.set I (.pred P')).set C (.locals ρ')) := by
  have hIC : I ≠ C := fun e => by rw [e, hC] at hI; cases hI
  have hT : NoTup H [I, C] := only2 (P := fun s => ∀ xs, H s ≠ some (.tup xs)) (noTup1 hI rfl) (noTup1 hC rfl)
  have hL : ∀ s ∈ [I, C], ∀ xs, H s ≠ some (.list xs) := only2 (P := fun s => ∀ xs, H s ≠ some (.list xs)) (noL1 hI rfl) (noL1 hC rfl)
  have hcl : ∀ s ∈ [I, C], ∀ xs, H s ≠ some (.cell xs) := only2 (P := fun s => ∀ xs, H s ≠ some (.cell xs)) (noC1 hI rfl) (noC1 hC rfl)
  have x : ExtX [I, C] H ((H.set I (.pred P')).set C (.locals ρ')) := ((ExtX.refl _ _).set (.head _)).set (.tail _ (.head _))
  obtain ⟨as, hr, _⟩ := F.R.ex
  refine ⟨F.extX hT hcl (fun q => hL _ q _ hr) x ?_, hT, fun S s hs => .inr (hL s hs), x⟩
  have hI2 : pe ≠ I ∧ cl ≠ I := F.P.ne (noL1 hI rfl)
  have hC2 : pe ≠ C ∧ cl ≠ C := F.P.ne (noL1 hC rfl)
  exact (F.P.setX hI2).setX hC2

theorem LF.fin {L pe cl n v2 v3 v4 rw ts H} (F : LF L pe cl n v2 v3 v4 rw ts H) {I C P ρ} (hI : H I = some (.pred P)) (hC : H C = some (.locals ρ)) :
    LF L pe cl n v2 v3 v4 rw ts ((H.del I).del C) ∧ NoTup H [I, C] ∧ (∀ S : List Addr, ∀ s ∈ [I, C], s ∈ S ∨ ∀ xs, H s ≠ some (.list xs)) ∧ ExtX [I, C] H ((H.del I).del C) := by
  obtain ⟨_, hT, hL, _⟩ := F.turn (P' := P) (ρ' := ρ) hI hC
  have hcl : ∀ s ∈ [I, C], ∀ xs, H s ≠ some (.cell xs) := only2 (P := fun s => ∀ xs, H s ≠ some (.cell xs)) (noC1 hI rfl) (noC1 hC rfl)
  have x : ExtX [I, C] H ((H.del I).del C) := fun a o h e => by
    simp at h
    rw [AHeap.del_ne _ h.2, AHeap.del_ne _ h.1]; exact e
  obtain ⟨as, hr, _⟩ := F.R.ex
  exact ⟨F.extX hT hcl (fun q => ((hL [] _ q).elim (fun k => nomatch k) fun k => k _ hr)) x ((F.P.delX (F.P.ne (noL1 hI rfl))).delX (F.P.ne (noL1 hC rfl))), hT, hL, x⟩

set_option maxHeartbeats 4000000 in
theorem segA2 {w A L a ccd h₀ d} {scope : Scope} {body rest : List Stmt} {Q : Fl → Loc → AHeap → Prop} (hb : LawIs w.params scope body) (ok : (lawCx w A scope L a ccd h₀).OK (d + 5)) {H : AHeap} {pe cl rw od : Addr} {b : Bool} {own ts}
    (F : LF L pe cl 45 (some (.ref od)) none none rw ts H) (hrp : rw ≠ pe) (O : OwnOK H od own)
    (k : ∀ H' bd x1 y1 x2 y2, LF L pe cl 49 (some (.ref od)) (some (.ref bd)) none rw ts H' → OwnOK H' od own → OnTab [pe] H' bd [(1, (some x1, some y1)), (2, (some x2, some y2))] → WS (lawCx w A scope L a ccd h₀) rest [(Str.ofString "row", .ref rw), (Str.ofString "is_backward", .bool b)] H' Q) :
    WS (lawCx w A scope L a ccd h₀) ((body.drop 4).take 1 ++ rest) [(Str.ofString "row", .ref rw), (Str.ofString "is_backward", .bool b)] H Q := by
  ((refine' law_go hb ?ho_184 ?_; (case ho_184 => k_is); intro e1 e2; subst e1; subst e2; simp only [List.take_succ_cons, List.take_zero, List.drop_succ_cons, List.drop_zero, List.cons_append, List.nil_append]))
  have d1 := F.d1
  have d3 := F.d3
  (wtm_at "mine.wx")
  (((with_reducible refine' E_callT (T := "dict") ?k1_186 ?k2_186 ?k3_186); (case k2_186 => with_unfolding_all rfl); (case k3_186 => with_unfolding_all rfl); (wtm_at "mine.w_name"); refine ⟨rfl, ?_⟩))
  (wtm_at "mine.wx")
  refine E_comp (cl := [(Str.ofString "pen", L + 1)]) (by assumption) rfl (by decide) rfl (by decide) rfl ?_
  (wtm_at "mine.wx")
  refine ⟨by simp, fun tt htt => ?_⟩
  have F1 := F.new htt (o := .tup [.int 1, .int 2])
  have O1 := O.ext ((Ext.refl _).set htt (o := .tup [.int 1, .int 2]))
  have ht1 : (H.set tt (.tup [.int 1, .int 2])) tt = some (.tup [.int 1, .int 2]) := AHeap.set_self _ _ _
  generalize H.set tt (.tup [.int 1, .int 2]) = H1 at F1 O1 ht1 ⊢
  refine It_tup (by assumption) ht1 fun I hI => ⟨by simp, fun D C hD hC hCD => ?_⟩
  have hD1 := set_none hD
  have hC1 := set_none hC
  have hpD : D ≠ pe := F1.ne hD1.1
  have hpI : I ≠ pe := F1.ne hI
  have hpC : C ≠ pe := F1.ne hC1.1
  obtain ⟨rws, hrw1, _⟩ := F1.R.ex
  have hrD : rw ≠ D := ne_of hrw1 hD1.1
  obtain ⟨_, _, _, _, _, hod1, _⟩ := O1.ex
  have hoD : od ≠ D := ne_of hod1 hD1.1
  have hoI : od ≠ I := ne_of hod1 hI
  have hoC : od ≠ C := ne_of hod1 hC1.1
  have htp : tt ≠ pe := fun e => by obtain ⟨xs, hx⟩ := F1.P.get; rw [e, hx] at ht1; cases ht1
  have htD : tt ≠ D := ne_of ht1 hD1.1
  have htI : tt ≠ I := ne_of ht1 hI
  have htC : tt ≠ C := ne_of ht1 hC1.1
  have hop : od ≠ pe := fun e => by obtain ⟨xs, hx⟩ := F1.P.get; rw [e, hx] at hod1; cases hod1
  refine ⟨fun i zs H' => LF L pe cl (45 + 2 * i) (some (.ref od)) none none rw ts H' ∧ OwnOK H' od own ∧ (∃ ρ, H' C = some (.locals ρ)) ∧ (∃ P, H' I = some (.pred P)) ∧ ∃ qs : List (Int × Two), qs.length = i ∧ (∀ (j : Nat) q, qs[j]? = some q → q.1 = (j : Int) + 1 ∧ ∃ x y, q.2 = (some x, some y)) ∧ Zs [pe, D] H' zs qs, ?_, ?_, ?_⟩
  · have hC' : ((H1.set I (AO.pred (tupIt tt 0))).set D (.list [])) C = none := (AHeap.set_ne _ _ hCD).trans hC
    refine ⟨by simpa using ((F1.new hI).new hD).new hC', ((O1.ext ((Ext.refl _).set hI)).ext ((Ext.refl _).set hD)).ext ((Ext.refl _).set hC'), ⟨_, AHeap.set_self _ _ _⟩, ⟨tupIt tt 0, ?_⟩, [], rfl, by simp, .nil⟩
    rw [AHeap.set_ne _ _ (Ne.symm hC1.2), AHeap.set_ne _ _ (Ne.symm hD1.2), AHeap.set_self]
  · rintro i a zs H3 hx ⟨F3, O3, ⟨ρ3, hC3⟩, ⟨PI, hI3'⟩, qs, hql, hqs, Z3⟩ hzl hI3 hs3 hD3
    refine WTb_in fun Q8 k8 => Ts_nil (k8 _ _ ⟨(fun e => nomatch e), fun _ => WEb_in fun Q9 k9 => ?_⟩)
    obtain ⟨F4, hT3, hL3, x34⟩ := F3.turn (P' := tupIt tt (i + 1)) (ρ' := [(Str.ofString "glyph", a)]) hI3 hC3
    have O4 := O3.extX hT3 (ni2 hoI hoC) x34
    have Z4 := Z3.extX hT3 (hL3 _) x34
    have ha : i < 2 ∧ a = .int ((i : Int) + 1) := by
      rcases i with _ | _ | i
      · exact ⟨by decide, by simpa using hx.symm⟩
      · exact ⟨by decide, by simpa using hx.symm⟩
      · simp at hx
    obtain ⟨hi2, rfl⟩ := ha
    have hC4 : ((H3.set I (.pred (tupIt tt (i + 1)))).set C (.locals [(Str.ofString "glyph", .int ((i : Int) + 1))])) C = some (.locals [(Str.ofString "glyph", .int ((i : Int) + 1))]) := AHeap.set_self _ _ _
    have hI4 : ((H3.set I (.pred (tupIt tt (i + 1)))).set C (.locals [(Str.ofString "glyph", .int ((i : Int) + 1))])) I = some (.pred (tupIt tt (i + 1))) := by rw [AHeap.set_ne _ _ (Ne.symm hC1.2), AHeap.set_self]
    have hD4 := x34 D _ (ni2 hD1.2 (Ne.symm hCD)) hD3
    have hs4 := x34 tt _ (ni2 htI htC) hs3
    generalize (H3.set I (.pred (tupIt tt (i + 1)))).set C (.locals [(Str.ofString "glyph", .int ((i : Int) + 1))]) = H4 at F4 O4 Z4 hC4 hI4 hD4 hs4 ⊢
    clear x34 hT3 hL3 Z3 O3 F3 hI3 hs3 hD3 hC3
    have d1 := F4.d1
    (wtm_at "mine.wx")
    (((with_reducible refine' E_call (fa := 542) ?k0_191 ?k1_191 ?k2_191 ?k3_191 ?k4_191); (case k0_191 => assumption); (case k2_191 => k_is); (case k3_191 => with_unfolding_all rfl); (case k4_191 => with_unfolding_all rfl); (wtm_at "mine.w_name"); refine ⟨rfl, ?_⟩))
    (wtm_at "mine.wx")
    refine Call_code (draw_spec (by assumption) F4.P (by decide) (by decide) (by omega) fun v H5 _ _ x5 P5 => ?_)
    have F5 := F4.draw hrp x5 P5
    have d1 := F5.d1
    (wtm_at "mine.wx")
    refine ⟨by simp, fun p0 hp0 => ?_⟩
    have F6 := F5.new hp0 (o := .tup [.int v, .int 30])
    have np0 := F5.ne hp0
    have e0 : (H5.set p0 (.tup [.int v, .int 30])) p0 = some (.tup [.int v, .int 30]) := AHeap.set_self _ _ _
    have x6 : ExtP pe H4 (H5.set p0 (.tup [.int v, .int 30])) := x5.trans (((Ext.refl _).set hp0).toP pe)
    generalize H5.set p0 (.tup [.int v, .int 30]) = H6 at F6 e0 x6 ⊢
    have d1 := F6.d1
    (wtm_at "mine.wx")
    (((with_reducible refine' E_call (fa := 542) ?k0_196 ?k1_196 ?k2_196 ?k3_196 ?k4_196); (case k0_196 => assumption); (case k2_196 => k_is); (case k3_196 => with_unfolding_all rfl); (case k4_196 => with_unfolding_all rfl); (wtm_at "mine.w_name"); refine ⟨rfl, ?_⟩))
    (wtm_at "mine.wx")
    refine Call_code (draw_spec (by assumption) F6.P (by decide) (by decide) (by omega) fun v2 H7 _ _ x7 P7 => ?_)
    have F7 := F6.draw hrp x7 P7
    have e0' := x7 _ _ np0 e0
    (wtm_at "mine.wx")
    refine ⟨by simp, fun p1 hp1 => ?_⟩
    have F8 := F7.new hp1 (o := .tup [.int v2, .int 50])
    have e0'' := set_get e0' hp1 (o' := .tup [.int v2, .int 50])
    have e1 : (H7.set p1 (.tup [.int v2, .int 50])) p1 = some (.tup [.int v2, .int 50]) := AHeap.set_self _ _ _
    have x8 : ExtP pe H4 (H7.set p1 (.tup [.int v2, .int 50])) := (x6.trans x7).trans (((Ext.refl _).set hp1).toP pe)
    generalize H7.set p1 (.tup [.int v2, .int 50]) = H8 at F8 e0'' e1 x8 ⊢
    (wtm_at "mine.wx")
    refine ⟨by simp, fun l hl => ?_⟩
    have hlp : l ≠ pe := F8.ne hl
    have hlD : l ≠ D := Ne.symm (ne_of (x8 D _ hpD hD4) hl)
    have F9 := F8.new hl (o := .list [.ref p0, .ref p1])
    have f0 := set_get e0'' hl (o' := .list [.ref p0, .ref p1])
    have f1 := set_get e1 hl (o' := .list [.ref p0, .ref p1])
    have fl : (H8.set l (.list [.ref p0, .ref p1])) l = some (.list [.ref p0, .ref p1]) := AHeap.set_self _ _ _
    have x9 : ExtP pe H4 (H8.set l (.list [.ref p0, .ref p1])) := x8.trans (((Ext.refl _).set hl).toP pe)
    generalize H8.set l (.list [.ref p0, .ref p1]) = H9 at F9 f0 f1 fl x9 ⊢
    (wtm_at "mine.wx")
    refine ⟨by simp, fun t ht => ?_⟩
    have F10 := F9.new ht (o := .tup [.int ((i : Int) + 1), .ref l])
    have f0 := set_get f0 ht (o' := .tup [.int ((i : Int) + 1), .ref l])
    have f1 := set_get f1 ht (o' := .tup [.int ((i : Int) + 1), .ref l])
    have fl := set_get fl ht (o' := .tup [.int ((i : Int) + 1), .ref l])
    have ft : (H9.set t (.tup [.int ((i : Int) + 1), .ref l])) t = some (.tup [.int ((i : Int) + 1), .ref l]) := AHeap.set_self _ _ _
    have x10 : ExtP pe H4 (H9.set t (.tup [.int ((i : Int) + 1), .ref l])) := x9.trans (((Ext.refl _).set ht).toP pe)
    generalize H9.set t (.tup [.int ((i : Int) + 1), .ref l]) = H10 at F10 f0 f1 fl ft x10 ⊢
    clear F5 F6 F7 F8 F9 x5 x6 x7 x8 x9 e0 e0' e0'' e1 P5 P7
    have hD10 := x10 D _ hpD hD4
    have hI10 := x10 I _ hpI hI4
    have hC10 := x10 C _ hpC hC4
    have hs10 := x10 tt _ htp hs4
    obtain ⟨pxs, hpx4⟩ := F4.P.get
    have O10 := O4.extP F4.P x10
    have Z10 := Z4.extX (S' := [pe]) (noTup1s hpx4 rfl) inl1 (x10.toX (.head _))
    have hTD : NoTup H10 [D] := noTup1s hD10 rfl
    have xD : ExtX [D] H10 (H10.set D (.list (zs ++ [.ref t]))) := (ExtX.refl _ _).set (.head _)
    have ZD := Z10.extX hTD inl2 xD
    have OD := O10.extX hTD (ni1 hoD) xD
    have FD := F10.extX hTD (noC1s hD10 rfl) (ni1 hrD) xD (F10.P.setX (F1.P.neN hD1.1))
    have hDn : ∀ a xs, H10 a = some (.tup xs) → (H10.set D (.list (zs ++ [.ref t]))) a = some (.tup xs) := fun a xs e => xD a _ (fun q => hTD a q _ e) e
    (wtm_at "mine.wx")
    refine ⟨hD10, ⟨?_, OD, ⟨_, xD C _ (ni1 hCD) hC10⟩, ⟨_, xD I _ (ni1 (Ne.symm hD1.2)) hI10⟩, qs ++ [((i : Int) + 1, (some (v, 30), some (v2, 50)))], by simp [hql], ?_, all2_append ZD (.cons ⟨t, .ref l, rfl, hDn _ _ ft, l, .ref p0, .ref p1, rfl, by simp [hlp, hlD], xD l _ (ni1 hlD) fl, ⟨p0, rfl, hDn _ _ f0⟩, ⟨p1, rfl, hDn _ _ f1⟩⟩ .nil)⟩, hI10, ?_, ⟨_, hC10⟩⟩
    · have : (45 + 2 * (i : Int) + 1 + 1) = 45 + 2 * ((i + 1 : Nat) : Int) := by omega
      rw [← this]; exact FD
    · intro j q hj
      rcases Nat.lt_or_ge j qs.length with h | h
      · rw [List.getElem?_append_left h] at hj; exact hqs j q hj
      · rw [List.getElem?_append_right h] at hj
        have hj0 : j - qs.length = 0 := by
          have := (List.getElem?_eq_some_iff.mp hj).1
          simp at this; omega
        rw [hj0] at hj
        simp at hj
        subst hj
        exact ⟨by show (i : Int) + 1 = (j : Int) + 1; omega, _, _, rfl⟩
    · exact xD tt _ (ni1 htD) hs10
  · rintro zs H3 ⟨F3, O3, ⟨ρ3, hC3⟩, ⟨PI, hI3'⟩, qs, hql, hqs, Z3⟩ hD3 hs3
    have hq2 : ∃ x1 y1 x2 y2, qs = [(1, (some x1, some y1)), (2, (some x2, some y2))] := two_qs hql hqs
    obtain ⟨x1, y1, x2, y2, rfl⟩ := hq2
    obtain ⟨F4, hT3, hL3, x34⟩ := F3.fin hI3' hC3
    have O4 := O3.extX hT3 (ni2 hoI hoC) x34
    have Z4 := Z3.extX hT3 (hL3 _) x34
    have hD4 := x34 D _ (ni2 hD1.2 (Ne.symm hCD)) hD3
    generalize (H3.del I).del C = H4 at F4 O4 Z4 hD4 ⊢
    obtain ⟨kvs, p1, p2, p3⟩ := zs_pairs Z4
    (wtm_at "mine.wx")
    refine F_dict (by assumption) hD4 p1 (by rw [p3]; simp) (by rw [← List.length_map (f := (·.1)), p3]; simp) fun bd H5 ep x5 hbd hbd5 => ?_
    have F5 := F4.ext x5
    have O5 := O4.ext x5
    have d3 := F5.d3
    (wtm_at "mine.wx")
    ((refine' A_cell ?k1_205 ?k2_205 ?k3_205 ?k4_205 ?_; (case k1_205 => exact rfl); (case k2_205 => exact rfl); (case k3_205 => exact rfl); (case k4_205 => wtm_at "mine.hlk")))
    have xc : ExtX [L + 1 + 1 + 1] H5 (H5.set (L + 1 + 1 + 1) (.cell (some (.ref bd)))) := (ExtX.refl _ _).set (.head _)
    have hTc : NoTup H5 [L + 1 + 1 + 1] := noTup1s d3 rfl
    have hLc : ∀ s ∈ [L + 1 + 1 + 1], ∀ xs, H5 s ≠ some (.list xs) := noL1s d3 rfl
    have ho5 : ∃ kv ep, H5 od = some (.dict kv ep) := by
      obtain ⟨ep, t6, t7, u6, u7, h1, _⟩ := O5.ex
      exact ⟨_, _, h1⟩
    obtain ⟨kvo, epo, ho5⟩ := ho5
    refine k _ bd x1 y1 x2 y2 (F5.set3 _) (O5.extX hTc (by simp; intro e; rw [e, d3] at ho5; cases ho5) xc) ?_
    refine OnTab.extX (S' := [L + 1 + 1 + 1]) ⟨⟨kvs, ep, hbd5, all2_mono p2 fun p q ⟨e, h⟩ => ⟨e, (h.ext x5).less (by simp)⟩⟩⟩ hTc (fun s hs => .inr (hLc s hs)) ?_ xc
    simp; intro e; rw [e, d3] at hbd5; cases hbd5

theorem LF.up {L pe cl n n' v2 v3 v4 rw ts H} (F : LF L pe cl n v2 v3 v4 rw ts H) (h : n ≤ n') : LF L pe cl n' v2 v3 v4 rw ts H := ⟨F.d1, F.d2, F.d3, F.d4, F.P.up h, F.R⟩
set_option maxHeartbeats 4000000 in
theorem segA3 {w A L a ccd h₀ d} {scope : Scope} {body rest : List Stmt} {Q : Fl → Loc → AHeap → Prop} (hb : LawIs w.params scope body) (ok : (lawCx w A scope L a ccd h₀).OK (d + 5)) {H : AHeap} {pe cl rw od : Addr} {b : Bool} {own ts}
    {bd : Addr} {qb : List (Int × Two)} (F : LF L pe cl 49 (some (.ref od)) (some (.ref bd)) none rw ts H) (hrp : rw ≠ pe) (O : OwnOK H od own) (B : OnTab [pe] H bd qb)
    (k : ∀ H' md qm, LF L pe cl 57 (some (.ref od)) (some (.ref bd)) (some (.ref md)) rw ts H' → OwnOK H' od own → OnTab [pe] H' bd qb → OnTab [pe] H' md qm → (qm.map (·.1)).Nodup → qm.length ≤ 2 → WS (lawCx w A scope L a ccd h₀) rest [(Str.ofString "row", .ref rw), (Str.ofString "is_backward", .bool b)] H' Q) :
    WS (lawCx w A scope L a ccd h₀) ((body.drop 5).take 1 ++ rest) [(Str.ofString "row", .ref rw), (Str.ofString "is_backward", .bool b)] H Q := by
  ((refine' law_go hb ?ho_206 ?_; (case ho_206 => k_is); intro e1 e2; subst e1; subst e2; simp only [List.take_succ_cons, List.take_zero, List.drop_succ_cons, List.drop_zero, List.cons_append, List.nil_append]))
  have d1 := F.d1
  have d4 := F.d4
  (wtm_at "mine.wx")
  (((with_reducible refine' E_callT (T := "dict") ?k1_208 ?k2_208 ?k3_208); (case k2_208 => with_unfolding_all rfl); (case k3_208 => with_unfolding_all rfl); (wtm_at "mine.w_name"); refine ⟨rfl, ?_⟩))
  (wtm_at "mine.wx")
  refine E_comp (cl := [(Str.ofString "pen", L + 1)]) (by assumption) rfl (by decide) rfl (by decide) rfl ?_
  (wtm_at "mine.wx")
  refine ⟨by simp, fun tt htt => ?_⟩
  have F1 := F.new htt (o := .tup [.int 6, .int 7])
  have O1 := O.ext ((Ext.refl _).set htt (o := .tup [.int 6, .int 7]))
  have B1 := B.ext ((Ext.refl _).set htt (o := .tup [.int 6, .int 7]))
  have ht1 : (H.set tt (.tup [.int 6, .int 7])) tt = some (.tup [.int 6, .int 7]) := AHeap.set_self _ _ _
  generalize H.set tt (.tup [.int 6, .int 7]) = H1 at F1 O1 B1 ht1 ⊢
  refine It_tup (by assumption) ht1 fun I hI => ⟨by simp, fun D C hD hC hCD => ?_⟩
  have hD1 := set_none hD
  have hC1 := set_none hC
  have hpD : D ≠ pe := F1.ne hD1.1
  have hpI : I ≠ pe := F1.ne hI
  have hpC : C ≠ pe := F1.ne hC1.1
  obtain ⟨rws, hrw1, _⟩ := F1.R.ex
  have hrD : rw ≠ D := ne_of hrw1 hD1.1
  obtain ⟨_, _, _, _, _, hod1, _⟩ := O1.ex
  have hoD : od ≠ D := ne_of hod1 hD1.1
  have hoI : od ≠ I := ne_of hod1 hI
  have hoC : od ≠ C := ne_of hod1 hC1.1
  obtain ⟨_, _, hbd1, hB1⟩ := B1.ex
  have hbD : bd ≠ D := ne_of hbd1 hD1.1
  have hbI : bd ≠ I := ne_of hbd1 hI
  have hbC : bd ≠ C := ne_of hbd1 hC1.1
  have htp : tt ≠ pe := fun e => by obtain ⟨xs, hx⟩ := F1.P.get; rw [e, hx] at ht1; cases ht1
  have htD : tt ≠ D := ne_of ht1 hD1.1
  have htI : tt ≠ I := ne_of ht1 hI
  have htC : tt ≠ C := ne_of ht1 hC1.1
  have hop : od ≠ pe := fun e => by obtain ⟨xs, hx⟩ := F1.P.get; rw [e, hx] at hod1; cases hod1
  have hbp : bd ≠ pe := fun e => by obtain ⟨xs, hx⟩ := F1.P.get; rw [e, hx] at hbd1; cases hbd1
  have B2 := B1.more hD1.1
  refine ⟨fun i zs H' => LF L pe cl (49 + 4 * i) (some (.ref od)) (some (.ref bd)) none rw ts H' ∧ OwnOK H' od own ∧ OnTab [pe, D] H' bd qb ∧ (∃ ρ, H' C = some (.locals ρ)) ∧ (∃ P, H' I = some (.pred P)) ∧ ∃ qs : List (Int × Two), qs.length ≤ i ∧ (qs.map (·.1)).Nodup ∧ (∀ q ∈ qs, q.1 < 6 + (i : Int)) ∧ Zs [pe, D] H' zs qs, ?_, ?_, ?_⟩
  · have hC' : ((H1.set I (AO.pred (tupIt tt 0))).set D (.list [])) C = none := (AHeap.set_ne _ _ hCD).trans hC
    refine ⟨by simpa using ((F1.new hI).new hD).new hC', ((O1.ext ((Ext.refl _).set hI)).ext ((Ext.refl _).set hD)).ext ((Ext.refl _).set hC'), ((B2.ext ((Ext.refl _).set hI)).ext ((Ext.refl _).set hD)).ext ((Ext.refl _).set hC'), ⟨_, AHeap.set_self _ _ _⟩, ⟨tupIt tt 0, ?_⟩, [], by simp, by simp, by simp, .nil⟩
    rw [AHeap.set_ne _ _ (Ne.symm hC1.2), AHeap.set_ne _ _ (Ne.symm hD1.2), AHeap.set_self]
  · rintro i a zs H3 hx ⟨F3, O3, B3, ⟨ρ3, hC3⟩, ⟨PI, hI3'⟩, qs, hql, hqn, hqs, Z3⟩ hzl hI3 hs3 hD3
    have ha : i < 2 ∧ a = .int ((i : Int) + 6) := by
      rcases i with _ | _ | i
      · exact ⟨by decide, by simpa using hx.symm⟩
      · exact ⟨by decide, by simpa using hx.symm⟩
      · simp at hx
    obtain ⟨hi2, rfl⟩ := ha
    obtain ⟨F4, hT3, hL3, x34⟩ := F3.turn (P' := tupIt tt (i + 1)) (ρ' := [(Str.ofString "glyph", .int ((i : Int) + 6))]) hI3 hC3
    have O4 := O3.extX hT3 (ni2 hoI hoC) x34
    have B4 := B3.extX hT3 (hL3 _) (ni2 hbI hbC) x34
    have Z4 := Z3.extX hT3 (hL3 _) x34
    have hC4 : ((H3.set I (.pred (tupIt tt (i + 1)))).set C (.locals [(Str.ofString "glyph", .int ((i : Int) + 6))])) C = some (.locals [(Str.ofString "glyph", .int ((i : Int) + 6))]) := AHeap.set_self _ _ _
    have hI4 : ((H3.set I (.pred (tupIt tt (i + 1)))).set C (.locals [(Str.ofString "glyph", .int ((i : Int) + 6))])) I = some (.pred (tupIt tt (i + 1))) := by rw [AHeap.set_ne _ _ (Ne.symm hC1.2), AHeap.set_self]
    have hD4 := x34 D _ (ni2 hD1.2 (Ne.symm hCD)) hD3
    have hs4 := x34 tt _ (ni2 htI htC) hs3
    generalize (H3.set I (.pred (tupIt tt (i + 1)))).set C (.locals [(Str.ofString "glyph", .int ((i : Int) + 6))]) = H4 at F4 O4 B4 Z4 hC4 hI4 hD4 hs4 ⊢
    clear x34 hT3 hL3 Z3 O3 B3 F3 hI3 hs3 hD3 hC3 hI3'
    have d1 := F4.d1
    refine WTb_in fun Q8 k8 => Ts_one ?_
    (wtm_at "mine.wx")
    (((with_reducible refine' E_call (fa := 542) ?k0_213 ?k1_213 ?k2_213 ?k3_213 ?k4_213); (case k0_213 => assumption); (case k2_213 => k_is); (case k3_213 => with_unfolding_all rfl); (case k4_213 => with_unfolding_all rfl); (wtm_at "mine.w_name"); refine ⟨rfl, ?_⟩))
    (wtm_at "mine.wx")
    refine Call_code (draw_spec (by assumption) F4.P (by decide) (by decide) (by omega) fun v0 H5 _ _ x5 P5 => ?_)
    have F5 := F4.draw hrp x5 P5
    obtain ⟨pxs, hpx4⟩ := F4.P.get
    have O5 := O4.extP F4.P x5
    have hT5 : NoTup H4 [pe] := noTup1s hpx4 rfl
    have B5 := B4.extX (S' := [pe]) hT5 inl1 (ni1 hbp) (x5.toX (.head _))
    have Z5 := Z4.extX (S' := [pe]) hT5 inl1 (x5.toX (.head _))
    have hC5 := x5 C _ hpC hC4
    have hI5 := x5 I _ hpI hI4
    have hD5 := x5 D _ hpD hD4
    have hs5 := x5 tt _ htp hs4
    clear F4 O4 B4 Z4 hC4 hI4 hD4 hs4 x5 P5 hT5 hpx4
    (wtm_at "mine.wx")
    refine ⟨fun _ => ?_, fun _ => ?_⟩
    · exact ⟨⟨F5.up (by omega), O5, B5, ⟨_, hC5⟩, ⟨_, hI5⟩, qs, by omega, hqn, fun q hq => by have := hqs q hq; omega, Z5⟩, hI5, hs5, hD5, _, hC5⟩
    have d1 := F5.d1
    (wtm_at "mine.wx")
    (((with_reducible refine' E_call (fa := 542) ?k0_218 ?k1_218 ?k2_218 ?k3_218 ?k4_218); (case k0_218 => assumption); (case k2_218 => k_is); (case k3_218 => with_unfolding_all rfl); (case k4_218 => with_unfolding_all rfl); (wtm_at "mine.w_name"); refine ⟨rfl, ?_⟩))
    (wtm_at "mine.wx")
    refine Call_code (draw_spec (by assumption) F5.P (by decide) (by decide) (by omega) fun v H6 _ _ x6 P6 => ?_)
    have F6 := F5.draw hrp x6 P6
    (wtm_at "mine.wx")
    refine ⟨by simp, fun p0 hp0 => ?_⟩
    have F7 := F6.new hp0 (o := .tup [.int v, .int 11])
    have np0 := F6.ne hp0
    have e0 : (H6.set p0 (.tup [.int v, .int 11])) p0 = some (.tup [.int v, .int 11]) := AHeap.set_self _ _ _
    have x7 : ExtP pe H5 (H6.set p0 (.tup [.int v, .int 11])) := x6.trans (((Ext.refl _).set hp0).toP pe)
    have hC7 := x7 C _ hpC hC5
    generalize H6.set p0 (.tup [.int v, .int 11]) = H7 at F7 e0 x7 hC7 ⊢
    have d1 := F7.d1
    with_reducible refine L_cons ?_ (by with_unfolding_all rfl)
    refine WE.mono (Q := fun b1 H8 => ∃ o1, placeAt H8 b1 o1 ∧ ExtP pe H7 H8 ∧ LF L pe cl (49 + 4 * i + 1 + 1 + 1 + 1) (some (.ref od)) (some (.ref bd)) none rw ts H8) ?_ ?_
    · (wtm_at "mine.wx")
      (((with_reducible refine' E_call (fa := 542) ?k0_223 ?k1_223 ?k2_223 ?k3_223 ?k4_223); (case k0_223 => assumption); (case k2_223 => k_is); (case k3_223 => with_unfolding_all rfl); (case k4_223 => with_unfolding_all rfl); (wtm_at "mine.w_name"); refine ⟨rfl, ?_⟩))
      (wtm_at "mine.wx")
      refine Call_code (draw_spec (by assumption) F7.P (by decide) (by decide) (by omega) fun v3 H8 _ _ x8 P8 => ?_)
      have F8 := F7.draw hrp x8 P8
      have d1 := F8.d1
      have hC8 := x8 C _ hpC hC7
      (wtm_at "mine.wx")
      refine ⟨fun _ => ?_, fun _ => ?_⟩
      · (wtm_at "mine.wx")
        (((with_reducible refine' E_call (fa := 542) ?k0_228 ?k1_228 ?k2_228 ?k3_228 ?k4_228); (case k0_228 => assumption); (case k2_228 => k_is); (case k3_228 => with_unfolding_all rfl); (case k4_228 => with_unfolding_all rfl); (wtm_at "mine.w_name"); refine ⟨rfl, ?_⟩))
        (wtm_at "mine.wx")
        refine Call_code (draw_spec (by assumption) F8.P (by decide) (by decide) (by omega) fun v4 H9 _ _ x9 P9 => ?_)
        have F9 := F8.draw hrp x9 P9
        (wtm_at "mine.wx")
        refine ⟨by simp, fun p1 hp1 => ⟨some (v4, 13), ⟨p1, rfl, AHeap.set_self _ _ _⟩, (x8.trans x9).trans (((Ext.refl _).set hp1).toP pe), F9.new hp1⟩⟩
      · (wtm_at "mine.wx")
        exact ⟨none, rfl, x8, F8.up (by omega)⟩
    rintro b1 H8 ⟨o1, hb1, x8, F8⟩
    (wtm_at "mine.wx")
    refine ⟨by simp, fun l hl => ?_⟩
    have xx8 : ExtP pe H5 H8 := x7.trans x8
    have hlp : l ≠ pe := F8.ne hl
    have hlD : l ≠ D := Ne.symm (ne_of (xx8 D _ hpD hD5) hl)
    have e0' := x8 _ _ np0 e0
    have F9 := F8.new hl (o := .list [.ref p0, b1])
    have y9 : Ext H8 (H8.set l (.list [.ref p0, b1])) := (Ext.refl _).set hl
    have hb9 := hb1.extX (S := []) (fun s hs => by cases hs) y9.toX0
    have f0 := y9 _ _ e0'
    have fl : (H8.set l (.list [.ref p0, b1])) l = some (.list [.ref p0, b1]) := AHeap.set_self _ _ _
    have x9 : ExtP pe H5 (H8.set l (.list [.ref p0, b1])) := xx8.trans (y9.toP pe)
    generalize H8.set l (.list [.ref p0, b1]) = H9 at F9 hb9 f0 fl x9 ⊢
    have hC9 := x9 C _ hpC hC5
    (wtm_at "mine.wx")
    refine ⟨by simp, fun t ht => ?_⟩
    have y10 : Ext H9 (H9.set t (.tup [.int ((i : Int) + 6), .ref l])) := (Ext.refl _).set ht
    have F10 := F9.ext y10
    have hb10 := hb9.extX (S := []) (fun s hs => by cases hs) y10.toX0
    have f0 := y10 _ _ f0
    have fl := y10 _ _ fl
    have ft : (H9.set t (.tup [.int ((i : Int) + 6), .ref l])) t = some (.tup [.int ((i : Int) + 6), .ref l]) := AHeap.set_self _ _ _
    have x10 : ExtP pe H5 (H9.set t (.tup [.int ((i : Int) + 6), .ref l])) := x9.trans (y10.toP pe)
    generalize H9.set t (.tup [.int ((i : Int) + 6), .ref l]) = H10 at F10 hb10 f0 fl ft x10 ⊢
    obtain ⟨pxs, hpx5⟩ := F5.P.get
    have hT5 : NoTup H5 [pe] := noTup1s hpx5 rfl
    have O10 := O5.extP F5.P x10
    have B10 := B5.extX (S' := [pe]) hT5 inl1 (ni1 hbp) (x10.toX (.head _))
    have Z10 := Z5.extX (S' := [pe]) hT5 inl1 (x10.toX (.head _))
    have hD10 := x10 D _ hpD hD5
    have hI10 := x10 I _ hpI hI5
    have hC10 := x10 C _ hpC hC5
    have hs10 := x10 tt _ htp hs5
    have hTD : NoTup H10 [D] := noTup1s hD10 rfl
    have xD : ExtX [D] H10 (H10.set D (.list (zs ++ [.ref t]))) := (ExtX.refl _ _).set (.head _)
    have ZD := Z10.extX hTD inl2 xD
    have BD := B10.extX hTD inl2 (ni1 hbD) xD
    have OD := O10.extX hTD (ni1 hoD) xD
    have FD := F10.extX hTD (noC1s hD10 rfl) (ni1 hrD) xD (F10.P.setX (F1.P.neN hD1.1))
    have hDn : ∀ a xs, H10 a = some (.tup xs) → (H10.set D (.list (zs ++ [.ref t]))) a = some (.tup xs) := fun a xs e => xD a _ (fun q => hTD a q _ e) e
    (wtm_at "mine.wx")
    refine ⟨hD10, ⟨FD.up (by omega), OD, BD, ⟨_, xD C _ (ni1 hCD) hC10⟩, ⟨_, xD I _ (ni1 (Ne.symm hD1.2)) hI10⟩, qs ++ [((i : Int) + 6, (some (v, 11), o1))], by simp; omega, ?_, ?_, all2_append ZD (.cons ⟨t, .ref l, rfl, hDn _ _ ft, l, .ref p0, b1, rfl, by simp [hlp, hlD], xD l _ (ni1 hlD) fl, ⟨p0, rfl, hDn _ _ f0⟩, hb10.extX hTD xD⟩ .nil)⟩, hI10, ?_, ⟨_, hC10⟩⟩
    · rw [List.map_append, List.nodup_append]
      refine ⟨hqn, by simp, fun a ha b hb => ?_⟩
      obtain ⟨q, hq, rfl⟩ := List.mem_map.mp ha
      simp at hb
      have := hqs q hq
      intro e; omega
    · intro q hq
      rcases List.mem_append.mp hq with h | h
      · have := hqs q h; omega
      · simp at h; subst h; show (i : Int) + 6 < _; omega
    · exact xD tt _ (ni1 htD) hs10
  · rintro zs H3 ⟨F3, O3, B3, ⟨ρ3, hC3⟩, ⟨PI, hI3'⟩, qs, hql, hqn, hqs, Z3⟩ hD3 hs3
    obtain ⟨F4, hT3, hL3, x34⟩ := F3.fin hI3' hC3
    have O4 := O3.extX hT3 (ni2 hoI hoC) x34
    have B4 := B3.extX hT3 (hL3 _) (ni2 hbI hbC) x34
    have Z4 := Z3.extX hT3 (hL3 _) x34
    have hD4 := x34 D _ (ni2 hD1.2 (Ne.symm hCD)) hD3
    generalize (H3.del I).del C = H4 at F4 O4 B4 Z4 hD4 ⊢
    obtain ⟨kvs, p1, p2, p3⟩ := zs_pairs Z4
    have hkl : kvs.length = qs.length := by rw [← List.length_map (f := (·.1)), p3, List.length_map]
    have hql2 : qs.length ≤ 2 := hql
    (wtm_at "mine.wx")
    refine F_dict (by assumption) hD4 p1 (by rw [p3]; exact hqn) (by omega) fun md H5 ep x5 hmd hmd5 => ?_
    have F5 := F4.ext x5
    have O5 := O4.ext x5
    have B5 := B4.ext x5
    have d4 := F5.d4
    (wtm_at "mine.wx")
    ((refine' A_cell ?k1_238 ?k2_238 ?k3_238 ?k4_238 ?_; (case k1_238 => exact rfl); (case k2_238 => exact rfl); (case k3_238 => exact rfl); (case k4_238 => wtm_at "mine.hlk")))
    have xc : ExtX [L + 1 + 1 + 1 + 1] H5 (H5.set (L + 1 + 1 + 1 + 1) (.cell (some (.ref md)))) := (ExtX.refl _ _).set (.head _)
    have hTc : NoTup H5 [L + 1 + 1 + 1 + 1] := noTup1s d4 rfl
    have hLc : ∀ s ∈ [L + 1 + 1 + 1 + 1], ∀ xs, H5 s ≠ some (.list xs) := noL1s d4 rfl
    have hne : ∀ a kv ep, H5 a = some (.dict kv ep) → a ∉ [L + 1 + 1 + 1 + 1] := fun a kv ep h => by simp; intro e; rw [e, d4] at h; cases h
    have ho5 : ∃ kv ep, H5 od = some (.dict kv ep) := by
      obtain ⟨ep, t6, t7, u6, u7, h1, _⟩ := O5.ex
      exact ⟨_, _, h1⟩
    obtain ⟨kvo, epo, ho5⟩ := ho5
    have hb5 : ∃ kv ep, H5 bd = some (.dict kv ep) := by
      obtain ⟨kv, ep, h1, _⟩ := B5.ex
      exact ⟨_, _, h1⟩
    obtain ⟨kvb, epb, hb5⟩ := hb5
    refine k _ md qs ((F5.up (by show (49 : Int) + 4 * ((2 : Nat) : Int) ≤ 57; decide)).set4 _) (O5.extX hTc (hne _ _ _ ho5) xc) ((B5.extX hTc (fun s hs => .inr (hLc s hs)) (hne _ _ _ hb5) xc).less (by simp)) ?_ hqn hql2
    exact OnTab.extX (S' := [L + 1 + 1 + 1 + 1]) ⟨⟨kvs, ep, hmd5, all2_mono p2 fun p q ⟨e, h⟩ => ⟨e, (h.ext x5).less (by simp)⟩⟩⟩ hTc (fun s hs => .inr (hLc s hs)) (hne _ _ _ hmd5) xc

structure LG (L rw od bd md : Addr) (own : Int → Int × Int) (qb qm : List (Int × Two)) (ts : List Trip) (H : AHeap) : Prop where
  d2 : H (L + 1 + 1) = some (.cell (some (.ref od)))
  d3 : H (L + 1 + 1 + 1) = some (.cell (some (.ref bd)))
  d4 : H (L + 1 + 1 + 1 + 1) = some (.cell (some (.ref md)))
  R : RInv H rw ts
  O : OwnOK H od own
  B : OnTab [] H bd qb
  M : OnTab [] H md qm
theorem placeAt.extI {H H' a o} (h : placeAt H a o) (x : ExtI H H') : placeAt H' a o := by
  unfold placeAt at *
  split at h
  · exact h
  · obtain ⟨l, h1, h2⟩ := h
    exact ⟨l, h1, x _ _ h2 rfl⟩
theorem OnTab.extI {S H H' d qs} (h : OnTab S H d qs) (x : ExtI H H') : OnTab S H' d qs := by
  obtain ⟨kv, ep, h1, h2⟩ := h.ex
  exact ⟨⟨kv, ep, x _ _ h1 rfl, all2_mono h2 fun _ _ ⟨e, l, b0, b1, k1, k2, k3, k4, k5⟩ => ⟨e, l, b0, b1, k1, k2, x _ _ k3 rfl, k4.extI x, k5.extI x⟩⟩⟩
theorem LG.extI {L rw od bd md own qb qm ts H H'} (G : LG L rw od bd md own qb qm ts H) (x : ExtI H H') : LG L rw od bd md own qb qm ts H' := by
  obtain ⟨ep, t6, t7, u6, u7, h1, h2, h3, h4, h5⟩ := G.O.ex
  exact ⟨x _ _ G.d2 rfl, x _ _ G.d3 rfl, x _ _ G.d4 rfl, G.R.ext (fun a xs e => x _ _ e rfl) fun as e => x _ _ e rfl, ⟨⟨ep, t6, t7, u6, u7, x _ _ h1 rfl, x _ _ h2 rfl, x _ _ h3 rfl, x _ _ h4 rfl, x _ _ h5 rfl⟩⟩, G.B.extI x, G.M.extI x⟩
theorem LF.toG {L pe cl n od bd md rw ts H own qb qm} (F : LF L pe cl n (some (.ref od)) (some (.ref bd)) (some (.ref md)) rw ts H) (O : OwnOK H od own) (B : OnTab [pe] H bd qb) (M : OnTab [pe] H md qm) : LG L rw od bd md own qb qm ts H :=
  ⟨F.d2, F.d3, F.d4, F.R, O, B.less (by simp), M.less (by simp)⟩

theorem LG.extX1 {L rw od bd md own qb qm ts H H' I P} (G : LG L rw od bd md own qb qm ts H) (hI : H I = some (.pred P)) (x : ExtX [I] H H') : LG L rw od bd md own qb qm ts H' := by
  have f : ∀ a o, H a = some o → (∀ P, o ≠ .pred P) → H' a = some o := fun a o e hn => x a o (by simp; intro q; rw [q, hI] at e; cases e; exact hn _ rfl) e
  have hT : NoTup H [I] := noTup1s hI rfl
  have hL : ∀ s ∈ [I], s ∈ ([] : List Addr) ∨ ∀ xs, H s ≠ some (.list xs) := fun s hs => .inr (noL1s hI rfl s hs)
  have hd : ∀ a kv ep, H a = some (.dict kv ep) → a ∉ [I] := fun a kv ep e => by simp; intro q; rw [q, hI] at e; cases e
  obtain ⟨ep, t6, t7, u6, u7, h1, h2, h3, h4, h5⟩ := G.O.ex
  obtain ⟨kb, eb, hb, _⟩ := G.B.ex
  obtain ⟨km, em, hm, _⟩ := G.M.ex
  exact ⟨f _ _ G.d2 (by simp), f _ _ G.d3 (by simp), f _ _ G.d4 (by simp), G.R.ext (fun a xs e => f _ _ e (by simp)) fun as e => f _ _ e (by simp), G.O.extX hT (hd _ _ _ h1) x, G.B.extX hT hL (hd _ _ _ hb) x, G.M.extX hT hL (hd _ _ _ hm) x⟩

theorem all2_get' {α β : Type} {R : α → β → Prop} {as : List α} {bs : List β} (h : All2 R as bs) : ∀ (i : Nat) (b : β), bs[i]? = some b → ∃ a, as[i]? = some a ∧ R a b := by
  induction h with
  | nil => intro i b e; simp at e
  | cons hr _ ih =>
    intro i b e
    cases i with
    | zero => simp at e; subst e; exact ⟨_, rfl, hr⟩
    | succ i => simpa using ih i b (by simpa using e)

theorem RowOK.push {H il xs x dx r u} (R : RowOK H il xs) (hx : H x = some (.inst 175 dx)) (hd : H dx = some (.ns (infoF r u))) (hg : IsGl r.glyph) (hn : ∀ p ∈ xs, p.2.1 ≠ dx) (hl : xs.length < 100) : RowOK (H.set il (.list ((xs.map fun p => .ref p.1) ++ [.ref x]))) il (xs ++ [(x, dx, r)]) := by
  have f : ∀ a o, H a = some o → (∀ ys, o ≠ .list ys) → (H.set il (.list ((xs.map fun p => .ref p.1) ++ [.ref x]))) a = some o := fun a o e hn => by
    rw [AHeap.set_ne _ _ (fun q => by rw [q, R.rl] at e; cases e; exact hn _ rfl)]; exact e
  refine ⟨by rw [AHeap.set_self, List.map_append]; rfl, fun k p e => ?_, fun p hp => ?_, ?_, by simp; omega⟩
  · rcases Nat.lt_or_ge k xs.length with h | h
    · rw [List.getElem?_append_left h] at e
      obtain ⟨a, u', b⟩ := R.at_ k p e
      exact ⟨f _ _ a (by simp), u', f _ _ b (by simp)⟩
    · rw [List.getElem?_append_right h] at e
      have h0 : k - xs.length = 0 := by
        have := (List.getElem?_eq_some_iff.mp e).1
        simp at this; omega
      rw [h0] at e
      simp at e
      subst e
      exact ⟨f _ _ hx (by simp), u, f _ _ hd (by simp)⟩
  · rcases List.mem_append.mp hp with h | h
    · exact R.gl p h
    · simp at h; subst h; exact hg
  · rw [List.map_append, List.nodup_append]
    refine ⟨R.nd, by simp, fun a ha b hb => ?_⟩
    obtain ⟨p, hp, rfl⟩ := List.mem_map.mp ha
    simp at hb
    subst hb
    exact hn p hp

theorem LG.setIl {L rw od bd md own qb qm ts H il xs o} (G : LG L rw od bd md own qb qm ts H) (R : RowOK H il xs) (hr : rw ≠ il) : LG L rw od bd md own qb qm ts (H.set il o) := by
  have f : ∀ a o', H a = some o' → (∀ ys, o' ≠ .list ys) → (H.set il o) a = some o' := fun a o' e hn => by
    rw [AHeap.set_ne _ _ (fun q => by rw [q, R.rl] at e; cases e; exact hn _ rfl)]; exact e
  have fp : ∀ a o', placeAt H a o' → placeAt (H.set il o) a o' := fun a o' h => by
    unfold placeAt at *
    split at h
    · exact h
    · obtain ⟨l, h1, h2⟩ := h
      exact ⟨l, h1, f _ _ h2 (by simp)⟩
  have ft : ∀ d qs, OnTab [] H d qs → OnTab [] (H.set il o) d qs := fun d qs h => by
    obtain ⟨kv, ep, h1, h2⟩ := h.ex
    refine ⟨⟨kv, ep, f _ _ h1 (by simp), all2_mono h2 fun _ _ ⟨e, l, b0, b1, k1, k2, k3, k4, k5⟩ => ⟨e, l, b0, b1, k1, k2, ?_, fp _ _ k4, fp _ _ k5⟩⟩⟩
    have hl : l ≠ il := fun q => by
      rw [q, R.rl] at k3
      injection k3 with k3
      injection k3 with k3
      rcases xs with _ | ⟨p, xs⟩
      · simp at k3
      · simp at k3
        have hp := (R.at_ 0 p rfl).1
        rw [← k3.1] at k4
        unfold placeAt at k4
        split at k4
        · cases k4
        · obtain ⟨l', e1, e2⟩ := k4
          cases e1
          rw [hp] at e2; cases e2
    rw [AHeap.set_ne _ _ hl]; exact k3
  obtain ⟨ep, t6, t7, u6, u7, h1, h2, h3, h4, h5⟩ := G.O.ex
  exact ⟨f _ _ G.d2 (by simp), f _ _ G.d3 (by simp), f _ _ G.d4 (by simp), G.R.ext (fun a xs e => f _ _ e (by simp)) fun as e => by rw [AHeap.set_ne _ _ hr]; exact e, ⟨⟨ep, t6, t7, u6, u7, f _ _ h1 (by simp), f _ _ h2 (by simp), f _ _ h3 (by simp), f _ _ h4 (by simp), f _ _ h5 (by simp)⟩⟩, ft _ _ G.B, ft _ _ G.M⟩
theorem RowIs.snoc {ir} {ts : List Trip} {xs : IRow} {i : Nat} {t : Trip} {a b : Addr} (X : RowIs ir (ts.take i) xs) (ht : ts[i]? = some t) (hl : xs.length = i) : RowIs ir (ts.take (i + 1)) (xs ++ [(a, b, ir i t)]) := by
  have hi := (List.getElem?_eq_some_iff.mp ht).1
  refine ⟨by simp; omega, fun k t' p e e' => ?_⟩
  have hk : k < i + 1 := by
    have := (List.getElem?_eq_some_iff.mp e).1
    simp at this; omega
  rw [List.getElem?_take, if_pos hk] at e
  by_cases h : k < i
  · rw [List.getElem?_append_left (by omega)] at e'
    exact X.at_ k t' p (by rw [List.getElem?_take, if_pos h]; exact e) e'
  · have : k = i := by omega
    subst this
    rw [ht] at e; cases e
    rw [List.getElem?_append_right (by omega), hl] at e'
    simp at e'
    subst e'
    rfl

set_option maxHeartbeats 4000000 in
theorem segB1 {w A L a ccd h₀ d} {scope : Scope} {body rest : List Stmt} {Q : Fl → Loc → AHeap → Prop} (hb : LawIs w.params scope body) (ok : (lawCx w A scope L a ccd h₀).OK (d + 5)) {H : AHeap} {rw od bd md : Addr} {b : Bool} {own qb qm ts}
    (G : LG L rw od bd md own qb qm ts H) (hs : RowSh ts) (hn : ts.length ≤ 15)
    (k : ∀ H' il xs, LG L rw od bd md own qb qm ts H' → RowOK H' il xs → RowIs ir0 ts xs → WS (lawCx w A scope L a ccd h₀) rest [(Str.ofString "infos", .ref il), (Str.ofString "row", .ref rw), (Str.ofString "is_backward", .bool b)] H' Q) :
    WS (lawCx w A scope L a ccd h₀) ((body.drop 6).take 2 ++ rest) [(Str.ofString "row", .ref rw), (Str.ofString "is_backward", .bool b)] H Q := by
  ((refine' law_go hb ?ho_239 ?_; (case ho_239 => k_is); intro e1 e2; subst e1; subst e2; simp only [List.take_succ_cons, List.take_zero, List.drop_succ_cons, List.drop_zero, List.cons_append, List.nil_append]))
  obtain ⟨as, hr, _⟩ := G.R.ex
  (wtm_at "mine.wx")
  refine ⟨by simp, fun il hil => ?_⟩
  have G1 := G.extI ((Ext.refl _).set hil (o := .list [])).toI
  have hil1 : (H.set il (.list [])) il = some (.list []) := AHeap.set_self _ _ _
  have hri : rw ≠ il := ne_of hr hil
  generalize H.set il (.list []) = H1 at G1 hil1 ⊢
  (wtm_at "mine.wx")
  obtain ⟨as, hr, hA⟩ := G1.R.ex
  have hal := all2_length hA
  refine loop_rng (by assumption) (ts.length : Int) (by omega) (by omega) ?_
  (((with_reducible refine' E_callT (T := "range") ?k1_242 ?k2_242 ?k3_242); (case k2_242 => with_unfolding_all rfl); (case k3_242 => with_unfolding_all rfl); (wtm_at "mine.w_name"); refine ⟨rfl, ?_⟩))
  (wtm_at "mine.wx")
  ((refine E_callB (id := "len") ?_ (by with_unfolding_all rfl) (by with_unfolding_all rfl); wtm_at "mine.w_name"; refine ⟨rfl, ?_⟩))
  (wtm_at "mine.wx")
  refine F_len hr (by omega) ?_
  (wtm_at "mine.wx")
  rw [show (as.length : Int) = (ts.length : Int) by omega]
  refine F_range fun r hrr => ?_
  refine ⟨r, rfl, AHeap.set_self _ _ _, fun I hI => ?_⟩
  have hrI := set_none hI
  have hlI : il ≠ I := ne_of hil1 hrI.1
  have hrwI : rw ≠ I := ne_of hr hrI.1
  have hlr : il ≠ r := ne_of hil1 hrr
  refine ⟨fun i ρ H' => ∃ xs, LG L rw od bd md own qb qm ts H' ∧ RowOK H' il xs ∧ xs.length = i ∧ RowIs ir0 (ts.take i) xs ∧ (∃ P, H' I = some (.pred P)) ∧ ρ = [(Str.ofString "infos", .ref il), (Str.ofString "row", .ref rw), (Str.ofString "is_backward", .bool b)], ?_, ?_, ?_⟩
  · have y : Ext H1 ((H1.set r (.rng ts.length)).set I (.pred (rngIt ts.length 0))) := ((Ext.refl _).set hrr).set hI
    refine ⟨_, Sub.cons rfl (Sub.cons rfl (Sub.cons rfl Sub.nil)), [], G1.extI y.toI, ⟨y _ _ hil1, by simp, by simp, by simp, by simp⟩, rfl, ⟨by simp, by simp⟩, ⟨_, AHeap.set_self _ _ _⟩, rfl⟩
  · rintro i σ1 H4 hi ⟨xs, G4, R4, hxl, X4, _, rfl⟩ hI4
    (wtm_at "mine.w_store")
    have xI : ExtX [I] H4 (H4.set I (.pred (rngIt ts.length (i + 1)))) := (ExtX.refl _ _).set (by simp)
    have G5 := G4.extX1 hI4 xI
    have R5 := R4.predSet hI4 (o := .pred (rngIt ts.length (i + 1)))
    have hI5 : (H4.set I (.pred (rngIt ts.length (i + 1)))) I = some (.pred (rngIt ts.length (i + 1))) := AHeap.set_self _ _ _
    generalize H4.set I (.pred (rngIt ts.length (i + 1))) = H5 at G5 R5 hI5 ⊢
    obtain ⟨t, ht⟩ : ∃ t, ts[i]? = some t := ⟨ts[i]'(by omega), List.getElem?_eq_getElem _⟩
    obtain ⟨as5, hr5, hA5⟩ := G5.R.ex
    (wtm_at "mine.wx")
    (((with_reducible refine' E_call (fa := 175) ?k0_250 ?k1_250 ?k2_250 ?k3_250 ?k4_250); (case k0_250 => assumption); (case k2_250 => k_is); (case k3_250 => with_unfolding_all rfl); (case k4_250 => with_unfolding_all rfl); (wtm_at "mine.w_name"); refine ⟨rfl, ?_⟩))
    (wtm_at "mine.wx")
    obtain ⟨ai, hai, hTi⟩ := all2_get' hA5 i t ht
    obtain ⟨tl, rfl, htl⟩ := hTi
    refine I_list hr5 (by omega) (by omega) (by rw [Int.toNat_natCast]; exact hai) ?_
    (wtm_at "mine.wx")
    refine I_tup htl (by decide) (by decide) rfl ?_
    (wtm_at "mine.wx")
    refine mk_info (by assumption) fun x dx H6 x6 hx hdx hne h6x h6d => ?_
    have G6 := G5.extI x6.toI
    have R6 := R5.ext x6
    have hI6 := x6 _ _ hI5
    have hr6 := x6 _ _ hr5
    have htl6 := x6 _ _ htl
    (wtm_at "mine.wx")
    have hrdx : rw ≠ dx := ne_of hr5 hdx
    have htdx : tl ≠ dx := ne_of htl hdx
    refine I_list ((AHeap.set_ne _ _ hrdx).trans hr6) (by omega) (by omega) (by rw [Int.toNat_natCast]; exact hai) ?_
    (wtm_at "mine.wx")
    refine I_tup ((AHeap.set_ne _ _ htdx).trans htl6) (by decide) (by decide) rfl ?_
    (wtm_at "mine.wx")
    simp only [AHeap.set_set]
    have e7 : setF (Str.ofString "x_advance") (AV.int t.2.1) (setF (Str.ofString "mask") (AV.int 1) (infoF0 t.1 (i : Int))) = infoF (ir0 i t) false := rfl
    rw [e7]
    have x7 : Ext H5 (H6.set dx (.ns (infoF (ir0 i t) false))) := x6.setI hdx
    have h7x : (H6.set dx (.ns (infoF (ir0 i t) false))) x = some (.inst 175 dx) := (AHeap.set_ne _ _ hne).trans h6x
    have h7d : (H6.set dx (.ns (infoF (ir0 i t) false))) dx = some (.ns (infoF (ir0 i t) false)) := AHeap.set_self _ _ _
    generalize H6.set dx (.ns (infoF (ir0 i t) false)) = H7 at x7 h7x h7d ⊢
    have G7 := G5.extI x7.toI
    have R7 := R5.ext x7
    have hI7 := x7 _ _ hI5
    refine' E_append ?ok ?_ _ ?hee ?he
    case hee => with_unfolding_all rfl
    case he => with_unfolding_all rfl
    case ok => assumption
    (wtm_at "mine.wx")
    refine ⟨il, _, rfl, R7.rl, ?_⟩
    (wtm_at "mine.wx")
    refine ⟨_, R7.rl, by simp; omega, ?_⟩
    have hdn : ∀ p ∈ xs, p.2.1 ≠ dx := fun p hp e => by
      obtain ⟨k, hk⟩ := List.getElem?_of_mem hp
      obtain ⟨_, u, hu⟩ := R5.at_ k p hk
      rw [e, hdx] at hu; cases hu
    have hgl : IsGl (ir0 i t).glyph := by
      rcases sh_mark hs ht with ⟨_, h1 | h1⟩ | ⟨_, h1 | h1⟩
      · exact .inr (.inr (.inl h1))
      · exact .inr (.inr (.inr h1))
      · exact .inl h1
      · exact .inr (.inl h1)
    have R8 := R7.push h7x h7d hgl hdn (by omega)
    have G8 := G7.setIl R7 hri (o := .list ((xs.map fun p => .ref p.1) ++ [.ref x]))
    have hlI' : I ≠ il := Ne.symm hlI
    have hI8 : (H7.set il (.list ((xs.map fun p => .ref p.1) ++ [.ref x]))) I = some (.pred (rngIt ts.length (i + 1))) := (AHeap.set_ne _ _ hlI').trans hI7
    (wtm_at "mine.wx")
    refine ⟨⟨_, Sub.cons rfl (Sub.cons rfl (Sub.cons rfl Sub.nil)), xs ++ [(x, dx, ir0 i t)], G8, R8, by simp [hxl], X4.snoc ht hxl, ⟨_, hI8⟩, rfl⟩, hI8⟩
  · rintro σ1 H4 ⟨xs, G4, R4, hxl, X4, ⟨PI, hpI⟩, rfl⟩
    rw [Int.toNat_natCast] at hxl X4
    rw [List.take_length] at X4
    (wtm_at "mine.wx")
    have x : ExtX [I] H4 (H4.del I) := fun a o h e => by rw [AHeap.del_ne _ (by simpa using h)]; exact e
    exact k _ il xs (G4.extX1 hpI x) (R4.predDel hpI) X4

set_option maxHeartbeats 4000000 in
theorem segB2 {w A L a ccd h₀ d} {scope : Scope} {body rest : List Stmt} {Q : Fl → Loc → AHeap → Prop} (hb : LawIs w.params scope body) (ok : (lawCx w A scope L a ccd h₀).OK (d + 5)) {H : AHeap} {rw od bd md il : Addr} {b : Bool} {own qb qm ts xs}
    (G : LG L rw od bd md own qb qm ts H) (R : RowOK H il xs)
    (k : ∀ H' (S : Sc), S.rl = il → LG L rw od bd md own qb qm ts H' → RowOK H' S.rl xs → StaticOK H' S b → WS (lawCx w A scope L a ccd h₀) rest [(Str.ofString "gdef", .ref S.gd), (Str.ofString "buffer", .ref S.bu), (Str.ofString "row", .ref rw), (Str.ofString "is_backward", .bool b)] H' Q) :
    WS (lawCx w A scope L a ccd h₀) ((body.drop 8).take 2 ++ rest) [(Str.ofString "infos", .ref il), (Str.ofString "row", .ref rw), (Str.ofString "is_backward", .bool b)] H Q := by
  ((refine' law_go hb ?ho_262 ?_; (case ho_262 => k_is); intro e1 e2; subst e1; subst e2; simp only [List.take_succ_cons, List.take_zero, List.drop_succ_cons, List.drop_zero, List.cons_append, List.nil_append]))
  (wtm_at "mine.wx")
  (((with_reducible refine' E_call (fa := 228) ?k0_264 ?k1_264 ?k2_264 ?k3_264 ?k4_264); (case k0_264 => assumption); (case k2_264 => k_is); (case k3_264 => with_unfolding_all rfl); (case k4_264 => with_unfolding_all rfl); (wtm_at "mine.w_name"); refine ⟨rfl, ?_⟩))
  (wtm_at "mine.wx")
  refine mk_buf (by assumption) fun bu bud H1 x1 _ hbu hbud => ?_
  (wtm_at "mine.wx")
  (((with_reducible refine' E_call (fa := 526) ?k0_268 ?k1_268 ?k2_268 ?k3_268 ?k4_268); (case k0_268 => assumption); (case k2_268 => k_is); (case k3_268 => with_unfolding_all rfl); (case k4_268 => with_unfolding_all rfl); (wtm_at "mine.w_name"); refine ⟨rfl, ?_⟩))
  (wtm_at "mine.wx")
  (((with_reducible refine' E_call (fa := 478) ?k0_271 ?k1_271 ?k2_271 ?k3_271 ?k4_271); (case k0_271 => assumption); (case k2_271 => k_is); (case k3_271 => with_unfolding_all rfl); (case k4_271 => with_unfolding_all rfl); (wtm_at "mine.w_name"); refine ⟨rfl, ?_⟩))
  (wtm_at "mine.wx")
  (((with_reducible refine' E_dict ?a_274 ?b_274 ?c_274 ?d_274 ?_); (case a_274 => exact rfl); (case b_274 => exact rfl); (case c_274 => simp); (case d_274 => decide)))
  intro cdl hcdl
  (wtm_at "mine.wx")
  refine ⟨1, rfl, ?_⟩
  (wtm_at "mine.wx")
  refine ⟨2, rfl, ?_⟩
  (wtm_at "mine.wx")
  refine ⟨6, rfl, ?_⟩
  (wtm_at "mine.wx")
  refine ⟨7, rfl, ?_⟩
  (wtm_at "mine.wx")
  refine ⟨AHeap.set_self _ _ _, by simp, by simp, fun ep => ?_⟩
  rw [AHeap.set_set]
  have y1 : Ext H1 (H1.set cdl (.dict [(1, .int 1), (2, .int 1), (6, .int 3), (7, .int 3)] ep)) := (Ext.refl _).set hcdl
  have e1 : (H1.set cdl (.dict [(1, .int 1), (2, .int 1), (6, .int 3), (7, .int 3)] ep)) cdl = some (.dict [(1, .int 1), (2, .int 1), (6, .int 3), (7, .int 3)] ep) := AHeap.set_self _ _ _
  generalize H1.set cdl (.dict [(1, .int 1), (2, .int 1), (6, .int 3), (7, .int 3)] ep) = H2 at y1 e1 ⊢
  (wtm_at "mine.wx")
  refine mk_class (by assumption) fun cd cdd H3 x3 _ hcd hcdd => ?_
  (wtm_at "mine.wx")
  (((with_reducible refine' E_call (fa := 478) ?k0_282 ?k1_282 ?k2_282 ?k3_282 ?k4_282); (case k0_282 => assumption); (case k2_282 => k_is); (case k3_282 => with_unfolding_all rfl); (case k4_282 => with_unfolding_all rfl); (wtm_at "mine.w_name"); refine ⟨rfl, ?_⟩))
  (wtm_at "mine.wx")
  refine E_dict0 (by assumption) fun ad0 ep0 had0 => ?_
  have y3 : Ext H3 (H3.set ad0 (.dict [] ep0)) := (Ext.refl _).set had0
  generalize H3.set ad0 (.dict [] ep0) = H4 at y3 ⊢
  (wtm_at "mine.wx")
  refine mk_class (by assumption) fun ad add H5 x5 _ had hadd => ?_
  (wtm_at "mine.wx")
  refine ⟨by simp, fun sl hsl => ?_⟩
  have y5 : Ext H5 (H5.set sl (.list [])) := (Ext.refl _).set hsl
  generalize H5.set sl (.list []) = H6 at y5 ⊢
  (wtm_at "mine.wx")
  refine mk_gdef (by assumption) fun gd gdd pl ql H7 x7 hgd hgdd => ?_
  (wtm_at "mine.wx")
  have z7 := ((((y1.trans x3).trans y3).trans x5).trans y5).trans x7
  have z3 := (((y3.trans x5).trans y5).trans x7)
  have z1 := x1.trans z7
  refine WS.sub (k _ ⟨bu, bud, il, gd, gdd, cd, cdd, cdl, ad, sl, pl, ql⟩ rfl (G.extI z1.toI) (R.ext z1) ⟨z7 _ _ hbu, z7 _ _ hbud, hgd, hgdd, z3 _ _ hcd, z3 _ _ hcdd, ⟨ep, (x3.trans z3) _ _ e1⟩⟩) (Sub.cons rfl (Sub.cons rfl (Sub.cons rfl (Sub.cons rfl Sub.nil))))

theorem anchAt.extS {H H' a o} (h : anchAt H a o) (x : ExtS H H') : anchAt H' a o := by
  unfold anchAt at *
  split at h
  · exact h
  · obtain ⟨l, dl, h1, h2, h3⟩ := h
    exact ⟨l, dl, h1, x _ _ h2 rfl, x _ _ h3 rfl⟩
def TwoAt (H : AHeap) (a : AV) (o : Two) : Prop := ∃ t b0 b1, a = .ref t ∧ H t = some (.tup [b0, b1]) ∧ anchAt H b0 o.1 ∧ anchAt H b1 o.2
theorem TwoAt.extS {H H' a o} (h : TwoAt H a o) (x : ExtS H H') : TwoAt H' a o := by
  obtain ⟨t, b0, b1, h1, h2, h3, h4⟩ := h
  exact ⟨t, b0, b1, h1, x _ _ h2 rfl, h3.extS x, h4.extS x⟩
theorem lookI_at {kvs : List (Int × AV)} (hn : (kvs.map (·.1)).Nodup) : ∀ {i : Nat} {p : Int × AV}, kvs[i]? = some p → lookI kvs p.1 = some p.2 := by
  induction kvs with
  | nil => intro i p e; simp at e
  | cons q kvs ih =>
    intro i p e
    rw [List.map_cons, List.nodup_cons] at hn
    unfold lookI
    rw [List.find?_cons]
    cases i with
    | zero => simp at e; subst e; simp
    | succ i =>
      have e' : kvs[i]? = some p := by simpa using e
      have hne : q.1 ≠ p.1 := fun h => hn.1 (by rw [h]; exact List.mem_map_of_mem (List.mem_of_getElem? e'))
      simp only [hne, decide_false]
      exact ih hn.2 e'
def tabOf (qs : List (Int × Two)) : Tab := fun g => (qs.find? fun q => q.1 = g).map (·.2)
theorem all2_keys {H : AHeap} {kvs : List (Int × AV)} {qs : List (Int × Two)} {R : AHeap → AV → Two → Prop} (h : All2 (fun (p : Int × AV) (q : Int × Two) => p.1 = q.1 ∧ R H p.2 q.2) kvs qs) : kvs.map (·.1) = qs.map (·.1) := by
  induction h with
  | nil => rfl
  | cons hr _ ih => rw [List.map_cons, List.map_cons, ih, hr.1]
theorem tabOK_of {H : AHeap} {d ep kvs qs} (hd : H d = some (.dict kvs ep)) (h : All2 (fun (p : Int × AV) (q : Int × Two) => p.1 = q.1 ∧ TwoAt H p.2 q.2) kvs qs) : TabOK H d (tabOf qs) := by
  refine ⟨⟨kvs, ep, hd, fun gl => ?_⟩⟩
  clear hd
  unfold tabOf lookI
  induction h with
  | nil => rfl
  | @cons p q ps qs hr _ ih =>
    rw [List.find?_cons, List.find?_cons, hr.1]
    by_cases hk : q.1 = gl
    · simp only [hk, decide_true, Option.map_some]
      obtain ⟨t, b0, b1, h1, h2, h3, h4⟩ := hr.2
      exact ⟨t, b0, b1, by rw [h1], h2, h3, h4⟩
    · simp only [hk, decide_false]
      exact ih
theorem all2_of {α β : Type} {R : α → β → Prop} : ∀ {as : List α} {bs : List β}, as.length = bs.length → (∀ (i : Nat) (a : α), as[i]? = some a → ∃ b, bs[i]? = some b ∧ R a b) → All2 R as bs
  | [], [], _, _ => .nil
  | a :: as, b :: bs, hl, h => by
    obtain ⟨b', e, r⟩ := h 0 a rfl
    simp at e
    subst e
    exact .cons r (all2_of (by simpa using hl) fun i a e => by simpa using h (i + 1) a (by simpa using e))

set_option maxHeartbeats 4000000 in
theorem segB3 {w A L a ccd h₀ d} {scope : Scope} {body rest : List Stmt} {Q : Fl → Loc → AHeap → Prop} (hb : LawIs w.params scope body) (ok : (lawCx w A scope L a ccd h₀).OK (d + 5)) {H : AHeap} {rw od bd md : Addr} {b : Bool} {own qb qm ts} {S : Sc}
    (G : LG L rw od bd md own qb qm ts H)
    (k : ∀ H' ml, Ext H H' → MarksOK H' ml own → WS (lawCx w A scope L a ccd h₀) rest [(Str.ofString "marks", .ref ml), (Str.ofString "gdef", .ref S.gd), (Str.ofString "buffer", .ref S.bu), (Str.ofString "row", .ref rw), (Str.ofString "is_backward", .bool b)] H' Q) :
    WS (lawCx w A scope L a ccd h₀) ((body.drop 10).take 1 ++ rest) [(Str.ofString "gdef", .ref S.gd), (Str.ofString "buffer", .ref S.bu), (Str.ofString "row", .ref rw), (Str.ofString "is_backward", .bool b)] H Q := by
  ((refine' law_go hb ?ho_289 ?_; (case ho_289 => k_is); intro e1 e2; subst e1; subst e2; simp only [List.take_succ_cons, List.take_zero, List.drop_succ_cons, List.drop_zero, List.cons_append, List.nil_append]))
  have d2 := G.d2
  obtain ⟨ep, t6, t7, u6, u7, h1, h2, h3, h4, h5⟩ := G.O.ex
  (wtm_at "mine.wx")
  (((with_reducible refine' E_callT (T := "dict") ?k1_291 ?k2_291 ?k3_291); (case k2_291 => with_unfolding_all rfl); (case k3_291 => with_unfolding_all rfl); (wtm_at "mine.w_name"); refine ⟨rfl, ?_⟩))
  (wtm_at "mine.wx")
  refine comp_all (cl := [(Str.ofString "own", L + 1 + 1)]) (by assumption) [.int 6, .int 7] (fun i y H' => ∃ t u l dl, y = .ref t ∧ H' t = some (.tup [.int ((i : Int) + 6), .ref u]) ∧ H' u = some (.tup [.int (i : Int), .ref l]) ∧ H' l = some (.inst 45 dl) ∧ H' dl = some (.ns (anc (own ((i : Int) + 6)).1 (own ((i : Int) + 6)).2))) (fun i y H H' x ⟨t, u, l, dl, e1, e2, e3, e4, e5⟩ => ⟨t, u, l, dl, e1, x _ _ e2 rfl, x _ _ e3 rfl, x _ _ e4 rfl, x _ _ e5 rfl⟩) rfl (by decide) rfl (by decide) rfl ?_
  (wtm_at "mine.wx")
  refine ⟨by simp, ItG_dict (by assumption) h1, fun i a' C H3 hx x3 hC => ?_, fun D ys H3 x3 hD hys hlen hP => ?_⟩
  · have ha : i < 2 ∧ a' = .int ((i : Int) + 6) := by
      rcases i with _ | _ | i
      · exact ⟨by decide, by simpa using hx.symm⟩
      · exact ⟨by decide, by simpa using hx.symm⟩
      · simp at hx
    obtain ⟨hi2, rfl⟩ := ha
    obtain ⟨t, u, hlk1, hlk2, hlk3⟩ : ∃ t u, lookI [(6, .ref t6), (7, .ref t7)] ((i : Int) + 6) = some (.ref t) ∧ H3 t = some (.tup [.int (i : Int), .ref u]) ∧ H3 u = some (.tup [.int (own ((i : Int) + 6)).1, .int (own ((i : Int) + 6)).2]) := by
      rcases i with _ | _ | i
      · exact ⟨t6, u6, rfl, x3 _ _ h2, x3 _ _ h4⟩
      · exact ⟨t7, u7, rfl, x3 _ _ h3, x3 _ _ h5⟩
      · omega
    have d23 := x3 _ _ d2
    have h13 := x3 _ _ h1
    (wtm_at "mine.wx")
    refine I_dict h13 hlk1 ?_
    (wtm_at "mine.wx")
    refine I_tup hlk2 (by decide) (by decide) rfl ?_
    (wtm_at "mine.wx")
    (((with_reducible refine' E_call (fa := 45) ?k0_298 ?k1_298 ?k2_298 ?k3_298 ?k4_298); (case k0_298 => assumption); (case k2_298 => k_is); (case k3_298 => with_unfolding_all rfl); (case k4_298 => with_unfolding_all rfl); (wtm_at "mine.w_name"); refine ⟨rfl, ?_⟩))
    (wtm_at "mine.wx")
    refine I_dict h13 hlk1 ?_
    (wtm_at "mine.wx")
    refine I_tup hlk2 (by decide) (by decide) rfl ?_
    (wtm_at "mine.wx")
    refine I_tup hlk3 (by decide) (by decide) rfl ?_
    (wtm_at "mine.wx")
    refine I_dict h13 hlk1 ?_
    (wtm_at "mine.wx")
    refine I_tup hlk2 (by decide) (by decide) rfl ?_
    (wtm_at "mine.wx")
    refine I_tup hlk3 (by decide) (by decide) rfl ?_
    (wtm_at "mine.wx")
    refine mk_anchor (by assumption) fun l dl H4 x4 _ hl hdl => ?_
    (wtm_at "mine.wx")
    refine ⟨by simp, fun u' hu' => ?_⟩
    have y4 : Ext H4 (H4.set u' (.tup [.int (i : Int), .ref l])) := (Ext.refl _).set hu'
    have e4 : (H4.set u' (.tup [.int (i : Int), .ref l])) u' = some (.tup [.int (i : Int), .ref l]) := AHeap.set_self _ _ _
    generalize H4.set u' (.tup [.int (i : Int), .ref l]) = H5 at y4 e4 ⊢
    (wtm_at "mine.wx")
    refine ⟨by simp, fun t' ht' => ?_⟩
    have y5 : Ext H5 (H5.set t' (.tup [.int ((i : Int) + 6), .ref u'])) := (Ext.refl _).set ht'
    (wtm_at "mine.wx")
    exact ⟨(x4.trans y4).trans y5, t', u', l, dl, rfl, AHeap.set_self _ _ _, y5 _ _ e4, (y4.trans y5) _ _ hl, (y4.trans y5) _ _ hdl⟩
  · obtain ⟨y0, y1, rfl⟩ := len2 hlen
    obtain ⟨k0, v0, l0, dl0, rfl, a1, a2, a3, a4⟩ := hP 0 y0 rfl
    obtain ⟨k1, v1, l1, dl1, rfl, b1, b2, b3, b4⟩ := hP 1 y1 rfl
    (wtm_at "mine.wx")
    refine F_dict (kvs := [(6, .ref v0), (7, .ref v1)]) (by assumption) hys (.cons ⟨k0, rfl, a1⟩ (.cons ⟨k1, rfl, b1⟩ .nil)) (by simp) (by simp) fun ml H4 ep4 x4 _ hml => ?_
    (wtm_at "mine.wx")
    refine k _ ml (x3.trans x4) ⟨⟨ep4, v0, v1, .ref l0, .ref l1, hml, x4 _ _ a2, x4 _ _ b2, ⟨l0, dl0, rfl, x4 _ _ a3, x4 _ _ a4⟩, ⟨l1, dl1, rfl, x4 _ _ b3, x4 _ _ b4⟩⟩⟩

theorem two_of {H : AHeap} {ys : List AV} {o : Two} (hl : ys.length = 2) (h : ∀ (i : Nat) (y : AV), ys[i]? = some y → ∃ q, [o.1, o.2][i]? = some q ∧ anchAt H y q) : ∃ b0 b1, ys = [b0, b1] ∧ anchAt H b0 o.1 ∧ anchAt H b1 o.2 := by
  obtain ⟨b0, b1, rfl⟩ := len2 hl
  obtain ⟨q0, e0, h0⟩ := h 0 b0 rfl
  obtain ⟨q1, e1, h1⟩ := h 1 b1 rfl
  cases e0
  cases e1
  exact ⟨b0, b1, rfl, h0, h1⟩
theorem pairs_of {H : AHeap} {ys : List AV} : ∀ {qs : List (Int × Two)}, ys.length = qs.length → (∀ (i : Nat) (y : AV), ys[i]? = some y → ∃ q t p2, qs[i]? = some q ∧ y = .ref t ∧ H t = some (.tup [.int q.1, p2]) ∧ TwoAt H p2 q.2) →
    ∃ kvs : List (Int × AV), PairsAt H ys kvs ∧ All2 (fun (p : Int × AV) (q : Int × Two) => p.1 = q.1 ∧ TwoAt H p.2 q.2) kvs qs := by
  induction ys with
  | nil => intro qs hl h; rw [List.length_eq_zero_iff.mp hl.symm]; exact ⟨[], .nil, .nil⟩
  | cons y ys ih =>
    intro qs hl h
    obtain ⟨q, qs, rfl⟩ := List.exists_cons_of_length_eq_add_one hl.symm
    obtain ⟨q', t, p2, e1, e2, e3, e4⟩ := h 0 y rfl
    cases e1
    obtain ⟨kvs, h1, h2⟩ := ih (qs := qs) (Nat.succ.inj hl) fun i y e => h (i + 1) y e
    exact ⟨(q.1, p2) :: kvs, .cons ⟨t, e2, e3⟩ h1, .cons ⟨rfl, e4⟩ h2⟩
set_option maxHeartbeats 4000000 in
theorem segB4 {w A L a ccd h₀ d} {scope : Scope} {body rest : List Stmt} {Q : Fl → Loc → AHeap → Prop} (hb : LawIs w.params scope body) (ok : (lawCx w A scope L a ccd h₀).OK (d + 5)) {H : AHeap} {rw od bd md ml : Addr} {b : Bool} {own qb qm ts} {S : Sc}
    (G : LG L rw od bd md own qb qm ts H) (hq : ∀ q ∈ qb, ∃ x y, q.2 = (some x, some y)) (hqn : (qb.map (·.1)).Nodup) (hql : qb.length ≤ 2)
    (k : ∀ H' bl, Ext H H' → TabOK H' bl (tabOf qb) → WS (lawCx w A scope L a ccd h₀) rest [(Str.ofString "bases", .ref bl), (Str.ofString "marks", .ref ml), (Str.ofString "gdef", .ref S.gd), (Str.ofString "buffer", .ref S.bu), (Str.ofString "row", .ref rw), (Str.ofString "is_backward", .bool b)] H' Q) :
    WS (lawCx w A scope L a ccd h₀) ((body.drop 11).take 1 ++ rest) [(Str.ofString "marks", .ref ml), (Str.ofString "gdef", .ref S.gd), (Str.ofString "buffer", .ref S.bu), (Str.ofString "row", .ref rw), (Str.ofString "is_backward", .bool b)] H Q := by
  ((refine' law_go hb ?ho_312 ?_; (case ho_312 => k_is); intro e1 e2; subst e1; subst e2; simp only [List.take_succ_cons, List.take_zero, List.drop_succ_cons, List.drop_zero, List.cons_append, List.nil_append]))
  have d3 := G.d3
  obtain ⟨kv, ep, h1, hA⟩ := G.B.ex
  have hkeys : kv.map (·.1) = qb.map (·.1) := all2_keys (R := PairAt []) hA
  have hkn : (kv.map (·.1)).Nodup := by rw [hkeys]; exact hqn
  have hlen := all2_length hA
  (wtm_at "mine.wx")
  (((with_reducible refine' E_callT (T := "dict") ?k1_314 ?k2_314 ?k3_314); (case k2_314 => with_unfolding_all rfl); (case k3_314 => with_unfolding_all rfl); (wtm_at "mine.w_name"); refine ⟨rfl, ?_⟩))
  (wtm_at "mine.wx")
  refine comp_all (cl := [(Str.ofString "on_base", L + 1 + 1 + 1)]) (by assumption) (kv.map fun p => .int p.1) (fun i y H' => ∃ q t p2, qb[i]? = some q ∧ y = .ref t ∧ H' t = some (.tup [.int q.1, p2]) ∧ TwoAt H' p2 q.2) (fun i y H H' x ⟨q, t, p2, e1, e2, e3, e4⟩ => ⟨q, t, p2, e1, e2, x _ _ e3 rfl, e4.extS x⟩) rfl (by decide) rfl (by decide) rfl ?_
  (wtm_at "mine.wx")
  refine ⟨by simp; omega, ItG_dict (by assumption) h1, fun i a' C H3 hx x3 hC => ?_, fun D ys H3 x3 hD hys hlen hP => ?_⟩
  · obtain ⟨kp, hkp, rfl⟩ : ∃ kp, kv[i]? = some kp ∧ a' = .int kp.1 := by
      rw [List.getElem?_map, Option.map_eq_some_iff] at hx
      obtain ⟨kp, e1, e2⟩ := hx
      exact ⟨kp, e1, e2.symm⟩
    obtain ⟨q, hqi, hkq, l, b0, b1, hl1, _, hl2, hp0, hp1⟩ := all2_get hA i kp hkp
    obtain ⟨⟨ax, ay⟩, ⟨bx, by'⟩, hq2⟩ := hq q (List.mem_of_getElem? hqi)
    rw [hq2] at hp0 hp1
    obtain ⟨l0, rfl, hl0⟩ := hp0
    obtain ⟨l1, rfl, hl1'⟩ := hp1
    have hlk := lookI_at hkn hkp
    rw [hl1] at hlk
    have d33 := x3 _ _ d3
    have h13 := x3 _ _ h1
    have hl23 := x3 _ _ hl2
    have hl03 := x3 _ _ hl0
    have hl13 := x3 _ _ hl1'
    (wtm_at "mine.wx")
    (((with_reducible refine' E_callT (T := "tuple") ?k1_319 ?k2_319 ?k3_319); (case k2_319 => with_unfolding_all rfl); (case k3_319 => with_unfolding_all rfl); (wtm_at "mine.w_name"); refine ⟨rfl, ?_⟩))
    (wtm_at "mine.wx")
    refine comp_all (cl := []) (by assumption) [.ref l0, .ref l1] (fun j y H' => ∃ o, [q.2.1, q.2.2][j]? = some o ∧ anchAt H' y o) (fun j y H H' x ⟨o, e1, e2⟩ => ⟨o, e1, e2.extS x⟩) rfl (by decide) rfl (by decide) rfl ?_
    (wtm_at "mine.wx")
    refine I_dict h13 hlk ?_
    refine ⟨by simp, ItG_list (by assumption) hl23, fun j a2 C2 H4 hx4 x4 hC4 => ?_, fun D2 ys H4 x4 hD2 hys hlen2 hP => ?_⟩
    · obtain ⟨lj, x, y, rfl, hlj, hoj⟩ : ∃ lj x y, a2 = .ref lj ∧ H4 lj = some (.tup [.int x, .int y]) ∧ [q.2.1, q.2.2][j]? = some (some (x, y)) := by
        rw [hq2]
        rcases j with _ | _ | j
        · exact ⟨l0, ax, ay, by simpa using hx4.symm, x4 _ _ hl03, rfl⟩
        · exact ⟨l1, bx, by', by simpa using hx4.symm, x4 _ _ hl13, rfl⟩
        · simp at hx4
      (wtm_at "mine.wx")
      (((with_reducible refine' E_call (fa := 45) ?k0_324 ?k1_324 ?k2_324 ?k3_324 ?k4_324); (case k0_324 => assumption); (case k2_324 => k_is); (case k3_324 => with_unfolding_all rfl); (case k4_324 => with_unfolding_all rfl); (wtm_at "mine.w_name"); refine ⟨rfl, ?_⟩))
      (wtm_at "mine.wx")
      refine I_tup hlj (by decide) (by decide) rfl ?_
      (wtm_at "mine.wx")
      refine I_tup hlj (by decide) (by decide) rfl ?_
      (wtm_at "mine.wx")
      refine mk_anchor (by assumption) fun l' dl H5 x5 _ hl' hdl => ?_
      (wtm_at "mine.wx")
      exact ⟨x5, some (x, y), hoj, l', dl, rfl, hl', hdl⟩
    · obtain ⟨b0, b1, rfl, hb0, hb1⟩ := two_of (o := q.2) (by simpa using hlen2) hP
      (wtm_at "mine.wx")
      refine F_tuple hys (by simp) fun r hr => ?_
      have y4 : Ext H4 (H4.set r (.tup [b0, b1])) := (Ext.refl _).set hr
      have e4 : (H4.set r (.tup [b0, b1])) r = some (.tup [b0, b1]) := AHeap.set_self _ _ _
      generalize H4.set r (.tup [b0, b1]) = H5 at y4 e4 ⊢
      (wtm_at "mine.wx")
      refine ⟨by simp, fun t ht => ?_⟩
      have y5 : Ext H5 (H5.set t (.tup [.int kp.1, .ref r])) := (Ext.refl _).set ht
      (wtm_at "mine.wx")
      exact ⟨(x4.trans y4).trans y5, q, t, .ref r, hqi, rfl, by rw [AHeap.set_self, hkq], r, b0, b1, rfl, y5 _ _ e4, hb0.extS (y4.trans y5).toS, hb1.extS (y4.trans y5).toS⟩
  · have hl : ys.length = qb.length := by rw [hlen]; simp; omega
    obtain ⟨kvs, p1, p2⟩ : ∃ kvs : List (Int × AV), PairsAt H3 ys kvs ∧ All2 (fun (p : Int × AV) (q : Int × Two) => p.1 = q.1 ∧ TwoAt H3 p.2 q.2) kvs qb := pairs_of hl hP
    have hk2 : kvs.map (·.1) = qb.map (·.1) := all2_keys (R := TwoAt) p2
    have hlk2 := all2_length p2
    (wtm_at "mine.wx")
    refine F_dict (by assumption) hys p1 (by rw [hk2]; exact hqn) (by omega) fun bl H4 ep4 x4 _ hbl => ?_
    (wtm_at "mine.wx")
    exact k _ bl (x3.trans x4) (tabOK_of hbl (all2_mono p2 fun _ _ ⟨e, h⟩ => ⟨e, h.extS x4.toS⟩))

theorem placeAt.extE {H H' a o} (h : placeAt H a o) (x : Ext H H') : placeAt H' a o := h.extI x.toI
set_option maxHeartbeats 4000000 in
theorem segB5 {w A L a ccd h₀ d} {scope : Scope} {body rest : List Stmt} {Q : Fl → Loc → AHeap → Prop} (hb : LawIs w.params scope body) (ok : (lawCx w A scope L a ccd h₀).OK (d + 5)) {H : AHeap} {rw od bd md ml bl : Addr} {b : Bool} {own qb qm ts} {S : Sc}
    (G : LG L rw od bd md own qb qm ts H) (hqn : (qm.map (·.1)).Nodup) (hql : qm.length ≤ 2)
    (k : ∀ H' ol, Ext H H' → TabOK H' ol (tabOf qm) → WS (lawCx w A scope L a ccd h₀) rest [(Str.ofString "others", .ref ol), (Str.ofString "bases", .ref bl), (Str.ofString "marks", .ref ml), (Str.ofString "gdef", .ref S.gd), (Str.ofString "buffer", .ref S.bu), (Str.ofString "row", .ref rw), (Str.ofString "is_backward", .bool b)] H' Q) :
    WS (lawCx w A scope L a ccd h₀) ((body.drop 12).take 1 ++ rest) [(Str.ofString "bases", .ref bl), (Str.ofString "marks", .ref ml), (Str.ofString "gdef", .ref S.gd), (Str.ofString "buffer", .ref S.bu), (Str.ofString "row", .ref rw), (Str.ofString "is_backward", .bool b)] H Q := by
  ((refine' law_go hb ?ho_335 ?_; (case ho_335 => k_is); intro e1 e2; subst e1; subst e2; simp only [List.take_succ_cons, List.take_zero, List.drop_succ_cons, List.drop_zero, List.cons_append, List.nil_append]))
  have d4 := G.d4
  obtain ⟨kv, ep, h1, hA⟩ := G.M.ex
  have hkeys : kv.map (·.1) = qm.map (·.1) := all2_keys (R := PairAt []) hA
  have hkn : (kv.map (·.1)).Nodup := by rw [hkeys]; exact hqn
  have hlen := all2_length hA
  (wtm_at "mine.wx")
  (((with_reducible refine' E_callT (T := "dict") ?k1_337 ?k2_337 ?k3_337); (case k2_337 => with_unfolding_all rfl); (case k3_337 => with_unfolding_all rfl); (wtm_at "mine.w_name"); refine ⟨rfl, ?_⟩))
  (wtm_at "mine.wx")
  refine comp_all (cl := [(Str.ofString "on_mark", L + 1 + 1 + 1 + 1)]) (by assumption) (kv.map fun p => .int p.1) (fun i y H' => ∃ q t p2, qm[i]? = some q ∧ y = .ref t ∧ H' t = some (.tup [.int q.1, p2]) ∧ TwoAt H' p2 q.2) (fun i y H H' x ⟨q, t, p2, e1, e2, e3, e4⟩ => ⟨q, t, p2, e1, e2, x _ _ e3 rfl, e4.extS x⟩) rfl (by decide) rfl (by decide) rfl ?_
  (wtm_at "mine.wx")
  refine ⟨by simp; omega, ItG_dict (by assumption) h1, fun i a' C H3 hx x3 hC => ?_, fun D ys H3 x3 hD hys hlen hP => ?_⟩
  · obtain ⟨kp, hkp, rfl⟩ : ∃ kp, kv[i]? = some kp ∧ a' = .int kp.1 := by
      rw [List.getElem?_map, Option.map_eq_some_iff] at hx
      obtain ⟨kp, e1, e2⟩ := hx
      exact ⟨kp, e1, e2.symm⟩
    obtain ⟨q, hqi, hkq, l, b0, b1, hl1, _, hl2, hp0, hp1⟩ := all2_get hA i kp hkp
    have hlk := lookI_at hkn hkp
    rw [hl1] at hlk
    have d43 := x3 _ _ d4
    have h13 := x3 _ _ h1
    have hl23 := x3 _ _ hl2
    have hp03 := hp0.extE x3
    have hp13 := hp1.extE x3
    (wtm_at "mine.wx")
    (((with_reducible refine' E_callT (T := "tuple") ?k1_342 ?k2_342 ?k3_342); (case k2_342 => with_unfolding_all rfl); (case k3_342 => with_unfolding_all rfl); (wtm_at "mine.w_name"); refine ⟨rfl, ?_⟩))
    (wtm_at "mine.wx")
    refine comp_all (cl := []) (by assumption) [b0, b1] (fun j y H' => ∃ o, [q.2.1, q.2.2][j]? = some o ∧ anchAt H' y o) (fun j y H H' x ⟨o, e1, e2⟩ => ⟨o, e1, e2.extS x⟩) rfl (by decide) rfl (by decide) rfl ?_
    (wtm_at "mine.wx")
    refine I_dict h13 hlk ?_
    refine ⟨by simp, ItG_list (by assumption) hl23, fun j a2 C2 H4 hx4 x4 hC4 => ?_, fun D2 ys H4 x4 hD2 hys hlen2 hP => ?_⟩
    · obtain ⟨o, hoj, hpl⟩ : ∃ o, [q.2.1, q.2.2][j]? = some o ∧ placeAt H4 a2 o := by
        rcases j with _ | _ | j
        · exact ⟨q.2.1, rfl, by simp at hx4; rw [← hx4]; exact hp03.extE x4⟩
        · exact ⟨q.2.2, rfl, by simp at hx4; rw [← hx4]; exact hp13.extE x4⟩
        · simp at hx4
      (wtm_at "mine.wx")
      refine ⟨fun hn => ?_, fun hn => ?_⟩
      · (wtm_at "mine.wx")
        refine ⟨Ext.refl _, none, ?_, rfl⟩
        cases o with
        | none => exact hoj
        | some o =>
          obtain ⟨l', rfl, _⟩ := hpl
          cases hn
      · cases o with
        | none =>
          have e : a2 = .none := hpl
          rw [e] at hn; cases hn
        | some o =>
          obtain ⟨lj, rfl, hlj⟩ := hpl
          (wtm_at "mine.wx")
          (((with_reducible refine' E_call (fa := 45) ?k0_349 ?k1_349 ?k2_349 ?k3_349 ?k4_349); (case k0_349 => assumption); (case k2_349 => k_is); (case k3_349 => with_unfolding_all rfl); (case k4_349 => with_unfolding_all rfl); (wtm_at "mine.w_name"); refine ⟨rfl, ?_⟩))
          (wtm_at "mine.wx")
          refine I_tup hlj (by decide) (by decide) rfl ?_
          (wtm_at "mine.wx")
          refine I_tup hlj (by decide) (by decide) rfl ?_
          (wtm_at "mine.wx")
          refine mk_anchor (by assumption) fun l' dl H5 x5 _ hl' hdl => ?_
          (wtm_at "mine.wx")
          exact ⟨x5, _, hoj, l', dl, rfl, hl', hdl⟩
    · obtain ⟨b0', b1', rfl, hb0, hb1⟩ := two_of (o := q.2) (by simpa using hlen2) hP
      (wtm_at "mine.wx")
      refine F_tuple hys (by simp) fun r hr => ?_
      have y4 : Ext H4 (H4.set r (.tup [b0', b1'])) := (Ext.refl _).set hr
      have e4 : (H4.set r (.tup [b0', b1'])) r = some (.tup [b0', b1']) := AHeap.set_self _ _ _
      generalize H4.set r (.tup [b0', b1']) = H5 at y4 e4 ⊢
      (wtm_at "mine.wx")
      refine ⟨by simp, fun t ht => ?_⟩
      have y5 : Ext H5 (H5.set t (.tup [.int kp.1, .ref r])) := (Ext.refl _).set ht
      (wtm_at "mine.wx")
      exact ⟨(x4.trans y4).trans y5, q, t, .ref r, hqi, rfl, by rw [AHeap.set_self, hkq], r, b0', b1', rfl, y5 _ _ e4, hb0.extS (y4.trans y5).toS, hb1.extS (y4.trans y5).toS⟩
  · have hl : ys.length = qm.length := by rw [hlen]; simp; omega
    obtain ⟨kvs, p1, p2⟩ : ∃ kvs : List (Int × AV), PairsAt H3 ys kvs ∧ All2 (fun (p : Int × AV) (q : Int × Two) => p.1 = q.1 ∧ TwoAt H3 p.2 q.2) kvs qm := pairs_of hl hP
    have hk2 : kvs.map (·.1) = qm.map (·.1) := all2_keys (R := TwoAt) p2
    have hlk2 := all2_length p2
    (wtm_at "mine.wx")
    refine F_dict (by assumption) hys p1 (by rw [hk2]; exact hqn) (by omega) fun ol H4 ep4 x4 _ hol => ?_
    (wtm_at "mine.wx")
    exact k _ ol (x3.trans x4) (tabOK_of hol (all2_mono p2 fun _ _ ⟨e, h⟩ => ⟨e, h.extS x4.toS⟩))

def AO.noPred : AO → Bool
  | .pred _ => false
  | _ => true
def ExtJ (H H' : AHeap) : Prop := ∀ a o, H a = some o → o.notInfo = true → o.noPred = true → H' a = some o
theorem ExtI.toJ {H H' : AHeap} (x : ExtI H H') : ExtJ H H' := fun a o e n _ => x a o e n
theorem Ext.toJ {H H' : AHeap} (x : Ext H H') : ExtJ H H' := fun a o e _ _ => x a o e
theorem ExtJ.trans {H H' H'' : AHeap} (x : ExtJ H H') (y : ExtJ H' H'') : ExtJ H H'' := fun a o e n p => y a o (x a o e n p) n p
theorem ExtJ.setP {H : AHeap} {I P o} (hI : H I = some (.pred P)) : ExtJ H (H.set I o) := fun a o' e _ p => by
  rw [AHeap.set_ne _ _ (fun q => by rw [q, hI] at e; cases e; cases p)]; exact e
theorem ExtJ.delP {H : AHeap} {I P} (hI : H I = some (.pred P)) : ExtJ H (H.del I) := fun a o' e _ p => by
  rw [AHeap.del_ne _ (fun q => by rw [q, hI] at e; cases e; cases p)]; exact e
theorem placeAt.extJ {H H' a o} (h : placeAt H a o) (x : ExtJ H H') : placeAt H' a o := by
  unfold placeAt at *
  split at h
  · exact h
  · obtain ⟨l, h1, h2⟩ := h
    exact ⟨l, h1, x _ _ h2 rfl rfl⟩
theorem OnTab.extJ {S H H' d qs} (h : OnTab S H d qs) (x : ExtJ H H') : OnTab S H' d qs := by
  obtain ⟨kv, ep, h1, h2⟩ := h.ex
  exact ⟨⟨kv, ep, x _ _ h1 rfl rfl, all2_mono h2 fun _ _ ⟨e, l, b0, b1, k1, k2, k3, k4, k5⟩ => ⟨e, l, b0, b1, k1, k2, x _ _ k3 rfl rfl, k4.extJ x, k5.extJ x⟩⟩⟩
theorem LG.extJ {L rw od bd md own qb qm ts H H'} (G : LG L rw od bd md own qb qm ts H) (x : ExtJ H H') : LG L rw od bd md own qb qm ts H' := by
  obtain ⟨ep, t6, t7, u6, u7, h1, h2, h3, h4, h5⟩ := G.O.ex
  exact ⟨x _ _ G.d2 rfl rfl, x _ _ G.d3 rfl rfl, x _ _ G.d4 rfl rfl, G.R.ext (fun a xs e => x _ _ e rfl rfl) fun as e => x _ _ e rfl rfl, ⟨⟨ep, t6, t7, u6, u7, x _ _ h1 rfl rfl, x _ _ h2 rfl rfl, x _ _ h3 rfl rfl, x _ _ h4 rfl rfl, x _ _ h5 rfl rfl⟩⟩, G.B.extJ x, G.M.extJ x⟩
theorem anchAt.extJ {H H' a o} (h : anchAt H a o) (x : ExtJ H H') : anchAt H' a o := by
  unfold anchAt at *
  split at h
  · exact h
  · obtain ⟨l, dl, h1, h2, h3⟩ := h
    exact ⟨l, dl, h1, x _ _ h2 rfl rfl, x _ _ h3 rfl rfl⟩
theorem MarksOK.extJ {H H' ml own} (h : MarksOK H ml own) (x : ExtJ H H') : MarksOK H' ml own := by
  obtain ⟨ep, t6, t7, a6, a7, h1, h2, h3, h4, h5⟩ := h.ex
  exact ⟨⟨ep, t6, t7, a6, a7, x _ _ h1 rfl rfl, x _ _ h2 rfl rfl, x _ _ h3 rfl rfl, h4.extJ x, h5.extJ x⟩⟩
theorem TabOK.extJ {H H' dl f} (h : TabOK H dl f) (x : ExtJ H H') : TabOK H' dl f := by
  obtain ⟨kv, ep, h1, h2⟩ := h.ex
  refine ⟨⟨kv, ep, x _ _ h1 rfl rfl, fun gl => ?_⟩⟩
  have := h2 gl
  split at this
  · exact this
  · obtain ⟨t, b0, b1, k1, k2, k3, k4⟩ := this
    exact ⟨t, b0, b1, k1, x _ _ k2 rfl rfl, k3.extJ x, k4.extJ x⟩
theorem StaticOK.extJ {H H' A b} (S : StaticOK H A b) (h : ExtJ H H') : StaticOK H' A b := ⟨h _ _ S.bu rfl rfl, h _ _ S.bud rfl rfl, h _ _ S.gd rfl rfl, h _ _ S.gdd rfl rfl, h _ _ S.cd rfl rfl, h _ _ S.cdd rfl rfl, let ⟨ep, e⟩ := S.cdl; ⟨ep, h _ _ e rfl rfl⟩⟩
theorem SceneOK.extJ {H H' A sc fl} (S : SceneOK H A sc fl) (h : ExtJ H H') : SceneOK H' A sc fl := by
  obtain ⟨scd, a, b, lk, dp, st, lkd, kind, tb, h1, h2, h3, h4, h5⟩ := S.ex
  exact ⟨⟨scd, a, b, lk, dp, st, lkd, kind, tb, h _ _ h1 rfl rfl, h _ _ h2 rfl rfl, h _ _ h3 rfl rfl, h _ _ h4 rfl rfl, h5⟩⟩
structure LW (L rw od bd md : Addr) (own : Int → Int × Int) (qb qm : List (Int × Two)) (ts : List Trip) (b : Bool) (S : Sc) (ml bl ol tb0 td0 tb1 td1 : Addr) (H : AHeap) : Prop where
  G : LG L rw od bd md own qb qm ts H
  S : StaticOK H S b
  M : MarksOK H ml own
  B : TabOK H bl (tabOf qb)
  O : TabOK H ol (tabOf qm)
  t0 : H tb0 = some (.inst 312 td0)
  f0 : H td0 = some (.ns (tabF "bases" ml bl))
  t1 : H tb1 = some (.inst 340 td1)
  f1 : H td1 = some (.ns (tabF "others" ml ol))
theorem LW.extJ {L rw od bd md own qb qm ts b S ml bl ol tb0 td0 tb1 td1 H H'} (W : LW L rw od bd md own qb qm ts b S ml bl ol tb0 td0 tb1 td1 H) (x : ExtJ H H') : LW L rw od bd md own qb qm ts b S ml bl ol tb0 td0 tb1 td1 H' :=
  ⟨W.G.extJ x, W.S.extJ x, W.M.extJ x, W.B.extJ x, W.O.extJ x, x _ _ W.t0 rfl rfl, x _ _ W.f0 rfl rfl, x _ _ W.t1 rfl rfl, x _ _ W.f1 rfl rfl⟩
def TlAt (H : AHeap) (tl tb0 tb1 : Addr) : Prop := ∃ p0 p1, H tl = some (.list [.ref p0, .ref p1]) ∧ H p0 = some (.tup [.str (Str.ofString "base"), .ref tb0]) ∧ H p1 = some (.tup [.str (Str.ofString "mark"), .ref tb1])
theorem TlAt.extJ {H H' tl tb0 tb1} (h : TlAt H tl tb0 tb1) (x : ExtJ H H') : TlAt H' tl tb0 tb1 :=
  let ⟨p0, p1, h1, h2, h3⟩ := h; ⟨p0, p1, x _ _ h1 rfl rfl, x _ _ h2 rfl rfl, x _ _ h3 rfl rfl⟩

set_option maxHeartbeats 4000000 in
theorem segB6 {w A L a ccd h₀ d} {scope : Scope} {body rest : List Stmt} {Q : Fl → Loc → AHeap → Prop} (hb : LawIs w.params scope body) (ok : (lawCx w A scope L a ccd h₀).OK (d + 5)) {H : AHeap} {rw od bd md ml bl ol : Addr} {b : Bool} {own qb qm ts xs} {S : Sc}
    (G : LG L rw od bd md own qb qm ts H) (hS : StaticOK H S b) (M : MarksOK H ml own) (B : TabOK H bl (tabOf qb)) (O : TabOK H ol (tabOf qm)) (R : RowOK H S.rl xs)
    (k : ∀ H' tb0 td0 tb1 td1 tl, LW L rw od bd md own qb qm ts b S ml bl ol tb0 td0 tb1 td1 H' → TlAt H' tl tb0 tb1 → RowOK H' S.rl xs → WS (lawCx w A scope L a ccd h₀) rest [(Str.ofString "tables", .ref tl), (Str.ofString "gdef", .ref S.gd), (Str.ofString "buffer", .ref S.bu), (Str.ofString "row", .ref rw), (Str.ofString "is_backward", .bool b)] H' Q) :
    WS (lawCx w A scope L a ccd h₀) ((body.drop 13).take 1 ++ rest) [(Str.ofString "others", .ref ol), (Str.ofString "bases", .ref bl), (Str.ofString "marks", .ref ml), (Str.ofString "gdef", .ref S.gd), (Str.ofString "buffer", .ref S.bu), (Str.ofString "row", .ref rw), (Str.ofString "is_backward", .bool b)] H Q := by
  ((refine' law_go hb ?ho_360 ?_; (case ho_360 => k_is); intro e1 e2; subst e1; subst e2; simp only [List.take_succ_cons, List.take_zero, List.drop_succ_cons, List.drop_zero, List.cons_append, List.nil_append]))
  (wtm_at "mine.wx")
  (((with_reducible refine' E_call (fa := 312) ?k0_362 ?k1_362 ?k2_362 ?k3_362 ?k4_362); (case k0_362 => assumption); (case k2_362 => k_is); (case k3_362 => with_unfolding_all rfl); (case k4_362 => with_unfolding_all rfl); (wtm_at "mine.w_name"); refine ⟨rfl, ?_⟩))
  (wtm_at "mine.wx")
  refine mk_mb (by assumption) fun tb0 td0 H1 x1 _ h0 hd0 => ?_
  (wtm_at "mine.wx")
  refine ⟨by simp, fun p0 hp0 => ?_⟩
  have y1 : Ext H1 (H1.set p0 (.tup [.str (Str.ofString "base"), .ref tb0])) := (Ext.refl _).set hp0
  have e1 : (H1.set p0 (.tup [.str (Str.ofString "base"), .ref tb0])) p0 = some (.tup [.str (Str.ofString "base"), .ref tb0]) := AHeap.set_self _ _ _
  generalize H1.set p0 (.tup [.str (Str.ofString "base"), .ref tb0]) = H2 at y1 e1 ⊢
  (wtm_at "mine.wx")
  (((with_reducible refine' E_call (fa := 340) ?k0_367 ?k1_367 ?k2_367 ?k3_367 ?k4_367); (case k0_367 => assumption); (case k2_367 => k_is); (case k3_367 => with_unfolding_all rfl); (case k4_367 => with_unfolding_all rfl); (wtm_at "mine.w_name"); refine ⟨rfl, ?_⟩))
  (wtm_at "mine.wx")
  refine mk_mm (by assumption) fun tb1 td1 H3 x3 _ h1 hd1 => ?_
  (wtm_at "mine.wx")
  refine ⟨by simp, fun p1 hp1 => ?_⟩
  have y3 : Ext H3 (H3.set p1 (.tup [.str (Str.ofString "mark"), .ref tb1])) := (Ext.refl _).set hp1
  have e3 : (H3.set p1 (.tup [.str (Str.ofString "mark"), .ref tb1])) p1 = some (.tup [.str (Str.ofString "mark"), .ref tb1]) := AHeap.set_self _ _ _
  generalize H3.set p1 (.tup [.str (Str.ofString "mark"), .ref tb1]) = H4 at y3 e3 ⊢
  (wtm_at "mine.wx")
  refine ⟨by simp, fun tl htl => ?_⟩
  have y4 : Ext H4 (H4.set tl (.list [.ref p0, .ref p1])) := (Ext.refl _).set htl
  have e4 : (H4.set tl (.list [.ref p0, .ref p1])) tl = some (.list [.ref p0, .ref p1]) := AHeap.set_self _ _ _
  generalize H4.set tl (.list [.ref p0, .ref p1]) = H5 at y4 e4 ⊢
  (wtm_at "mine.wx")
  have z := (((x1.trans y1).trans x3).trans y3).trans y4
  have z1 := ((y1.trans x3).trans y3).trans y4
  have z2 := (x3.trans y3).trans y4
  have z3 := y3.trans y4
  exact WS.sub (k _ tb0 td0 tb1 td1 tl ⟨G.extI z.toI, hS.ext z, M.extI z.toI, B.extI z.toI, O.extI z.toI, z1 _ _ h0, z1 _ _ hd0, z3 _ _ h1, z3 _ _ hd1⟩ ⟨p0, p1, e4, z2 _ _ e1, y4 _ _ e3⟩ (R.ext z)) (Sub.cons rfl (Sub.cons rfl (Sub.cons rfl (Sub.cons rfl (Sub.cons rfl Sub.nil)))))

inductive LstOKT (c : Cx) (σ : Loc) (target : Expr) (body rest : List Stmt) (Q : Fl → Loc → AHeap → Prop) (a : AV) (H1 : AHeap) : Prop
  | mk (l : Addr) (xs : List AV) (ha : a = .ref l) (hl : H1 l = some (.list xs)) (hr : ∀ x ∈ xs, ∃ t, x = .ref t) (k : ∀ I, H1 I = none → l ≠ I → LstIn c σ target body rest Q l xs H1 I)
theorem loop_listT {c : Cx} {σ H d} {Q : Fl → Loc → AHeap → Prop} {rest : List Stmt} {elts : List Expr} {x1 : Nat} {tp : Pos} {iter body pos} (ok : c.OK d)
    (h : WE c c.env iter σ H (LstOKT c σ (.Tuple elts x1 tp) body rest Q))
    (hs : ∀ x, foldedSetIterable iter c.env x = pure x := by intro _; with_unfolding_all rfl) : WS c (.For (.Tuple elts x1 tp) iter body [] pos :: rest) σ H Q := WS_cons fun s S =>
  wpAny_For (seq2 S h fun va s1 a H1 ia S1 r1 h1 => by
    obtain ⟨l, ys, rfl, hl, hrefs, hk⟩ := h1
    have hIt : WIt c (.ref l) σ H1 fun I xs src it H2 => xs = ys ∧ src = (fun H => H l = some (.list ys)) ∧ it = listIt l ∧ H1 I = none ∧ H2 = H1.set I (.pred (listIt l 0)) := It_list ok hl fun I hI => ⟨rfl, rfl, rfl, hI, rfl⟩
    refine wpAny_mono (hIt va ia s1 S1) (fun v s2 ⟨I, ys', src, it, H2, hv, X, S2, r2, hI, hsrc, e1, e2, e3, hI1, e4⟩ => ?_) fun _ _ e => e
    subst e1 e2 e3 e4 hv
    have hlI : l ≠ I := ne_of hl hI1
    obtain ⟨Inv, ⟨ρ0, hsub0, hInv⟩, turn, fin⟩ := hk I hI1 hlI
    refine codeAny_forLoop_any (fun n s' => ∃ i σ H, n = ys'.length - i ∧ i ≤ ys'.length ∧ Inv i σ H ∧ H I = some (.pred (listIt l i)) ∧ H l = some (.list ys') ∧ St c σ H s' ∧ Rest s s') (fun n s3 ⟨i, σ3, H3, hn, hi, hInv, hI, hsrc, S3, r3⟩ => ?_) (ys'.length - 0) ⟨0, ρ0, _, rfl, Nat.zero_le _, hInv, hI, hsrc, S2.sub hsub0, r1.trans r2⟩
    by_cases hlt : i < ys'.length
    · have hx : ys'[i]? = some ys'[i] := List.getElem?_eq_getElem hlt
      refine wpAny_mono (X.next i _ σ3 H3 s3 hx S3 hI hsrc) (fun r s4 ⟨v, hr, iv, S4, r4⟩ => ?_) fun _ _ e => e.elim
      subst hr
      obtain ⟨T, hT⟩ := hrefs _ (List.getElem_mem hlt)
      have hvT : v = .ref T := by rw [hT] at iv; cases iv; rfl
      subst hvT
      obtain ⟨m4, news4, S4'⟩ := id S4
      obtain ⟨oi, hmi, hc, hd⟩ := S4'.obj _ _ (AHeap.set_self _ _ _)
      refine wpAny_letOwnedTupleGo_listiter ⟨_, S4'.N.get hmi, hc, hd⟩ ?_
      refine wpAny_mono (turn i _ σ3 H3 hx hInv hI hsrc _ iv s4 S4) (fun _ s5 ⟨σ5, H5, S5, r5, h5⟩ => ?_) fun _ _ e => e.elim
      refine wpAny_mono (h5.out s5 S5) (fun f s6 ⟨fl, σ6, H6, iF, S6, r6, q⟩ => ?_) fun _ _ e => e.elim
      have r16 := r3.trans (r4.trans (r5.trans r6))
      cases iF with
      | next => obtain ⟨⟨ρ, hs, hi⟩, q2, q3⟩ := q; exact ⟨ys'.length - (i + 1), by omega, i + 1, ρ, H6, rfl, hlt, hi, q2, q3, S6.sub hs, r16⟩
      | cont => obtain ⟨⟨ρ, hs, hi⟩, q2, q3⟩ := q; exact ⟨ys'.length - (i + 1), by omega, i + 1, ρ, H6, rfl, hlt, hi, q2, q3, S6.sub hs, r16⟩
      | brk => exact ⟨_, σ6, H6, .next, S6, r16, q⟩
      | ret i => exact ⟨_, σ6, H6, .ret i, S6, r16, q⟩
    · have hi' : i = ys'.length := by omega
      subst hi'
      refine wpAny_mono (X.done σ3 H3 s3 S3 hI hsrc) (fun r s4 ⟨hr, S4, r4⟩ => ?_) fun _ _ e => e.elim
      subst hr
      exact wpAny_execs_nil ⟨_, σ3, _, .next, S4, r3.trans r4, fin σ3 H3 hInv hsrc⟩) hs

section
variable {L rw od bd md : Addr} {own : Int → Int × Int} {qb qm : List (Int × Two)} {ts : List Trip} {b : Bool} {S : Sc} {ml bl ol tb0 td0 tb1 td1 : Addr} {fb : Int → (Int × Int) × (Int × Int)}
theorem base_turn {c : Cx} {σ H d} {Q : AV → AHeap → Prop} (ok : c.OK (d + 9)) (hqb : tabOf qb = baseTab fb) (W : LW L rw od bd md own qb qm ts b S ml bl ol tb0 td0 tb1 td1 H) (hs : RowSh ts) {xs : IRow} (R : RowOK H S.rl xs) {i : Nat} (hi : i < ts.length) (X : RowIs (mix (ir1 own fb ts) ir0 i) ts xs) {sc} (hS : SceneOK H S sc 0)
    (q : ∀ v H' xs', ExtI H H' → RowOK H' S.rl xs' → RowIs (mix (ir1 own fb ts) ir0 (i + 1)) ts xs' → Q (.int v) H') : WCode c (.ref 386) [.ref sc, .ref tb0, .int (i : Int)] σ H Q := by
  obtain ⟨t, ht⟩ : ∃ t, ts[i]? = some t := ⟨ts[i], List.getElem?_eq_getElem hi⟩
  obtain ⟨p, hp, hpr⟩ := mix_at X ht
  have hg : p.2.2.glyph = t.1 := by rw [hpr]; rfl
  have hgl : ∀ k t, (mix (ir1 own fb ts) ir0 i k t).glyph = t.1 := mix_glyph ir1_glyph (fun _ _ => rfl) i
  rcases sh_mark hs ht with ⟨h1, h2⟩ | ⟨h1, h2⟩
  · obtain ⟨hle, tb, hb1, hb2, hb3⟩ := sh_base hs i t ht
    obtain ⟨pk, hpk, hpkr⟩ := X.get hb1
    have hpg : pk.2.2.glyph = tb.1 := by rw [hpkr]; exact hgl _ _
    have hk := seek_base hs (g := rglyph xs) (fun k t e => rg_of X hgl e) i t ht h1
    have ho : baseTab fb tb.1 = some (some (fb tb.1).1, some (fb tb.1).2) := by unfold baseTab; rw [if_pos hb3]
    have hD : DownM xs := down_of X fun k t e => mix_par (P := fun r => r.par = 0 ∨ (r.par < 0 ∧ 0 ≤ (k : Int) + r.par ∧ r.bond = Str.ofString "mark")) i (ir1_par hs e) (.inl rfl)
    refine apply_base1 ok W.S hS R hp (hD.down i) (by rw [hg]; exact h2) hk (by omega) hpk W.M W.t0 W.f0 W.B (by rw [hpg, hqb]; exact ho) fun v H' x' R' => q v H' _ x' R' ?_
    rw [hg]
    exact base_step hs X ht h1 (by rw [trg_of hb1]; exact ho)
  · refine apply_base0 ok W.S hS R hp (by rw [hg]; exact h2) W.M W.t0 W.f0 (q (-1) H xs (ExtI.refl H) R (mix_step X fun t' e => ?_))
    rw [ht] at e; cases e
    unfold ir1; rw [if_pos h1]
theorem mark_turn {c : Cx} {σ H d} {Q : AV → AHeap → Prop} (ok : c.OK (d + 9)) (W : LW L rw od bd md own qb qm ts b S ml bl ol tb0 td0 tb1 td1 H) (hs : RowSh ts) {xs : IRow} (R : RowOK H S.rl xs) {i : Nat} (hi : i < ts.length) (X : RowIs (mix (ir2 own fb (tabOf qm) ts) (ir1 own fb ts) i) ts xs) {sc} (hS : SceneOK H S sc 0)
    (q : ∀ v H' xs', ExtI H H' → RowOK H' S.rl xs' → RowIs (mix (ir2 own fb (tabOf qm) ts) (ir1 own fb ts) (i + 1)) ts xs' → Q (.int v) H') : WCode c (.ref 400) [.ref sc, .ref tb1, .int (i : Int)] σ H Q := by
  obtain ⟨t, ht⟩ : ∃ t, ts[i]? = some t := ⟨ts[i], List.getElem?_eq_getElem hi⟩
  have hgl : ∀ k t, (mix (ir2 own fb (tabOf qm) ts) (ir1 own fb ts) i k t).glyph = t.1 := mix_glyph ir2_glyph ir1_glyph i
  have hrg := rg_of X hgl ht
  have hD : DownM xs := down_of X fun k t e => mix_par (P := fun r => r.par = 0 ∨ (r.par < 0 ∧ 0 ≤ (k : Int) + r.par ∧ r.bond = Str.ofString "mark")) i (ir2_par hs e) (ir1_par hs e)
  refine apply_mark_spec ok W.S hS R (by rw [X.len]; exact hi) (hD.down i) ?_ W.M W.t1 W.f1 W.O fun v H' x' R' => q v H' _ x' R' (mark_step hs X ht)
  rcases Nat.eq_zero_or_pos i with h0 | h0
  · subst h0
    obtain ⟨hle, _⟩ := sh_base hs 0 t ht
    rcases sh_mark hs ht with ⟨h1, h2⟩ | ⟨h1, h2⟩
    · omega
    · rw [hrg]
      exact .inr (by rcases h2 with e | e <;> rw [e] <;> decide)
  · exact .inl h0
end

def stage (own : Int → Int × Int) (fb : Int → (Int × Int) × (Int × Int)) (fm : Tab) (ts : List Trip) : Nat → Nat → Trip → IR
  | 0 => ir0
  | 1 => ir1 own fb ts
  | _ => ir2 own fb fm ts
set_option maxHeartbeats 8000000 in
theorem segC {w A L a ccd h₀ d} {scope : Scope} {body rest : List Stmt} {Q : Fl → Loc → AHeap → Prop} (hb : LawIs w.params scope body) (ok : (lawCx w A scope L a ccd h₀).OK (d + 9)) {H : AHeap} {rw od bd md : Addr} {own : Int → Int × Int} {qb qm : List (Int × Two)} {ts : List Trip} {b : Bool} {S : Sc} {ml bl ol tb0 td0 tb1 td1 tl : Addr} {fb : Int → (Int × Int) × (Int × Int)} {xs : IRow}
    (hqb : tabOf qb = baseTab fb) (W : LW L rw od bd md own qb qm ts b S ml bl ol tb0 td0 tb1 td1 H) (hT : TlAt H tl tb0 tb1) (R : RowOK H S.rl xs) (hs : RowSh ts) (hn : ts.length ≤ 15) (X : RowIs ir0 ts xs)
    (k : ∀ H' xs', LG L rw od bd md own qb qm ts H' → StaticOK H' S b → RowOK H' S.rl xs' → RowIs (ir2 own fb (tabOf qm) ts) ts xs' → WS (lawCx w A scope L a ccd h₀) rest [(Str.ofString "buffer", .ref S.bu), (Str.ofString "row", .ref rw), (Str.ofString "is_backward", .bool b)] H' Q) :
    WS (lawCx w A scope L a ccd h₀) ((body.drop 14).take 1 ++ rest) [(Str.ofString "tables", .ref tl), (Str.ofString "gdef", .ref S.gd), (Str.ofString "buffer", .ref S.bu), (Str.ofString "row", .ref rw), (Str.ofString "is_backward", .bool b)] H Q := by
  ((refine' law_go hb ?ho_373 ?_; (case ho_373 => k_is); intro e1 e2; subst e1; subst e2; simp only [List.take_succ_cons, List.take_zero, List.drop_succ_cons, List.drop_zero, List.cons_append, List.nil_append]))
  obtain ⟨p0, p1, hT, hp0, hp1⟩ := hT
  refine loop_listT (by assumption) ?_
  (wtm_at "mine.wx")
  refine ⟨tl, [.ref p0, .ref p1], rfl, hT, by simp, fun J hJ hlJ => ?_⟩
  refine ⟨fun i ρ H' => ∃ xs', LW L rw od bd md own qb qm ts b S ml bl ol tb0 td0 tb1 td1 H' ∧ H' p0 = some (.tup [.str (Str.ofString "base"), .ref tb0]) ∧ H' p1 = some (.tup [.str (Str.ofString "mark"), .ref tb1]) ∧ RowOK H' S.rl xs' ∧ RowIs (stage own fb (tabOf qm) ts i) ts xs' ∧ (∃ P, H' J = some (.pred P)) ∧ ρ = [(Str.ofString "gdef", .ref S.gd), (Str.ofString "buffer", .ref S.bu), (Str.ofString "row", .ref rw), (Str.ofString "is_backward", .bool b)], ?_, ?_, ?_⟩
  · have x : Ext H (H.set J (.pred (listIt tl 0))) := (Ext.refl _).set hJ
    exact ⟨_, Sub.cons rfl (Sub.cons rfl (Sub.cons rfl (Sub.cons rfl Sub.nil))), xs, W.extJ x.toJ, x _ _ hp0, x _ _ hp1, R.ext x, X, ⟨_, AHeap.set_self _ _ _⟩, rfl⟩
  · rintro i a' σ1 H4 hx ⟨xs4, W4, hp04, hp14, R4, X4, _, rfl⟩ hJ4 hT4
    have xJ : ExtJ H4 (H4.set J (.pred (listIt tl (i + 1)))) := ExtJ.setP hJ4
    have W5 := W4.extJ xJ
    have R5 := R4.predSet hJ4 (o := .pred (listIt tl (i + 1)))
    have hp05 := xJ _ _ hp04 rfl rfl
    have hp15 := xJ _ _ hp14 rfl rfl
    have hT5 := xJ _ _ hT4 rfl rfl
    have hJ5 : (H4.set J (.pred (listIt tl (i + 1)))) J = some (.pred (listIt tl (i + 1))) := AHeap.set_self _ _ _
    generalize H4.set J (.pred (listIt tl (i + 1))) = H5 at W5 R5 hp05 hp15 hT5 hJ5 ⊢
    clear xJ W4 R4 hp04 hp14 hT4 hJ4
    obtain ⟨nm, tb, pp, rfl, hpp, hnm⟩ : ∃ nm tb pp, a' = .ref pp ∧ H5 pp = some (.tup [.str nm, .ref tb]) ∧ ((i = 0 ∧ nm = Str.ofString "base" ∧ tb = tb0) ∨ (i = 1 ∧ nm = Str.ofString "mark" ∧ tb = tb1)) := by
      rcases i with _ | _ | i
      · exact ⟨_, tb0, p0, by simpa using hx.symm, hp05, .inl ⟨rfl, rfl, rfl⟩⟩
      · exact ⟨_, tb1, p1, by simpa using hx.symm, hp15, .inr ⟨rfl, rfl, rfl⟩⟩
      · simp at hx
    (wtm_at "mine.wx")
    refine A_tup (by assumption) hpp ?_ rfl rfl
    (wtm_at "mine.wx")
    (((with_reducible refine' E_call (fa := 112) ?k0_377 ?k1_377 ?k2_377 ?k3_377 ?k4_377); (case k0_377 => assumption); (case k2_377 => k_is); (case k3_377 => with_unfolding_all rfl); (case k4_377 => with_unfolding_all rfl); (wtm_at "mine.w_name"); refine ⟨rfl, ?_⟩))
    (wtm_at "mine.wx")
    refine ⟨by simp, fun e0 he0 => ?_⟩
    have y5 : Ext H5 (H5.set e0 (.list [])) := (Ext.refl _).set he0
    generalize H5.set e0 (.list []) = H6 at y5 ⊢
    (wtm_at "mine.wx")
    (((with_reducible refine' E_call (fa := 90) ?k0_381 ?k1_381 ?k2_381 ?k3_381 ?k4_381); (case k0_381 => assumption); (case k2_381 => k_is); (case k3_381 => with_unfolding_all rfl); (case k4_381 => with_unfolding_all rfl); (wtm_at "mine.w_name"); refine ⟨rfl, ?_⟩))
    (wtm_at "mine.wx")
    refine ⟨by simp, fun e1 he1 => ?_⟩
    have y6 : Ext H6 (H6.set e1 (.list [.ref tb])) := (Ext.refl _).set he1
    generalize H6.set e1 (.list [.ref tb]) = H7 at y6 ⊢
    (wtm_at "mine.wx")
    refine mk_lookup (by assumption) fun lk lkd H8 x8 _ hlk hlkd => ?_
    (wtm_at "mine.wx")
    refine mk_scene5 (A := S) (by assumption) fun sc scd st H9 x9 hsc hscd => ?_
    (wtm_at "mine.wx")
    have z := ((y5.trans y6).trans x8).trans x9
    have hS9 : SceneOK H9 S sc 0 := ⟨⟨scd, e0, e0, lk, 0, st, lkd, .str nm, e1, hsc, hscd, x9 _ _ hlk, x9 _ _ hlkd, rfl⟩⟩
    have W9 := W5.extJ z.toJ
    have R9 := R5.ext z
    have hp09 := z _ _ hp05
    have hp19 := z _ _ hp15
    have hT9 := z _ _ hT5
    have hJ9 := z _ _ hJ5
    clear z y5 y6 x8 x9 W5 R5 hp05 hp15 hT5 hJ5 hlk hlkd hsc hscd hpp he0 he1
    obtain ⟨as, hr, hA⟩ := W9.G.R.ex
    have hal := all2_length hA
    refine loop_rng (by assumption) (ts.length : Int) (by omega) (by omega) ?_
    (((with_reducible refine' E_callT (T := "range") ?k1_387 ?k2_387 ?k3_387); (case k2_387 => with_unfolding_all rfl); (case k3_387 => with_unfolding_all rfl); (wtm_at "mine.w_name"); refine ⟨rfl, ?_⟩))
    (wtm_at "mine.wx")
    ((refine E_callB (id := "len") ?_ (by with_unfolding_all rfl) (by with_unfolding_all rfl); wtm_at "mine.w_name"; refine ⟨rfl, ?_⟩))
    (wtm_at "mine.wx")
    refine F_len hr (by omega) ?_
    (wtm_at "mine.wx")
    rw [show (as.length : Int) = (ts.length : Int) by omega]
    refine F_range fun r hrr => ?_
    refine ⟨r, rfl, AHeap.set_self _ _ _, fun I hI => ?_⟩
    have hrI := set_none hI
    have hJI : J ≠ I := ne_of hJ9 hrI.1
    refine ⟨fun j ρ H' => ∃ xs', LW L rw od bd md own qb qm ts b S ml bl ol tb0 td0 tb1 td1 H' ∧ SceneOK H' S sc 0 ∧ H' p0 = some (.tup [.str (Str.ofString "base"), .ref tb0]) ∧ H' p1 = some (.tup [.str (Str.ofString "mark"), .ref tb1]) ∧ H' tl = some (.list [.ref p0, .ref p1]) ∧ H' J = some (.pred (listIt tl (i + 1))) ∧ RowOK H' S.rl xs' ∧ RowIs (mix (stage own fb (tabOf qm) ts (i + 1)) (stage own fb (tabOf qm) ts i) j) ts xs' ∧ (∃ P, H' I = some (.pred P)) ∧ ρ = [(Str.ofString "scene", .ref sc), (Str.ofString "table", .ref tb), (Str.ofString "kind", .str nm), (Str.ofString "gdef", .ref S.gd), (Str.ofString "buffer", .ref S.bu), (Str.ofString "row", .ref rw), (Str.ofString "is_backward", .bool b)], ?_, ?_, ?_⟩
    · have y : Ext H9 ((H9.set r (.rng ts.length)).set I (.pred (rngIt ts.length 0))) := ((Ext.refl _).set hrr).set hI
      exact ⟨_, Sub.cons rfl (Sub.cons rfl (Sub.cons rfl (Sub.cons rfl (Sub.cons rfl (Sub.cons rfl (Sub.cons rfl Sub.nil)))))), xs4, W9.extJ y.toJ, hS9.ext y, y _ _ hp09, y _ _ hp19, y _ _ hT9, y _ _ hJ9, R9.ext y, mix_zero X4, ⟨_, AHeap.set_self _ _ _⟩, rfl⟩
    · rintro j σ2 H10 hj ⟨xs10, W10, hS10, hp010, hp110, hT10, hJ10, R10, X10, _, rfl⟩ hI10
      have hj' : j < ts.length := by omega
      (wtm_at "mine.w_store")
      have xI : ExtJ H10 (H10.set I (.pred (rngIt ts.length (j + 1)))) := ExtJ.setP hI10
      have W11 := W10.extJ xI
      have hS11 := hS10.extJ xI
      have R11 := R10.predSet hI10 (o := .pred (rngIt ts.length (j + 1)))
      have hp011 := xI _ _ hp010 rfl rfl
      have hp111 := xI _ _ hp110 rfl rfl
      have hT11 := xI _ _ hT10 rfl rfl
      have hJ11 : (H10.set I (.pred (rngIt ts.length (j + 1)))) J = some (.pred (listIt tl (i + 1))) := (AHeap.set_ne _ _ hJI).trans hJ10
      have hI11 : (H10.set I (.pred (rngIt ts.length (j + 1)))) I = some (.pred (rngIt ts.length (j + 1))) := AHeap.set_self _ _ _
      generalize H10.set I (.pred (rngIt ts.length (j + 1))) = H11 at W11 hS11 R11 hp011 hp111 hT11 hJ11 hI11 ⊢
      clear xI W10 hS10 R10 hp010 hp110 hT10 hJ10 hI10
      (wtm_at "mine.wx")
      refine ⟨fun e => ?_, fun e => ?_⟩
      · rcases hnm with ⟨rfl, rfl, rfl⟩ | ⟨rfl, rfl, rfl⟩
        · (wtm_at "mine.wx")
          (((with_reducible refine' E_call (fa := 386) ?k0_396 ?k1_396 ?k2_396 ?k3_396 ?k4_396); (case k0_396 => assumption); (case k2_396 => k_is); (case k3_396 => with_unfolding_all rfl); (case k4_396 => with_unfolding_all rfl); (wtm_at "mine.w_name"); refine ⟨rfl, ?_⟩))
          (wtm_at "mine.wx")
          refine Call_code (base_turn (by assumption) hqb W11 hs R11 hj' X10 hS11 fun v H12 xs12 x12 R12 X12 => ?_)
          (wtm_at "mine.wx")
          have hI12 := x12 _ _ hI11 rfl
          exact ⟨⟨_, Sub.cons rfl (Sub.cons rfl (Sub.cons rfl (Sub.cons rfl (Sub.cons rfl (Sub.cons rfl (Sub.cons rfl Sub.nil)))))), xs12, W11.extJ x12.toJ, hS11.extI x12, x12 _ _ hp011 rfl, x12 _ _ hp111 rfl, x12 _ _ hT11 rfl, x12 _ _ hJ11 rfl, R12, X12, ⟨_, hI12⟩, rfl⟩, hI12⟩
        · exact absurd e (by decide)
      · rcases hnm with ⟨rfl, rfl, rfl⟩ | ⟨rfl, rfl, rfl⟩
        · exact absurd e (by decide)
        · (wtm_at "mine.wx")
          (((with_reducible refine' E_call (fa := 400) ?k0_401 ?k1_401 ?k2_401 ?k3_401 ?k4_401); (case k0_401 => assumption); (case k2_401 => k_is); (case k3_401 => with_unfolding_all rfl); (case k4_401 => with_unfolding_all rfl); (wtm_at "mine.w_name"); refine ⟨rfl, ?_⟩))
          (wtm_at "mine.wx")
          refine Call_code (mark_turn (by assumption) W11 hs R11 hj' X10 hS11 fun v H12 xs12 x12 R12 X12 => ?_)
          (wtm_at "mine.wx")
          have hI12 := x12 _ _ hI11 rfl
          exact ⟨⟨_, Sub.cons rfl (Sub.cons rfl (Sub.cons rfl (Sub.cons rfl (Sub.cons rfl (Sub.cons rfl (Sub.cons rfl Sub.nil)))))), xs12, W11.extJ x12.toJ, hS11.extI x12, x12 _ _ hp011 rfl, x12 _ _ hp111 rfl, x12 _ _ hT11 rfl, x12 _ _ hJ11 rfl, R12, X12, ⟨_, hI12⟩, rfl⟩, hI12⟩
    · rintro σ2 H10 ⟨xs10, W10, hS10, hp010, hp110, hT10, hJ10, R10, X10, ⟨PI, hpI⟩, rfl⟩
      rw [Int.toNat_natCast] at X10
      (wtm_at "mine.wx")
      have xI : ExtJ H10 (H10.del I) := ExtJ.delP hpI
      have hJ11 : (H10.del I) J = some (.pred (listIt tl (i + 1))) := (AHeap.del_ne _ hJI).trans hJ10
      exact ⟨⟨_, Sub.cons rfl (Sub.cons rfl (Sub.cons rfl (Sub.cons rfl Sub.nil))), xs10, W10.extJ xI, xI _ _ hp010 rfl rfl, xI _ _ hp110 rfl rfl, R10.predDel hpI, mix_all X10, ⟨_, hJ11⟩, rfl⟩, hJ11, xI _ _ hT10 rfl rfl⟩
  · rintro σ1 H4 ⟨xs4, W4, hp04, hp14, R4, X4, ⟨PI, hpI⟩, rfl⟩ hT4
    (wtm_at "mine.wx")
    have x : ExtJ H4 (H4.del J) := ExtJ.delP hpI
    have W5 := W4.extJ x
    exact WS.sub (k _ xs4 W5.G W5.S (R4.predDel hpI) X4) (Sub.cons rfl (Sub.cons rfl (Sub.cons rfl Sub.nil)))

set_option maxHeartbeats 8000000 in
theorem segD {w A L a ccd h₀ d} {scope : Scope} {body rest : List Stmt} {Q : Fl → Loc → AHeap → Prop} (hb : LawIs w.params scope body) (ok : (lawCx w A scope L a ccd h₀).OK (d + 9)) {H : AHeap} {rw od bd md : Addr} {own : Int → Int × Int} {qb qm : List (Int × Two)} {ts : List Trip} {b : Bool} {S : Sc} {fb : Int → (Int × Int) × (Int × Int)} {xs : IRow}
    (G : LG L rw od bd md own qb qm ts H) (hS : StaticOK H S b) (R : RowOK H S.rl xs) (hs : RowSh ts) (X : RowIs (ir2 own fb (tabOf qm) ts) ts xs)
    (k : ∀ H' ys pl, LG L rw od bd md own qb qm ts H' → StaticOK H' S b → RowOK H' S.rl ys → Settled b own fb (tabOf qm) ts ys → PInv H' pl ((List.range ys.length).map (plc b ys)) → WS (lawCx w A scope L a ccd h₀) rest [(Str.ofString "base", .int 0), (Str.ofString "places", .ref pl), (Str.ofString "buffer", .ref S.bu), (Str.ofString "row", .ref rw), (Str.ofString "is_backward", .bool b)] H' Q) :
    WS (lawCx w A scope L a ccd h₀) ((body.drop 15).take 3 ++ rest) [(Str.ofString "buffer", .ref S.bu), (Str.ofString "row", .ref rw), (Str.ofString "is_backward", .bool b)] H Q := by
  ((refine' law_go hb ?ho_407 ?_; (case ho_407 => k_is); intro e1 e2; subst e1; subst e2; simp only [List.take_succ_cons, List.take_zero, List.drop_succ_cons, List.drop_zero, List.cons_append, List.nil_append]))
  (wtm_at "mine.wx")
  (((with_reducible refine' E_call (fa := 435) ?k0_409 ?k1_409 ?k2_409 ?k3_409 ?k4_409); (case k0_409 => assumption); (case k2_409 => k_is); (case k3_409 => with_unfolding_all rfl); (case k4_409 => with_unfolding_all rfl); (wtm_at "mine.w_name"); refine ⟨rfl, ?_⟩))
  (wtm_at "mine.wx")
  refine Call_code (settle_spec (by assumption) hS R (down_of X fun k t e => ir2_par hs e) fun H1 x1 R1 => ?_)
  have G1 := G.extI x1
  have S1 := hS.extI x1
  have hset := settled (b := b) hs X
  generalize settAll b xs xs.length = ys at R1 hset
  (wtm_at "mine.wx")
  (((with_reducible refine' E_call (fa := 554) ?k0_413 ?k1_413 ?k2_413 ?k3_413 ?k4_413); (case k0_413 => assumption); (case k2_413 => k_is); (case k3_413 => with_unfolding_all rfl); (case k4_413 => with_unfolding_all rfl); (wtm_at "mine.w_name"); refine ⟨rfl, ?_⟩))
  (wtm_at "mine.wx")
  refine Call_code (places_spec (by assumption) S1 R1 fun pl H2 x2 _ P2 => ?_)
  (wtm_at "mine.wx")
  exact WS.sub (k _ ys pl (G1.extI x2.toI) (S1.ext x2) (R1.ext x2) hset P2) (Sub.cons rfl (Sub.cons rfl (Sub.cons rfl (Sub.cons rfl (Sub.cons rfl Sub.nil)))))

section
variable {L rw od bd md : Addr} {own : Int → Int × Int} {qb qm : List (Int × Two)} {ts : List Trip}
theorem own_at {H : AHeap} (O : OwnOK H od own) {g : Int} (hg : g = 6 ∨ g = 7) : ∃ kv ep tt uu, H od = some (.dict kv ep) ∧ lookI kv g = some (.ref tt) ∧ H tt = some (.tup [.int (num g), .ref uu]) ∧ H uu = some (.tup [.int (own g).1, .int (own g).2]) := by
  obtain ⟨ep, t6, t7, u6, u7, h1, h2, h3, h4, h5⟩ := O.ex
  rcases hg with rfl | rfl
  · exact ⟨_, _, t6, u6, h1, rfl, h2, h4⟩
  · exact ⟨_, _, t7, u7, h1, rfl, h3, h5⟩
theorem two_pick {b0 b1 : AV} {g : Int} : [b0, b1][(num g).toNat]? = some (if g = 6 then b0 else b1) := num_pick g b0 b1
theorem tab_at {S : List Addr} {H : AHeap} {d : Addr} {qs : List (Int × Two)} (T : OnTab S H d qs) : ∃ kv ep, H d = some (.dict kv ep) ∧ ∀ g, match tabOf qs g with
    | none => lookI kv g = none
    | some o => ∃ l b0 b1, lookI kv g = some (.ref l) ∧ H l = some (.list [b0, b1]) ∧ placeAt H b0 o.1 ∧ placeAt H b1 o.2 := by
  obtain ⟨kv, ep, hd, h⟩ := T.ex
  refine ⟨kv, ep, hd, fun g => ?_⟩
  clear hd T
  unfold tabOf lookI
  induction h with
  | nil => rfl
  | @cons p q ps qs hr _ ih =>
    rw [List.find?_cons, List.find?_cons, hr.1]
    by_cases hk : q.1 = g
    · simp only [hk, decide_true, Option.map_some]
      obtain ⟨l, b0, b1, h1, _, h2, h3, h4⟩ := hr.2
      exact ⟨l, b0, b1, by rw [h1], h2, h3, h4⟩
    · simp only [hk, decide_false]
      exact ih
theorem sel_place {H : AHeap} {b0 b1 : AV} {o : Two} {g : Int} (h0 : placeAt H b0 o.1) (h1 : placeAt H b1 o.2) : placeAt H (if g = 6 then b0 else b1) (sel g o) := by
  unfold sel; split
  · exact h0
  · exact h1
end
set_option maxHeartbeats 8000000 in
theorem segE1 {w A L a ccd h₀ d} {scope : Scope} {body rest : List Stmt} {Q : Fl → Loc → AHeap → Prop} (hb : LawIs w.params scope body) (ok : (lawCx w A scope L a ccd h₀).OK (d + 9)) {H : AHeap} {rw od bd md pl : Addr} {own : Int → Int × Int} {qb qm : List (Int × Two)} {ts : List Trip} {b : Bool} {S : Sc} {fb : Int → (Int × Int) × (Int × Int)} {ys : IRow}
    (hqb : tabOf qb = baseTab fb) (G : LG L rw od bd md own qb qm ts H) (hS : StaticOK H S b) (R : RowOK H S.rl ys) (hs : RowSh ts) (hn : ts.length ≤ 15) (Y : Settled b own fb (tabOf qm) ts ys) (P : PInv H pl ((List.range ys.length).map (plc b ys)))
    (k : ∀ H', LG L rw od bd md own qb qm ts H' → StaticOK H' S b → RowOK H' S.rl ys → WS (lawCx w A scope L a ccd h₀) rest [(Str.ofString "buffer", .ref S.bu), (Str.ofString "row", .ref rw), (Str.ofString "is_backward", .bool b)] H' Q) :
    WS (lawCx w A scope L a ccd h₀) ((body.drop 18).take 1 ++ rest) [(Str.ofString "base", .int 0), (Str.ofString "places", .ref pl), (Str.ofString "buffer", .ref S.bu), (Str.ofString "row", .ref rw), (Str.ofString "is_backward", .bool b)] H Q := by
  ((refine' law_go hb ?ho_417 ?_; (case ho_417 => k_is); intro e1 e2; subst e1; subst e2; simp only [List.take_succ_cons, List.take_zero, List.drop_succ_cons, List.drop_zero, List.cons_append, List.nil_append]))
  obtain ⟨as, hr, hA⟩ := G.R.ex
  have hal := all2_length hA
  refine loop_rng (by assumption) (ts.length : Int) (by omega) (by omega) ?_
  (((with_reducible refine' E_callT (T := "range") ?k1_418 ?k2_418 ?k3_418); (case k2_418 => with_unfolding_all rfl); (case k3_418 => with_unfolding_all rfl); (wtm_at "mine.w_name"); refine ⟨rfl, ?_⟩))
  (wtm_at "mine.wx")
  ((refine E_callB (id := "len") ?_ (by with_unfolding_all rfl) (by with_unfolding_all rfl); wtm_at "mine.w_name"; refine ⟨rfl, ?_⟩))
  (wtm_at "mine.wx")
  refine F_len hr (by omega) ?_
  (wtm_at "mine.wx")
  rw [show (as.length : Int) = (ts.length : Int) by omega]
  refine F_range fun r hrr => ?_
  refine ⟨r, rfl, AHeap.set_self _ _ _, fun I hI => ?_⟩
  have hrI := set_none hI
  refine ⟨fun i ρ H' => Ext H H' ∧ (∃ P, H' I = some (.pred P)) ∧ ∃ nb : Nat, (∀ t, ts[i]? = some t → 0 < ht ts i → nb + ht ts i = i) ∧ ρ = [(Str.ofString "base", .int (nb : Int)), (Str.ofString "places", .ref pl), (Str.ofString "buffer", .ref S.bu), (Str.ofString "row", .ref rw), (Str.ofString "is_backward", .bool b)], ?_, ?_, ?_⟩
  · refine ⟨_, Sub.cons rfl (Sub.cons rfl (Sub.cons rfl (Sub.cons rfl (Sub.cons rfl Sub.nil)))), ((Ext.refl _).set hrr).setI hrI.1, ⟨_, AHeap.set_self _ _ _⟩, 0, fun t e hp => ?_, rfl⟩
    have := (sh_base hs 0 t e).1
    omega
  · rintro i σ1 H4 hi ⟨x4, _, nb, hnb, rfl⟩ hI4
    have hi' : i < ts.length := by omega
    have x5 := x4.setI hrI.1 (o := .pred (rngIt ts.length (i + 1)))
    have hI5 : (H4.set I (.pred (rngIt ts.length (i + 1)))) I = some (.pred (rngIt ts.length (i + 1))) := AHeap.set_self _ _ _
    (wtm_at "mine.w_store")
    generalize H4.set I (.pred (rngIt ts.length (i + 1))) = H5 at x5 hI5 ⊢
    clear hI4 x4
    obtain ⟨t, ht'⟩ : ∃ t, ts[i]? = some t := ⟨ts[i], List.getElem?_eq_getElem hi'⟩
    obtain ⟨ai, hai, tl, rfl, htl⟩ := all2_get' hA i t ht'
    have hr5 := x5 _ _ hr
    have htl5 := x5 _ _ htl
    have hh := sh_ht hs ht'
    have hbu5 := x5 _ _ hS.bu
    have hbud5 := x5 _ _ hS.bud
    have R5 := R.ext x5
    obtain ⟨p, hp⟩ : ∃ p, ys[i]? = some p := ⟨ys[i]'(by rw [Y.len]; exact hi'), List.getElem?_eq_getElem _⟩
    obtain ⟨hpi, u, hpid⟩ := R5.at_ _ _ hp
    (wtm_at "mine.wx")
    refine I_list hr5 (by omega) (by omega) (by rw [Int.toNat_natCast]; exact hai) ?_
    (wtm_at "mine.wx")
    refine A_tup (by assumption) htl5 ?_ rfl rfl
    (wtm_at "mine.wx")
    refine ⟨fun e => ?_, fun e => ?_⟩
    · (wtm_at "mine.wx")
      refine I_row R5 hp rfl ?_
      (wtm_at "mine.wx")
      refine I_row R5 hp rfl ?_
      (wtm_at "mine.wx")
      refine ⟨by simp, fun l1 hl1 => ?_⟩
      have y1 : Ext H5 (H5.set l1 (.tup [.int p.2.2.xo, .int p.2.2.yo])) := (Ext.refl _).set hl1
      have e1 : (H5.set l1 (.tup [.int p.2.2.xo, .int p.2.2.yo])) l1 = some (.tup [.int p.2.2.xo, .int p.2.2.yo]) := AHeap.set_self _ _ _
      generalize H5.set l1 (.tup [.int p.2.2.xo, .int p.2.2.yo]) = H6 at y1 e1 ⊢
      (wtm_at "mine.wx")
      refine ⟨by simp, fun l2 hl2 => ?_⟩
      have y2 : Ext H6 (H6.set l2 (.tup [.int 0, .int 0])) := (Ext.refl _).set hl2
      have e2 : (H6.set l2 (.tup [.int 0, .int 0])) l2 = some (.tup [.int 0, .int 0]) := AHeap.set_self _ _ _
      generalize H6.set l2 (.tup [.int 0, .int 0]) = H7 at y2 e2 ⊢
      refine C_neT (by assumption) (y2 _ _ e1) e2 ?_
      have hz : ht ts i = 0 := by simp at e; omega
      have hb0 := Y.base i t p ht' hp hz
      (wtm_at "mine.wx")
      refine ⟨fun e' => ?_, fun _ => ?_⟩
      · simp [hb0.1, hb0.2] at e'
      (wtm_at "mine.wx")
      have x7 := (x5.trans y1).trans y2
      have hI7 := y2 _ _ (y1 _ _ hI5)
      refine ⟨⟨_, Sub.cons rfl (Sub.cons rfl (Sub.cons rfl (Sub.cons rfl (Sub.cons rfl Sub.nil)))), x7, ⟨_, hI7⟩, i, fun t' e' hpos => ?_, rfl⟩, hI7⟩
      obtain ⟨m, p', k1, k2, k3⟩ := sh_prev hs e' hpos
      have : m = i := by omega
      subst this
      omega
    · have hpos : 0 < ht ts i := by simp at e; omega
      have hgl : t.1 = 6 ∨ t.1 = 7 := by
        rcases sh_mark hs ht' with ⟨_, h⟩ | ⟨h, _⟩
        · exact h
        · omega
      have G5 := G.extI x5.toI
      obtain ⟨kvo, epo, tt, uu, ho1, ho2, ho3, ho4⟩ := own_at G5.O hgl
      obtain ⟨kvm, epm, hm1, hm2⟩ := tab_at G5.M
      obtain ⟨kvb, epb, hb1, hb2⟩ := tab_at G5.B
      have d2 := G5.d2
      have d3 := G5.d3
      have d4 := G5.d4
      have hnbi := hnb t ht' hpos
      (wtm_at "mine.wx")
      refine I_dict ho1 ho2 ?_
      (wtm_at "mine.wx")
      refine A_tup (by assumption) ho3 ?_ rfl rfl
      with_reducible refine As_cons ?_
      (wtm_at "mine.w_store")
      with_reducible refine As_cons ?_
      (wtm_at "mine.w_store")
      with_reducible refine As_nil ?_
      with_reducible refine S_assign0 ?_
      refine WE.mono (Q := fun a' H6 => placeAt H6 a' (onM (tabOf qm) ts i t.1) ∧ Ext H5 H6) ?_ ?_
      · (wtm_at "mine.wx")
        refine ⟨fun e1 => ?_, fun e1 => ?_⟩
        · have h1 : 1 < ht ts i := by simp at e1; omega
          obtain ⟨m, q, k1, k2, k3⟩ := sh_prev hs ht' hpos
          obtain ⟨am, ham, tlm, rfl, htlm⟩ := all2_get' hA m q k2
          have htlm5 := x5 _ _ htlm
          have honM : onM (tabOf qm) ts i t.1 = (tabOf qm q.1).bind (sel t.1) := by
            unfold onM; rw [if_pos h1, show i - 1 = m by omega, trg_of k2]
          (wtm_at "mine.wx")
          ((refine' E_dget ?_ _ ?he_440 ?hs_440; (case he_440 => with_unfolding_all rfl); (case hs_440 => with_unfolding_all rfl)))
          (wtm_at "mine.wx")
          refine ⟨md, kvm, epm, rfl, hm1, ?_⟩
          (wtm_at "mine.wx")
          refine I_list hr5 (by omega) (by omega) (by rw [show ((i : Int) - 1).toNat = m by omega]; exact ham) ?_
          (wtm_at "mine.wx")
          refine I_tup htlm5 (by decide) (by decide) rfl ?_
          (wtm_at "mine.wx")
          refine ⟨by simp, fun nl hnl => ?_⟩
          have y6 : Ext H5 (H5.set nl (.list [.none, .none])) := (Ext.refl _).set hnl
          have e6 : (H5.set nl (.list [.none, .none])) nl = some (.list [.none, .none]) := AHeap.set_self _ _ _
          generalize H5.set nl (.list [.none, .none]) = H6 at y6 e6 ⊢
          refine ⟨q.1, rfl, y6 _ _ hm1, ?_⟩
          (wtm_at "mine.wx")
          have hf := hm2 q.1
          have nb0 := num_bounds t.1
          cases hq : tabOf qm q.1 with
          | none =>
            rw [hq] at hf
            rw [hf]
            refine I_list e6 nb0.1 (by omega) two_pick ⟨?_, y6⟩
            rw [honM, hq]
            show (if t.1 = 6 then AV.none else AV.none) = AV.none
            split <;> rfl
          | some o =>
            rw [hq] at hf
            obtain ⟨l, b0, b1, f1, f2, f3, f4⟩ := hf
            rw [f1]
            refine I_list (y6 _ _ f2) nb0.1 (by omega) two_pick ⟨?_, y6⟩
            rw [honM, hq]
            exact sel_place (f3.extE y6) (f4.extE y6)
        · (wtm_at "mine.wx")
          refine ⟨?_, Ext.refl _⟩
          unfold onM
          rw [if_neg (by simp at e1; omega)]
          rfl
      rintro bn H6 ⟨hbn, x6⟩
      (wtm_at "mine.w_store")
      with_reducible refine S_assign0 ?_
      have hr6 := x6 _ _ hr5
      have d36 := x6 _ _ d3
      refine WE.mono (Q := fun a' H7 => ∃ (l : Addr) (m : Nat) (gl : Addr) (g : Int × Int), a' = .ref l ∧ H7 l = some (.tup [.int (m : Int), .ref gl]) ∧ H7 gl = some (.tup [.int g.1, .int g.2]) ∧ Ext H6 H7 ∧ m < ts.length ∧ plc b ys i = ((plc b ys m).1 + g.1 - (own t.1).1, (plc b ys m).2 + g.2 - (own t.1).2)) ?_ ?_
      · have hmk := Y.mark i t ht' hpos
        (wtm_at "mine.wx")
        refine ⟨fun e1 => ?_, fun e1 => ?_⟩
        · have hno : onM (tabOf qm) ts i t.1 = none := by
            cases ho : onM (tabOf qm) ts i t.1 with
            | none => rfl
            | some o =>
              rw [ho] at hbn
              obtain ⟨l, rfl, _⟩ := hbn
              cases e1
          rw [hno] at hmk
          obtain ⟨hle, tb, kb1, kb2, kb3⟩ := sh_base hs i t ht'
          obtain ⟨am, ham, tlm, rfl, htlm⟩ := all2_get' hA _ tb kb1
          have htlm6 := x6 _ _ (x5 _ _ htlm)
          have hf := hb2 tb.1
          rw [hqb] at hf
          unfold baseTab at hf
          rw [if_pos kb3] at hf
          obtain ⟨l, b0, b1, f1, f2, f3, f4⟩ := hf
          have hsel := sel_place (g := t.1) (o := (some (fb tb.1).1, some (fb tb.1).2)) (f3.extE x6) (f4.extE x6)
          have hse : sel t.1 (some (fb tb.1).1, some (fb tb.1).2) = some (onB fb ts i t.1) := by
            unfold sel onB; rw [trg_of kb1]; dsimp only; split <;> rfl
          rw [hse] at hsel
          obtain ⟨gl, hgle, hgl6⟩ := hsel
          have nb0 := num_bounds t.1
          (wtm_at "mine.wx")
          refine I_list hr6 (by omega) (by omega) (by rw [Int.toNat_natCast, show nb = i - ht ts i by omega]; exact ham) ?_
          (wtm_at "mine.wx")
          refine I_tup htlm6 (by decide) (by decide) rfl ?_
          (wtm_at "mine.wx")
          refine I_dict (x6 _ _ hb1) f1 ?_
          (wtm_at "mine.wx")
          refine I_list (x6 _ _ f2) nb0.1 (by omega) two_pick ?_
          rw [hgle]
          (wtm_at "mine.wx")
          refine ⟨by simp, fun l' hl' => ⟨l', nb, gl, onB fb ts i t.1, rfl, AHeap.set_self _ _ _, set_get hgl6 hl', (Ext.refl _).set hl', by omega, ?_⟩⟩
          rw [show nb = i - ht ts i by omega]
          exact hmk
        · cases ho : onM (tabOf qm) ts i t.1 with
          | none =>
            rw [ho] at hbn
            have hbn' : bn = .none := hbn
            rw [hbn'] at e1; cases e1
          | some g =>
            rw [ho] at hbn hmk
            obtain ⟨gl, rfl, hgl6⟩ := hbn
            (wtm_at "mine.wx")
            refine ⟨by simp, fun l' hl' => ⟨l', i - 1, gl, g, rfl, ?_, set_get hgl6 hl', (Ext.refl _).set hl', by omega, hmk⟩⟩
            rw [AHeap.set_self, show ((i - 1 : Nat) : Int) = (i : Int) - 1 by omega]
      rintro _ H7 ⟨l, m, gl, g, rfl, hl7, hgl7, x7, hm, hplc⟩
      (wtm_at "mine.wx")
      refine A_tup (by assumption) hl7 ?_ rfl rfl
      have x57 := x6.trans x7
      have x07 := x5.trans x57
      have hI7 := x57 _ _ hI5
      have ho47 := x57 _ _ ho4
      have P7 := P.ext (Ext.toT x07) (fun as e => x07 _ _ e)
      obtain ⟨ps, hps, hPs⟩ := P7.ex
      have hpsl : ps.length = ts.length := by rw [all2_length hPs]; simp [Y.len]
      have pick : ∀ j, j < ts.length → ∃ q, ps[j]? = some (.ref q) ∧ H7 q = some (.tup [.int (plc b ys j).1, .int (plc b ys j).2]) := fun j hj => by
        obtain ⟨a', ha', q, rfl, hq⟩ := all2_get' hPs j (plc b ys j) (by rw [List.getElem?_map, List.getElem?_range (by rw [Y.len]; exact hj)]; rfl)
        exact ⟨q, ha', hq⟩
      obtain ⟨qi, hqi, hqi7⟩ := pick i hi'
      obtain ⟨qm', hqm, hqm7⟩ := pick m hm
      (wtm_at "mine.wx")
      refine I_list hps (by omega) (by omega) (by rw [Int.toNat_natCast]; exact hqi) ?_
      (wtm_at "mine.wx")
      refine I_list hps (by omega) (by omega) (by rw [Int.toNat_natCast]; exact hqm) ?_
      (wtm_at "mine.wx")
      refine I_tup hqm7 (by decide) (by decide) rfl ?_
      (wtm_at "mine.wx")
      refine I_tup hgl7 (by decide) (by decide) rfl ?_
      (wtm_at "mine.wx")
      refine I_tup ho47 (by decide) (by decide) rfl ?_
      (wtm_at "mine.wx")
      refine I_list hps (by omega) (by omega) (by rw [Int.toNat_natCast]; exact hqm) ?_
      (wtm_at "mine.wx")
      refine I_tup hqm7 (by decide) (by decide) rfl ?_
      (wtm_at "mine.wx")
      refine I_tup hgl7 (by decide) (by decide) rfl ?_
      (wtm_at "mine.wx")
      refine I_tup ho47 (by decide) (by decide) rfl ?_
      (wtm_at "mine.wx")
      refine ⟨by simp, fun l2 hl2 => ?_⟩
      refine C_neT (by assumption) (set_get hqi7 hl2) (AHeap.set_self _ _ _) ?_
      (wtm_at "mine.wx")
      refine ⟨fun e' => ?_, fun _ => ?_⟩
      · rw [hplc] at e'
        simp at e'
      (wtm_at "mine.wx")
      have hI8 := set_get hI7 hl2 (o' := .tup [.int ((plc b ys m).1 + g.1 - (own t.1).1), .int ((plc b ys m).2 + g.2 - (own t.1).2)])
      refine ⟨⟨_, Sub.cons rfl (Sub.cons rfl (Sub.cons rfl (Sub.cons rfl (Sub.cons rfl Sub.nil)))), x07.set hl2, ⟨_, hI8⟩, nb, fun t' e' hpos' => ?_, rfl⟩, hI8⟩
      obtain ⟨m', p', k1, k2, k3⟩ := sh_prev hs e' hpos'
      have : m' = i := by omega
      subst this
      omega
  · rintro σ1 H4 ⟨x4, ⟨PI, hpI⟩, nb, hnb, rfl⟩
    (wtm_at "mine.wx")
    have x5 : Ext H (H4.del I) := x4.del hrI.1
    exact WS.sub (k _ (G.extI x5.toI) (hS.ext x5) (R.ext x5)) (Sub.cons rfl (Sub.cons rfl (Sub.cons rfl Sub.nil)))

theorem nums_rep (k : Int) : ∀ n : Nat, Nums (List.replicate n (.int k)) (List.replicate n k)
  | 0 => .nil
  | n + 1 => .cons (nums_rep k n)
set_option maxHeartbeats 8000000 in
theorem segE2 {w A L a ccd h₀ d} {scope : Scope} {body : List Stmt} {Q : Fl → Loc → AHeap → Prop} (hb : LawIs w.params scope body) (ok : (lawCx w A scope L a ccd h₀).OK (d + 9)) {H : AHeap} {rw od bd md : Addr} {own : Int → Int × Int} {qb qm : List (Int × Two)} {ts : List Trip} {b : Bool} {S : Sc} {fb : Int → (Int × Int) × (Int × Int)} {fm : Tab} {ys : IRow}
    (G : LG L rw od bd md own qb qm ts H) (hS : StaticOK H S b) (R : RowOK H S.rl ys) (hn : ts.length ≤ 15) (Y : Settled b own fb fm ts ys)
    (k : ∀ σ' H', Q (.ret (.bool true)) σ' H') :
    WS (lawCx w A scope L a ccd h₀) (body.drop 19) [(Str.ofString "buffer", .ref S.bu), (Str.ofString "row", .ref rw), (Str.ofString "is_backward", .bool b)] H Q := by
  ((refine' law_go hb ?ho_469 ?_; (case ho_469 => k_is); intro e1 e2; subst e1; subst e2; simp only [List.take_succ_cons, List.take_zero, List.drop_succ_cons, List.drop_zero, List.cons_append, List.nil_append]))
  have hbu := hS.bu
  have hbud := hS.bud
  have hyl := Y.len
  (wtm_at "mine.wx")
  refine comp_all (cl := []) (by assumption) (ys.map fun p => .ref p.1) (fun i y H' => y = .int 0) (fun _ _ _ _ _ h => h) rfl (by decide) rfl (by decide) rfl ?_
  (wtm_at "mine.wx")
  refine ⟨by simp; omega, ItG_list (by assumption) R.rl, fun i a' C H3 hx x3 hC => ?_, fun D zs H3 x3 hD hzs hlen hP => ?_⟩
  · obtain ⟨p, hp, rfl⟩ : ∃ p, ys[i]? = some p ∧ a' = .ref p.1 := by
      rw [List.getElem?_map, Option.map_eq_some_iff] at hx
      obtain ⟨p, e1, e2⟩ := hx
      exact ⟨p, e1, e2.symm⟩
    obtain ⟨hpi, u, hpid⟩ := (R.ext x3).at_ _ _ hp
    (wtm_at "mine.wx")
    exact ⟨Ext.refl _, by rw [Y.par p (List.mem_of_getElem? hp)]⟩
  have hz1 : Nums zs (List.replicate ts.length 0) := by
    refine nums_eq (by simp at hlen; simp; omega) fun i y e => ⟨0, ?_, hP i y e⟩
    have := (List.getElem?_eq_some_iff.mp e).1
    rw [List.getElem?_replicate, if_pos (by simp at hlen; omega)]
  have G3 := G.extI x3.toI
  obtain ⟨as, hr, hA⟩ := G3.R.ex
  have hal := all2_length hA
  (wtm_at "mine.wx")
  refine ⟨by simp, fun l hl => ?_⟩
  have y4 : Ext H3 (H3.set l (.list [.int 0])) := (Ext.refl _).set hl
  have e4 : (H3.set l (.list [.int 0])) l = some (.list [.int 0]) := AHeap.set_self _ _ _
  generalize H3.set l (.list [.int 0]) = H4 at y4 e4 ⊢
  (wtm_at "mine.wx")
  ((refine E_callB (id := "len") ?_ (by with_unfolding_all rfl) (by with_unfolding_all rfl); wtm_at "mine.w_name"; refine ⟨rfl, ?_⟩))
  (wtm_at "mine.wx")
  refine F_len (y4 _ _ hr) (by omega) ?_
  (wtm_at "mine.wx")
  refine O_mul1 e4 (by omega) (by omega) fun l2 hl2 => ?_
  have y5 : Ext H4 (H4.set l2 (.list (List.replicate (as.length : Int).toNat (.int 0)))) := (Ext.refl _).set hl2
  have e5 : (H4.set l2 (.list (List.replicate (as.length : Int).toNat (.int 0)))) l2 = some (.list (List.replicate (as.length : Int).toNat (.int 0))) := AHeap.set_self _ _ _
  generalize H4.set l2 (.list (List.replicate (as.length : Int).toNat (.int 0))) = H5 at y5 e5 ⊢
  rw [Int.toNat_natCast, hal] at e5
  refine C_eqL (by assumption) ((y4.trans y5) _ _ hzs) e5 hz1 (nums_rep 0 _) ?_
  (wtm_at "mine.wx")
  have x5 := (x3.trans y4).trans y5
  have R5 := R.ext x5
  have hbu5 := x5 _ _ hbu
  have hbud5 := x5 _ _ hbud
  have hr5 := (y4.trans y5) _ _ hr
  have hA5 := all2_mono hA fun _ _ h => TripAt.ext h (y4.trans y5).toT
  refine ⟨(fun e => nomatch e), fun _ => ?_⟩
  (wtm_at "mine.wx")
  refine comp_all (cl := []) (by assumption) (ys.map fun p => .ref p.1) (fun i y H' => ∃ t, ts[i]? = some t ∧ y = .int t.2.1) (fun _ _ _ _ _ h => h) rfl (by decide) rfl (by decide) rfl ?_
  (wtm_at "mine.wx")
  refine ⟨by simp; omega, ItG_list (by assumption) R5.rl, fun i a' C H6 hx x6 hC => ?_, fun D6 zs6 H6 x6 hD6 hzs6 hlen6 hP6 => ?_⟩
  · obtain ⟨p, hp, rfl⟩ : ∃ p, ys[i]? = some p ∧ a' = .ref p.1 := by
      rw [List.getElem?_map, Option.map_eq_some_iff] at hx
      obtain ⟨p, e1, e2⟩ := hx
      exact ⟨p, e1, e2.symm⟩
    obtain ⟨hpi, u, hpid⟩ := (R5.ext x6).at_ _ _ hp
    have hi := (List.getElem?_eq_some_iff.mp hp).1
    have ht' : ts[i]? = some (ts[i]'(by omega)) := List.getElem?_eq_getElem _
    (wtm_at "mine.wx")
    exact ⟨Ext.refl _, _, ht', by rw [Y.xa i _ p ht' hp]⟩
  have hz6 : Nums zs6 (ts.map fun t => t.2.1) := by
    refine nums_eq (by simp at hlen6; simp; omega) fun i y e => ?_
    obtain ⟨t, h1, h2⟩ := hP6 i y e
    exact ⟨t.2.1, by rw [List.getElem?_map, h1]; rfl, h2⟩
  (wtm_at "mine.wx")
  refine comp_all (cl := []) (by assumption) as (fun i y H' => ∃ t, ts[i]? = some t ∧ y = .int t.2.1) (fun _ _ _ _ _ h => h) rfl (by decide) rfl (by decide) rfl ?_
  (wtm_at "mine.wx")
  refine ⟨by omega, ItG_list (by assumption) (x6 _ _ hr5), fun i a' C H7 hx x7 hC => ?_, fun D7 zs7 H7 x7 hD7 hzs7 hlen7 hP7 => ?_⟩
  · obtain ⟨t, ht', tl, rfl, htl⟩ := all2_get hA5 i a' hx
    have htl7 := x7 _ _ (x6 _ _ htl)
    (wtm_at "mine.wx")
    refine I_tup htl7 (by decide) (by decide) rfl ?_
    (wtm_at "mine.wx")
    exact ⟨Ext.refl _, t, ht', rfl⟩
  have hz7 : Nums zs7 (ts.map fun t => t.2.1) := by
    refine nums_eq (by simp; omega) fun i y e => ?_
    obtain ⟨t, h1, h2⟩ := hP7 i y e
    exact ⟨t.2.1, by rw [List.getElem?_map, h1]; rfl, h2⟩
  refine C_eqL (by assumption) (x7 _ _ hzs6) hzs7 hz6 hz7 ?_
  exact k _ _

theorem split_body {α : Type} (body : List α) (n m : Nat) : body.drop n = (body.drop n).take m ++ body.drop (n + m) := by
  rw [← List.drop_drop, List.take_append_drop]
theorem tab_base {x1 y1 x2 y2 : Int × Int} : tabOf [(1, (some x1, some y1)), (2, (some x2, some y2))] = baseTab (fun g => if g = 1 then (x1, y1) else (x2, y2)) := by
  funext g
  unfold tabOf baseTab
  by_cases h1 : g = 1
  · subst h1; rfl
  · by_cases h2 : g = 2
    · subst h2; rfl
    · rw [if_neg (by omega)]
      have a : ¬ (1 : Int) = g := fun e => h1 e.symm
      have b : ¬ (2 : Int) = g := fun e => h2 e.symm
      simp [a, b]
theorem law_body {w A L a ccd h₀ d} {scope : Scope} {body : List Stmt} {Q : Fl → Loc → AHeap → Prop} (hb : LawIs w.params scope body) (ok : (lawCx w A scope L a ccd h₀).OK (d + 9)) {H : AHeap} {sa : Addr} {vs : List Value} {ns : List Int}
    (hsa : ∃ ob, h₀.get? sa = some ob ∧ ob.cls = .type "list" ∧ ∃ n, ob.data = .seq vs.toArray n) (hI : IntsAre vs ns) (hlen : ns.length ≤ 63)
    (c1 : H (L + 1) = some (.cell none)) (c2 : H (L + 1 + 1) = some (.cell none)) (c3 : H (L + 1 + 1 + 1) = some (.cell none)) (c4 : H (L + 1 + 1 + 1 + 1) = some (.cell none))
    (k : ∀ σ' H', Q (.ret (.bool true)) σ' H') : WS (lawCx w A scope L a ccd h₀) body [(Str.ofString "script", .ref sa)] H Q := by
  have e0 : body = body.take 4 ++ body.drop 4 := (List.take_append_drop 4 body).symm
  rw [e0]
  refine segA1 hb ok hsa hI hlen c1 c2 c3 c4 fun H1 pe cl b rw_ od own ts F1 hrp hs hn0 hn O1 => ?_
  rw [split_body body 4 1]
  refine segA2 hb ok F1 hrp O1 fun H2 bd x1 y1 x2 y2 F2 O2 B2 => ?_
  rw [split_body body (4 + 1) 1]
  refine segA3 hb ok F2 hrp O2 B2 fun H3 md qm F3 O3 B3 M3 hqn hql => ?_
  have G3 := F3.toG O3 B3 M3
  rw [split_body body (4 + 1 + 1) 2]
  refine segB1 hb ok G3 hs hn fun H4 il xs G4 R4 X4 => ?_
  rw [split_body body (4 + 1 + 1 + 2) 2]
  refine segB2 hb ok G4 R4 fun H5 S _ G5 R5 S5 => ?_
  rw [split_body body (4 + 1 + 1 + 2 + 2) 1]
  refine segB3 hb ok G5 fun H6 ml x6 M6 => ?_
  have G6 := G5.extI x6.toI
  have R6 := R5.ext x6
  have S6 := S5.ext x6
  rw [split_body body (4 + 1 + 1 + 2 + 2 + 1) 1]
  refine segB4 hb ok G6 (fun q hq => by simp at hq; rcases hq with rfl | rfl <;> exact ⟨_, _, rfl⟩) (by simp) (by simp) fun H7 bl x7 B7 => ?_
  have G7 := G6.extI x7.toI
  have R7 := R6.ext x7
  have S7 := S6.ext x7
  have M7 := M6.extI x7.toI
  rw [split_body body (4 + 1 + 1 + 2 + 2 + 1 + 1) 1]
  refine segB5 hb ok G7 hqn hql fun H8 ol x8 O8 => ?_
  have G8 := G7.extI x8.toI
  have R8 := R7.ext x8
  have S8 := S7.ext x8
  have M8 := M7.extI x8.toI
  have B8 := B7.extI x8.toI
  rw [split_body body (4 + 1 + 1 + 2 + 2 + 1 + 1 + 1) 1]
  refine segB6 hb ok G8 S8 M8 B8 O8 R8 fun H9 tb0 td0 tb1 td1 tl W9 T9 R9 => ?_
  rw [split_body body (4 + 1 + 1 + 2 + 2 + 1 + 1 + 1 + 1) 1]
  refine segC hb ok tab_base W9 T9 R9 hs hn X4 fun H10 xs10 G10 S10 R10 X10 => ?_
  rw [split_body body (4 + 1 + 1 + 2 + 2 + 1 + 1 + 1 + 1 + 1) 3]
  refine segD hb ok G10 S10 R10 hs X10 fun H11 ys pl G11 S11 R11 Y11 P11 => ?_
  rw [split_body body (4 + 1 + 1 + 2 + 2 + 1 + 1 + 1 + 1 + 1 + 3) 1]
  refine segE1 hb ok tab_base G11 S11 R11 hs hn Y11 P11 fun H12 G12 S12 R12 => ?_
  exact segE2 hb ok G12 S12 R12 hn Y11 k

def H0 : AHeap := fun _ => none
def Hi (L : Addr) : AHeap := AHeap.set (AHeap.set (AHeap.set (AHeap.set H0 (L + 1) (.cell none)) (L + 1 + 1) (.cell none)) (L + 1 + 1 + 1) (.cell none)) (L + 1 + 1 + 1 + 1) (.cell none)
theorem law_start {w A L a ccd h₀ s m} {scope : Scope} {o1 o2 o3 o4 : Obj} {sa : Addr} (F : Fr h₀ L s.heap m) (N : News h₀ L s.heap [(L + 1 + 1 + 1 + 1, o4), (L + 1 + 1 + 1, o3), (L + 1 + 1, o2), (L + 1, o1)])
    (d4 : o4.data = .cell none) (d3 : o3.data = .cell none) (d2 : o2.data = .cell none) (d1 : o1.data = .cell none) (hm : m (Str.ofString "script") = some (.ref sa)) (hlow : sysModules < L) : St (lawCx w A scope L a ccd h₀) [(Str.ofString "script", .ref sa)] (Hi L) s := by
  refine ⟨m, _, F, N, ?_, ?_, ?_, ⟨_, .tail _ (.tail _ (.tail _ (.head _))), rfl⟩, ?_⟩
  · simp only [List.map_cons, List.map_nil, List.nodup_cons, List.mem_cons, List.not_mem_nil, or_false, not_or, not_false_eq_true, List.nodup_nil, and_true]
    exact ⟨⟨Ne.symm q34, Ne.symm q24, Ne.symm q14⟩, ⟨Ne.symm q23, Ne.symm q13⟩, Ne.symm q12⟩
  · intro x v e
    rw [List.lookup_cons] at e
    cases hx : x == Str.ofString "script" with
    | true => rw [hx] at e; cases e; rw [beq_iff_eq.mp hx]; exact ⟨_, hm, .ref _⟩
    | false => rw [hx] at e; cases e
  · intro p hp
    simp only [List.mem_cons, List.not_mem_nil, or_false] at hp
    have h1 : sysModules < L + 1 := Nat.lt_succ_of_lt hlow
    have h2 : sysModules < L + 1 + 1 := Nat.lt_succ_of_lt h1
    have h3 : sysModules < L + 1 + 1 + 1 := Nat.lt_succ_of_lt h2
    have h4 : sysModules < L + 1 + 1 + 1 + 1 := Nat.lt_succ_of_lt h3
    rcases hp with rfl | rfl | rfl | rfl
    · exact h4
    · exact h3
    · exact h2
    · exact h1
  · intro b o e
    unfold Hi at e
    by_cases h4 : b = L + 1 + 1 + 1 + 1
    · subst h4; rw [AHeap.set_self] at e; cases e; exact ⟨o4, .head _, none, d4, trivial⟩
    rw [AHeap.set_ne _ _ h4] at e
    by_cases h3 : b = L + 1 + 1 + 1
    · subst h3; rw [AHeap.set_self] at e; cases e; exact ⟨o3, .tail _ (.head _), none, d3, trivial⟩
    rw [AHeap.set_ne _ _ h3] at e
    by_cases h2 : b = L + 1 + 1
    · subst h2; rw [AHeap.set_self] at e; cases e; exact ⟨o2, .tail _ (.tail _ (.head _)), none, d2, trivial⟩
    rw [AHeap.set_ne _ _ h2] at e
    by_cases h1 : b = L + 1
    · subst h1; rw [AHeap.set_self] at e; cases e; exact ⟨o1, .tail _ (.tail _ (.tail _ (.head _))), none, d1, trivial⟩
    rw [AHeap.set_ne _ _ h1] at e
    cases e
theorem law_fin {w A L a ccd h₀ s d} {scope : Scope} {body : List Stmt} {Qf : Flow → Shared → Prop} {E : Value → Shared → Prop} {sa : Addr} {vs : List Value} {ns : List Int} (hb : LawIs w.params scope body) (ok : (lawCx w A scope L a ccd h₀).OK (d + 9))
    (hsa : ∃ ob, h₀.get? sa = some ob ∧ ob.cls = .type "list" ∧ ∃ n, ob.data = .seq vs.toArray n) (hI : IntsAre vs ns) (hlen : ns.length ≤ 63)
    (S : St (lawCx w A scope L a ccd h₀) [(Str.ofString "script", .ref sa)] (Hi L) s)
    (hQ : ∀ s' m, Fr h₀ L s'.heap m → s'.gens = s.gens → s'.os = s.os → Qf (.ret (.bool true)) s') : wpAny (model PP w) A (execs body (lawCx w A scope L a ccd h₀).env) Qf E s := by
  have c1 : Hi L (L + 1) = some (.cell none) := by unfold Hi; rw [AHeap.set_ne _ _ q14, AHeap.set_ne _ _ q13, AHeap.set_ne _ _ q12, AHeap.set_self]
  have c2 : Hi L (L + 1 + 1) = some (.cell none) := by unfold Hi; rw [AHeap.set_ne _ _ q24, AHeap.set_ne _ _ q23, AHeap.set_self]
  have c3 : Hi L (L + 1 + 1 + 1) = some (.cell none) := by unfold Hi; rw [AHeap.set_ne _ _ q34, AHeap.set_self]
  have c4 : Hi L (L + 1 + 1 + 1 + 1) = some (.cell none) := by unfold Hi; rw [AHeap.set_self]
  refine wpAny_mono (law_body (Q := fun fl _ _ => fl = .ret (.bool true)) hb ok hsa hI hlen c1 c2 c3 c4 (fun _ _ => rfl) s S) (fun f s' ⟨fl, σ', H', i, S', r, q⟩ => ?_) fun _ _ e => e.elim
  subst q
  cases i with
  | ret i =>
    cases i
    obtain ⟨m', news', S'⟩ := S'
    exact hQ s' m' S'.F r.gens r.os

local macro_rules | `(tactic| k_qdec) => `(tactic| decide +kernel)
set_option maxHeartbeats 8000000 in
theorem cwx : PySem.Challenge.rw_pb0198_01.Holds := by
  refine Mine.hd ?_
  k_go0
  rename Top _ _ _ _ _ _ => T9
  rename Frag.In _ _ => KX9
  rename Heap.IsList _ _ _ => hL9
  rename IntsAre _ _ => hI9
  rename ¬ (_ : Int) < _ => hc9
  rename Below _ _ _ _ => K9
  rename Fr _ _ _ _ => F9
  rename News _ _ _ _ => N9
  rename CellsAre _ _ _ => X9
  refine law_fin (d := 0) ?hb ?ok hL9 hI9 ?hlen (law_start F9 N9 ?d4 ?d3 ?d2 ?d1 ?hm ?hlow) ?hQ
  case hb => exact ⟨_, _, _, _, _, _, _, _, _, _, _, _, _, by k_is⟩
  case ok => exact ⟨⟨_, _, [], K9, Around.frames_deeper K9.stack⟩, ⟨_, _, _, T9⟩, KX9, rfl, Nat.le_of_ble_eq_true rfl, Nat.le_of_ble_eq_true rfl, rfl⟩
  case hlen => omega
  case d4 => assumption
  case d3 => assumption
  case d2 => assumption
  case d1 => assumption
  case hm => exact rfl
  case hlow => exact Nat.lt_trans (show sysModules < 559 by decide) (Heap.lt_size (KX9 559 _ (by k_is)))
  case hQ =>
    intro s' m' F' hg' hos'
    refine goodW_bool F' (hg'.trans (by assumption)) (raisesW_false ?_) ?_ hos'
    · wrow_none_raised
    ·
      wrow_post

end Mine
theorem PySem.Challenge.cw_pb0198_01_holds : PySem.Challenge.rw_pb0198_01.Holds := by
  exact Mine.cwx
